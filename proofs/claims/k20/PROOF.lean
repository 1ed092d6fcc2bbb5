import PyProof.Rows.All
import Wide.All
import OpenK.AllK
import Wide.FinOn
import PyProof.EqAt
import PyProof.EqKinds
import PyProof.TupleCall
import HandS.Base
import HandS.Call
import HandS.List
import HandS.Comp
import HandS.Ends
import HandS.Dict
import HandS.Iter
import HandS.Text
import HandS.Words
import HandS.WordsList
import HandS.WordsDict
import HandS.Exc
import HandS.ExcOwn
import HandS.WordsExc
import HandS.Wide
import HandS.Zip
import HandS.SortInts
import HandS.Deep
import HandS.IsInst
import HandS.TupMul
import PyProof.Rows.RuleB_pow
import PyProof.Rows.ReprR
import KE.KSortedM
import HandS.Style
import HandS.Property
import KE.KAssignIn
import HandS.OwnEq
import PyProof.InstNe
import OpenK.KMeth
import OpenK.KOps
import HandS.More
import HandS.Conv
import HandS.TupAny
import HandS.RaiseMore
import PyProof.ReprRoads
import PyProof.ReprBulk
import HandS.Defaults
import HandS.Head0
import HandS.Head1
import HandS.Head2
import HandS.HeadEnd
import HandS.HeadHook1
import HandS.HeadHook2
import KE.KStateDown
import HandS.Set
import HandS.NoneIn
import HandS.SetFor
import PyProof.Rows.SetFrom
import HandS.Sort
import HandS.SortRule
import PySem.Challenge.RW_cutwalks_k20_meetings_of_walks
set_option Elab.async false
set_option linter.all false
set_option maxRecDepth 100000
set_option maxHeartbeats 4000000
/-! The framework: data trees, what represents them, readings by functions on data. -/
namespace G
open PySem PySem.Spec PyProof.Rows L2

abbrev St := L2.St
/-- pure data; obj: an instance of the class with that number, its attributes' names and values -/
inductive D where
  | non | bl (b : Bool) | int (i : Int) | str (x : Str)
  | lst (ds : List D) | tup (ds : List D)
  /-- a list of ints that is known to the text or handed in, read alone -/
  | scr (ns : List Int)
  | dct (ks : List Key) (ds : List D)
  | obj (c : Nat) (ns : List Str) (ds : List D)

/-- what stands outside: the written part, the classes' addresses -/
structure Gc where
  K : PySem.W.Frag
  cl : Nat → Addr

abbrev Px := Addr → Prop
mutual
inductive Rep (g : Gc) (H : Hp) (X : Px) : V → D → Prop
  | non : Rep g H X .non .non
  | bl (b : Bool) : Rep g H X (.bl b) (.bl b)
  | int (i : Int) : Rep g H X (.int i) (.int i)
  | str (x : Str) : Rep g H X (.str x) (.str x)
  | lst {a : Addr} {vs : List V} {ds : List D} : ¬ X a → H a = some (.lst vs) → Reps g H X vs ds → Rep g H X (.ref a) (.lst ds)
  | scr {a : Addr} {ns : List Int} : ¬ X a → SqL g.K H a (ns.map V.int) → Rep g H X (.ref a) (.scr ns)
  | tup {a : Addr} {vs : List V} {ds : List D} : ¬ X a → SqT g.K H a vs → Reps g H X vs ds → Rep g H X (.ref a) (.tup ds)
  | dct {a : Addr} {ks : List Key} {vs : List V} {ds : List D} : ¬ X a → H a = some (.dK (ks.zip vs)) → ks.length = vs.length → Reps g H X vs ds → Rep g H X (.ref a) (.dct ks ds)
  | obj {a dx : Addr} {c : Nat} {ns : List Str} {vs : List V} {ds : List D} : ¬ X a → H a = some (.ins (g.cl c) dx (ns.zip vs)) → ns.length = vs.length → Reps g H X vs ds → Rep g H X (.ref a) (.obj c ns ds)
inductive Reps (g : Gc) (H : Hp) (X : Px) : List V → List D → Prop
  | nil : Reps g H X [] []
  | cons {v : V} {vs : List V} {d : D} {ds : List D} : Rep g H X v d → Reps g H X vs ds → Reps g H X (v :: vs) (d :: ds)
end

section
variable {g : Gc} {H H' : Hp} {X X' : Px}
theorem seq_to {K : PySem.W.Frag} {a : Addr} {vs : List V} (k : ∀ o, H a = some o → H' a = some o) (h : SqL K H a vs) : SqL K H' a vs := by
  rcases h with (h | ⟨o, h⟩) | h
  · exact .inl (.inl (k _ h))
  · exact .inl (.inr ⟨o, k _ h⟩)
  · exact .inr h
theorem tup_to {K : PySem.W.Frag} {a : Addr} {vs : List V} (k : ∀ o, H a = some o → H' a = some o) (h : SqT K H a vs) : SqT K H' a vs := by
  rcases h with (h | ⟨o, h⟩) | h
  · exact .inl (.inl (k _ h))
  · exact .inl (.inr ⟨o, k _ h⟩)
  · exact .inr h
/-- tracked or of the module -/
def Old (g : Gc) (H : Hp) (a : Addr) : Prop := H a ≠ none ∨ g.K.lookup a ≠ none
theorem old_l {a : Addr} {vs : List V} (h : SqL g.K H a vs) : Old g H a := by
  rcases h with (h | ⟨o, h⟩) | ⟨o, _, _, h, _⟩
  · exact .inl (by rw [h]; simp)
  · exact .inl (by rw [h]; simp)
  · exact .inr (by rw [h]; simp)
theorem old_t {a : Addr} {vs : List V} (h : SqT g.K H a vs) : Old g H a := by
  rcases h with (h | ⟨o, h⟩) | ⟨o, _, _, h, _⟩
  · exact .inl (by rw [h]; simp)
  · exact .inl (by rw [h]; simp)
  · exact .inr (by rw [h]; simp)
/-- carried to another heap, another set of changing objects -/
theorem rep_to (k : ∀ a o, H a = some o → ¬ X a → H' a = some o) (kx : ∀ a, Old g H a → X' a → X a) : ∀ {v : V} {d : D}, Rep g H X v d → Rep g H' X' v d := by
  intro v d h
  refine Rep.rec (motive_1 := fun v d _ => Rep g H' X' v d) (motive_2 := fun vs ds _ => Reps g H' X' vs ds) ?_ ?_ ?_ ?_ ?_ ?_ ?_ ?_ ?_ ?_ ?_ h
  · exact .non
  · exact .bl
  · exact .int
  · exact .str
  · intro a vs ds hx hs _ ih
    exact .lst (fun z => hx (kx _ (.inl (by rw [hs]; simp)) z)) (k _ _ hs hx) ih
  · intro a ns hx hs
    exact .scr (fun z => hx (kx _ (old_l hs) z)) (seq_to (fun o e => k _ o e hx) hs)
  · intro a vs ds hx hs _ ih
    exact .tup (fun z => hx (kx _ (old_t hs) z)) (tup_to (fun o e => k _ o e hx) hs) ih
  · intro a ks vs ds hx hs hl _ ih
    exact .dct (fun z => hx (kx _ (.inl (by rw [hs]; simp)) z)) (k _ _ hs hx) hl ih
  · intro a dx c ns vs ds hx hs hl _ ih
    exact .obj (fun z => hx (kx _ (.inl (by rw [hs]; simp)) z)) (k _ _ hs hx) hl ih
  · exact .nil
  · intro v vs d ds _ _ i1 i2
    exact .cons i1 i2
theorem reps_to (k : ∀ a o, H a = some o → ¬ X a → H' a = some o) (kx : ∀ a, Old g H a → X' a → X a) : ∀ {vs : List V} {ds : List D}, Reps g H X vs ds → Reps g H' X' vs ds
  | _, _, .nil => .nil
  | _, _, .cons a b => .cons (rep_to k kx a) (reps_to k kx b)
theorem Rep.same {v : V} {d : D} (r : Rep g H X v d) (k : Same H H') : Rep g H' X v d := rep_to (fun a o e _ => k a o e) (fun _ _ z => z) r
theorem Reps.same {vs : List V} {ds : List D} (r : Reps g H X vs ds) (k : Same H H') : Reps g H' X vs ds := reps_to (fun a o e _ => k a o e) (fun _ _ z => z) r
theorem Reps.length : ∀ {vs : List V} {ds : List D}, Reps g H X vs ds → vs.length = ds.length
  | _, _, .nil => rfl
  | _, _, .cons _ b => congrArg Nat.succ b.length
theorem Reps.get : ∀ {vs : List V} {ds : List D} {i : Nat} {d : D}, Reps g H X vs ds → ds[i]? = some d → ∃ v, vs[i]? = some v ∧ Rep g H X v d
  | _, _, _, _, .nil, e => by simp at e
  | _, _, 0, _, .cons a _, e => by
    simp at e; subst e; exact ⟨_, rfl, a⟩
  | _, _, i + 1, d, .cons _ b, e => by
    obtain ⟨v, h1, h2⟩ := Reps.get (i := i) (d := d) b (by simpa using e)
    exact ⟨v, by simpa using h1, h2⟩
theorem Reps.getV : ∀ {vs : List V} {ds : List D} {i : Nat} {v : V}, Reps g H X vs ds → vs[i]? = some v → ∃ d, ds[i]? = some d ∧ Rep g H X v d
  | _, _, _, _, .nil, e => by simp at e
  | _, _, 0, _, .cons a _, e => by
    simp at e; subst e; exact ⟨_, rfl, a⟩
  | _, _, i + 1, d, .cons _ b, e => by
    obtain ⟨v, h1, h2⟩ := Reps.getV (i := i) (v := d) b (by simpa using e)
    exact ⟨v, by simpa using h1, h2⟩
theorem Reps.append : ∀ {vs ws : List V} {ds es : List D}, Reps g H X vs ds → Reps g H X ws es → Reps g H X (vs ++ ws) (ds ++ es)
  | _, _, _, _, .nil, s => s
  | _, _, _, _, .cons a b, s => .cons a (Reps.append b s)
theorem Reps.take : ∀ {vs : List V} {ds : List D} (n : Nat), Reps g H X vs ds → Reps g H X (vs.take n) (ds.take n)
  | _, _, 0, _ => .nil
  | _, _, _ + 1, .nil => .nil
  | _, _, n + 1, .cons a b => .cons a (Reps.take n b)
theorem Reps.drop : ∀ {vs : List V} {ds : List D} (n : Nat), Reps g H X vs ds → Reps g H X (vs.drop n) (ds.drop n)
  | _, _, 0, r => r
  | _, _, _ + 1, .nil => .nil
  | _, _, n + 1, .cons _ b => Reps.drop n b
theorem Reps.set {v : V} {d : D} (r : Rep g H X v d) : ∀ {vs : List V} {ds : List D} (i : Nat), Reps g H X vs ds → Reps g H X (vs.set i v) (ds.set i d)
  | _, _, _, .nil => .nil
  | _, _, 0, .cons _ b => .cons r b
  | _, _, i + 1, .cons a b => .cons a (Reps.set r i b)
theorem reps_ints : ∀ {ns : List Int}, Reps g H X (ns.map V.int) (ns.map D.int)
  | [] => .nil
  | n :: r => .cons (.int n) reps_ints
theorem reps_ints_inv : ∀ {ns : List Int} {vs : List V}, Reps g H X vs (ns.map D.int) → vs = ns.map V.int
  | [], _, h => by cases h; rfl
  | n :: r, _, h => by
    cases h with
    | cons a b =>
      cases a
      rw [reps_ints_inv b]
      rfl
theorem reps_bls_inv : ∀ {ns : List Bool} {vs : List V}, Reps g H X vs (ns.map D.bl) → vs = ns.map V.bl
  | [], _, h => by cases h; rfl
  | n :: r, _, h => by
    cases h with
    | cons a b =>
      cases a
      rw [reps_bls_inv b]
      rfl
end

/-! ### the abstract state -/
/-- a slot: a value; a list, a dict, an instance of one's own that is still being changed -/
inductive SV where
  | val (d : D) | own (ds : List D) | odc (ks : List Key) (ds : List D) | slf (c : Nat) (ns : List Str) (ds : List D)
def SV.mut : SV → Bool
  | .val _ => false
  | _ => true
abbrev En := List (Option SV)
/-- an answer: a value; an exception of the class with that number; what is not carried -/
inductive Ro (α : Type) where
  | ok (a : α) | exc (c : Nat) (e : En) | bad
def Ro.bind {α β : Type} : Ro α → (α → Ro β) → Ro β
  | .ok a, f => f a
  | .exc c e, _ => .exc c e
  | .bad, _ => .bad
def Ro.all {α : Type} (P : α → Prop) : Ro α → Prop
  | .ok a => P a
  | .exc _ _ => False
  | .bad => False
theorem Ro.all_bind {α β : Type} {P : β → Prop} {x : Ro α} {f : α → Ro β} : (x.bind f).all P ↔ x.all fun a => (f a).all P := by cases x <;> exact Iff.rfl
theorem Ro.all.mono {α : Type} {P Q : α → Prop} {x : Ro α} (h : x.all P) (i : ∀ a, P a → Q a) : x.all Q := by
  cases x with
  | ok a => exact i a h
  | exc c e => exact h
  | bad => exact h
/-- an expression: the value, whether it is a list made anew, the state -/
abbrev Er := Ro (D × Bool × En)
abbrev Ex := En → Er
abbrev Ea := En → Ro (List D × En)
abbrev Et := En → Ro (Bool × En)

section
variable (g : Gc) (H : Hp) (X : Px)
def SlotOk (a : Addr) (v : V) : SV → Prop
  | .val d => Rep g H X v d
  | .own ds => v = .ref a ∧ X a ∧ ∃ vs, H a = some (.lst vs) ∧ Reps g H X vs ds
  | .odc ks ds => v = .ref a ∧ X a ∧ ∃ vs, H a = some (.dK (ks.zip vs)) ∧ ks.length = vs.length ∧ Reps g H X vs ds
  | .slf c ns ds => v = .ref a ∧ X a ∧ ∃ dx vs, H a = some (.ins (g.cl c) dx (ns.zip vs)) ∧ ns.length = vs.length ∧ Reps g H X vs ds
structure Sep : Prop where
  k : ∀ a, H a ≠ none → g.K.lookup a = none
  l : ∀ a vs, SqL g.K H a vs → vs.length ≤ sizeLine
  t : ∀ a vs, SqT g.K H a vs → vs.length ≤ sizeLine
structure ER (ow : Nat → Addr) (σ : St) (e : En) : Prop where
  len : e.length = σ.length
  xs : ∀ a, X a → H a ≠ none
  sep : Sep g H
  sl : ∀ (i : Nat) sv, e[i]? = some (some sv) → ∃ v, σ[i]? = some (some v) ∧ SlotOk g H X (ow i) v sv
  ap : ∀ (i j : Nat) s t, e[i]? = some (some s) → e[j]? = some (some t) → s.mut = true → t.mut = true → ow i = ow j → i = j
end
/-- a list made anew -/
def Fresh (g : Gc) (H H' : Hp) (X : Px) (v : V) (d : D) : Prop :=
  ∃ a vs ds, v = .ref a ∧ d = .lst ds ∧ H a = none ∧ H' a = some (.lst vs) ∧ Reps g H' (fun b => X b ∨ b = a) vs ds
def RV (g : Gc) (H H' : Hp) (X : Px) (v : V) (d : D) (fr : Bool) : Prop := Rep g H' X v d ∧ (fr = true → Fresh g H H' X v d)
/-- all but the slots' own objects stands as it stood -/
def Kp (ow : Nat → Addr) (e : En) (H H' : Hp) : Prop := ∀ b o, H b = some o → (∀ (i : Nat) sv, e[i]? = some (some sv) → sv.mut = true → b ≠ ow i) → H' b = some o
/-- the state behind an expression has the same slots, of the same kinds -/
structure Kind (e e' : En) : Prop where
  l : e.length = e'.length
  b : ∀ (i : Nat) sv, e'[i]? = some (some sv) → ∃ sv0, e[i]? = some (some sv0) ∧ sv0.mut = sv.mut ∧ (sv.mut = false → sv0 = sv)
  f : ∀ (i : Nat) sv, e[i]? = some (some sv) → ∃ s1, e'[i]? = some (some s1)
theorem Kind.refl (e : En) : Kind e e := ⟨rfl, fun i sv h => ⟨sv, h, rfl, fun _ => rfl⟩, fun i sv h => ⟨sv, h⟩⟩
theorem Kind.trans {e e1 e2 : En} (a : Kind e e1) (b : Kind e1 e2) : Kind e e2 := ⟨a.l.trans b.l, fun i sv h => by
  obtain ⟨s1, h1, m1, k1⟩ := b.b i sv h
  obtain ⟨s0, h0, m0, k0⟩ := a.b i s1 h1
  refine ⟨s0, h0, m0.trans m1, fun z => ?_⟩
  rw [k0 (m1.trans z), k1 z], fun i sv h => by
  obtain ⟨s1, h1⟩ := a.f i sv h
  exact b.f i s1 h1⟩

section
variable {g : Gc} {H H1 H' : Hp} {X : Px} {ow : Nat → Addr} {σ : St} {e e1 : En} {v : V} {d : D} {fr : Bool}
theorem SlotOk.same {a : Addr} {sv : SV} (h : SlotOk g H X a v sv) (k : Same H H') : SlotOk g H' X a v sv := by
  cases sv with
  | val d => exact Rep.same (show Rep g H X v d from h) k
  | own ds =>
    obtain ⟨e, x, vs, q, r⟩ := h
    exact ⟨e, x, vs, k _ _ q, r.same k⟩
  | odc ks ds =>
    obtain ⟨e, x, vs, q, l, r⟩ := h
    exact ⟨e, x, vs, k _ _ q, l, r.same k⟩
  | slf c ns ds =>
    obtain ⟨e, x, dx, vs, q, l, r⟩ := h
    exact ⟨e, x, dx, vs, k _ _ q, l, r.same k⟩
theorem ER.same (h : ER g H X ow σ e) (k : Same H H') (s : Sep g H') : ER g H' X ow σ e :=
  ⟨h.len, (fun a x z => by
    cases q : H a with
    | none => exact h.xs a x q
    | some o =>
      rw [k a o q] at z
      cases z), s, (fun i sv q => by
    obtain ⟨v, h1, h2⟩ := h.sl i sv q
    exact ⟨v, h1, h2.same k⟩), h.ap⟩
theorem SlotOk.x {a : Addr} {sv : SV} (h : SlotOk g H X a v sv) (m : sv.mut = true) : X a := by
  cases sv with
  | val d => cases m
  | own ds => exact h.2.1
  | odc ks ds => exact h.2.1
  | slf c ns ds => exact h.2.1
theorem ER.ownX (h : ER g H X ow σ e) {i : Nat} {sv : SV} (q : e[i]? = some (some sv)) (m : sv.mut = true) : X (ow i) := by
  obtain ⟨v, _, h2⟩ := h.sl i sv q
  exact h2.x m
theorem Kp.out (h : ER g H X ow σ e) (k : Kp ow e H H') : ∀ a o, H a = some o → ¬ X a → H' a = some o := fun a o q nx =>
  k a o q fun i sv q2 m z => nx (by rw [z]; exact h.ownX q2 m)
theorem Kp.rep (h : ER g H X ow σ e) (k : Kp ow e H H') (r : Rep g H X v d) : Rep g H' X v d := rep_to (Kp.out h k) (fun _ _ z => z) r
theorem Kp.reps {vs : List V} {ds : List D} (h : ER g H X ow σ e) (k : Kp ow e H H') (r : Reps g H X vs ds) : Reps g H' X vs ds := reps_to (Kp.out h k) (fun _ _ z => z) r
theorem Kp.of (k : Same H H') : Kp ow e H H' := fun b o q _ => k b o q
theorem Kp.refl : Kp ow e H H := fun b o q _ => q
theorem Kp.trans (kd : Kind e e1) (a : Kp ow e H H1) (b : Kp ow e1 H1 H') : Kp ow e H H' := fun c o q n => b c o (a c o q n) fun i sv h m => by
  obtain ⟨s0, h0, m0, _⟩ := kd.b i sv h
  exact n i s0 h0 (m0.trans m)
/-- none stands there: none stood there -/
theorem Kp.free (h : ER g H X ow σ e) (h' : ER g H' X ow σ e1) (k : Kp ow e H H') {a : Addr} (n : H' a = none) : H a = none := by
  cases q : H a with
  | none => rfl
  | some o =>
    by_cases x : X a
    · exact absurd n (h'.xs a x)
    · rw [Kp.out h k a o q x] at n; cases n
theorem Fresh.back (h : ER g H X ow σ e) (h1 : ER g H1 X ow σ e1) (k : Kp ow e H H1) (f : Fresh g H1 H' X v d) : Fresh g H H' X v d := by
  obtain ⟨a, vs, ds, e1, e2, n, q, r⟩ := f
  exact ⟨a, vs, ds, e1, e2, Kp.free h h1 k n, q, r⟩
theorem RV.back (h : ER g H X ow σ e) (h1 : ER g H1 X ow σ e1) (k : Kp ow e H H1) (f : RV g H1 H' X v d fr) : RV g H H' X v d fr := ⟨f.1, fun z => (f.2 z).back h h1 k⟩
theorem RV.old (r : Rep g H' X v d) : RV g H H' X v d false := ⟨r, fun z => nomatch z⟩
end

/-- a value handed out as made anew: nothing else leads to it -/
def RVx (g : Gc) (H H' : Hp) (X : Px) (ow : Nat → Addr) (σ : St) (e : En) (v : V) (d : D) (fr : Bool) : Prop :=
  RV g H H' X v d fr ∧ (fr = true → ∀ a, v = .ref a → ER g H' (fun b => X b ∨ b = a) ow σ e)
section
variable {g : Gc} {H H1 H' : Hp} {X : Px} {ow : Nat → Addr} {σ : St} {e e1 : En} {v : V} {d : D} {fr : Bool}
theorem SlotOk.to {H H' : Hp} {X X' : Px} {a : Addr} {v : V} {sv : SV} (k : ∀ a o, H a = some o → ¬ X a → H' a = some o) (ko : sv.mut = true → ∀ o, H a = some o → H' a = some o) (kx : ∀ a, Old g H a → X' a → X a) (km : sv.mut = true → X' a) (h : SlotOk g H X a v sv) : SlotOk g H' X' a v sv := by
  cases sv with
  | val d => exact rep_to k kx (show Rep g H X v d from h)
  | own ds =>
    obtain ⟨e, x, vs, q, r⟩ := h
    exact ⟨e, km rfl, vs, ko rfl _ q, reps_to k kx r⟩
  | odc ks ds =>
    obtain ⟨e, x, vs, q, l, r⟩ := h
    exact ⟨e, km rfl, vs, ko rfl _ q, l, reps_to k kx r⟩
  | slf c ns ds =>
    obtain ⟨e, x, dx, vs, q, l, r⟩ := h
    exact ⟨e, km rfl, dx, vs, ko rfl _ q, l, reps_to k kx r⟩
theorem ER.new {a : Addr} (h : ER g H X ow σ e) (k : Same H H') (s : Sep g H') (n : H a = none) (n' : H' a ≠ none) : ER g H' (fun b => X b ∨ b = a) ow σ e :=
  ⟨h.len, (fun b x z => by
    rcases x with x | x
    · exact (h.same k s).xs b x z
    · subst x
      exact n' z), s, (fun i sv q => by
    obtain ⟨v, h1, h2⟩ := h.sl i sv q
    refine ⟨v, h1, h2.to (fun b o e _ => k b o e) (fun _ o e => k _ o e) (fun b ho z => z.elim (fun z => z) fun z => ?_) fun m => .inl (h2.x m)⟩
    subst z
    rcases ho with z | z
    · exact absurd n z
    · exact absurd (s.k _ n') z), h.ap⟩
theorem RVx.of (h : ER g H X ow σ e) (k : Same H H') (s : Sep g H') (r : RV g H H' X v d fr) : RVx g H H' X ow σ e v d fr := ⟨r, fun z a ea => by
  obtain ⟨a', vs, ds, e1, e2, n, q, _⟩ := r.2 z
  rw [ea] at e1
  cases e1
  exact h.new k s n (by rw [q]; simp)⟩
theorem RVx.old (r : Rep g H' X v d) : RVx g H H' X ow σ e v d false := ⟨.old r, fun z => nomatch z⟩
theorem RVx.back {e2 : En} (h : ER g H X ow σ e) (h1 : ER g H1 X ow σ e1) (k : Kp ow e H H1) (f : RVx g H1 H' X ow σ e2 v d fr) : RVx g H H' X ow σ e2 v d fr := ⟨f.1.back h h1 k, f.2⟩
end

/-! ### readings by functions -/
/-- behind an expression -/
structure Po (g : Gc) (X : Px) (ow : Nat → Addr) (σ : St) (e e' : En) (H H' : Hp) : Prop where
  er : ER g H' X ow σ e'
  kd : Kind e e'
  kp : Kp ow e H H'
theorem Po.refl {g : Gc} {X : Px} {ow : Nat → Addr} {σ : St} {e : En} {H : Hp} (h : ER g H X ow σ e) : Po g X ow σ e e H H := ⟨h, .refl e, .refl⟩
theorem Po.trans {g : Gc} {X : Px} {ow : Nat → Addr} {σ : St} {e e1 e2 : En} {H H1 H2 : Hp} (a : Po g X ow σ e e1 H H1) (b : Po g X ow σ e1 e2 H1 H2) : Po g X ow σ e e2 H H2 :=
  ⟨b.er, a.kd.trans b.kd, Kp.trans a.kd a.kp b.kp⟩
theorem Po.of {g : Gc} {X : Px} {ow : Nat → Addr} {σ : St} {e : En} {H H' : Hp} (h : ER g H X ow σ e) (k : Same H H') (s : Sep g H') : Po g X ow σ e e H H' := ⟨h.same k s, .refl e, .of k⟩

def rd (g : Gc) (f : Ex) : TE := fun σ H Q => ∃ (e : En) (X : Px) (ow : Nat → Addr), ER g H X ow σ e ∧
  (f e).all fun p => ∀ v H', Po g X ow σ e p.2.2 H H' → RVx g H H' X ow σ p.2.2 v p.1 p.2.1 → Q v H'
def rdT (g : Gc) (f : Et) : TT := fun σ H Q => ∃ (e : En) (X : Px) (ow : Nat → Addr), ER g H X ow σ e ∧
  (f e).all fun p => ∀ H', Po g X ow σ e p.2 H H' → Q p.1 H'
def rdA (g : Gc) (f : Ea) : TA := fun σ H Q => ∃ (e : En) (X : Px) (ow : Nat → Addr), ER g H X ow σ e ∧
  (f e).all fun p => ∀ vs H', Po g X ow σ e p.2 H H' → Reps g H' X vs p.1 → Q vs H'

/-- the facts of the heap behind, of a context's invariant -/
theorem sep_of {X : Cx} {g : Gc} (hg : g.K = X.K) {pins : List (Addr × Obj)} {σ : St} {H : Hp} {s : Shared} (I : Inv X pins σ H s) : Sep g H where
  k := fun a n => by
    rw [hg]
    cases q : X.K.lookup a with
    | none => rfl
    | some o =>
      have e := I.ok.mod.kin a o q
      exact absurd (I.bs a o e).2 n
  l := fun a vs h => by
    rw [hg] at h
    obtain ⟨_, _, _, z⟩ := I.list h
    exact z
  t := fun a vs h => by
    rw [hg] at h
    obtain ⟨_, _, _, z⟩ := I.tuple h
    exact z
structure DE (X : Cx) (g : Gc) (e : Expr) (f : Ex) : Prop where
  pe : PE X e (rd g f)
structure DT (X : Cx) (g : Gc) (e : Expr) (f : Et) : Prop where
  pt : PT X e (rdT g f)
structure DA (X : Cx) (g : Gc) (es : List Expr) (f : Ea) : Prop where
  pa : PA X es (rdA g f)
theorem PE.by {X : Cx} {g : Gc} {e : Expr} {t t' : TE} (hg : g.K = X.K) (h : PE X e t) (i : ∀ σ H Q, t' σ H Q → t σ H (fun v H' => Sep g H' → Q v H')) : PE X e t' := ⟨fun pins s σ H Q I hq =>
  thn (h.run pins s σ H _ I (i σ H Q hq)) fun v s1 ⟨x, H1, I1, r, q⟩ => ⟨x, H1, I1, r, q (sep_of hg I1)⟩⟩
theorem PT.by {X : Cx} {g : Gc} {e : Expr} {t t' : TT} (hg : g.K = X.K) (h : PT X e t) (i : ∀ σ H Q, t' σ H Q → t σ H (fun v H' => Sep g H' → Q v H')) : PT X e t' := ⟨fun pins s σ H Q I hq =>
  thn (h.run pins s σ H _ I (i σ H Q hq)) fun v s1 ⟨H1, I1, q⟩ => ⟨H1, I1, q (sep_of hg I1)⟩⟩
theorem PA.by {X : Cx} {g : Gc} {e : List Expr} {t t' : TA} (hg : g.K = X.K) (h : PA X e t) (i : ∀ σ H Q, t' σ H Q → t σ H (fun v H' => Sep g H' → Q v H')) : PA X e t' := ⟨fun p pins s σ H Q I hq =>
  thn (h.run p pins s σ H _ I (i σ H Q hq)) fun v s1 ⟨x, H1, I1, r, q⟩ => ⟨x, H1, I1, r, q (sep_of hg I1)⟩⟩
end G

/-! Expressions: names, constants, operators, comparisons, tests, displays, built-ins by values. -/
namespace G
open PySem PySem.Spec PyProof.Rows L2

/-! ### the functions -/
def up (e : En) : Option (D × Bool) → Er
  | some r => .ok (r.1, r.2, e)
  | none => .bad
def eVar (i : Nat) : Ex := fun e => match e[i]? with
  | some (some (.val d)) => .ok (d, false, e)
  | _ => .bad
def eC (d : D) : Ex := fun e => .ok (d, false, e)
def eBin (o : D → D → Option (D × Bool)) (a b : Ex) : Ex := fun e => (a e).bind fun p => (b p.2.2).bind fun q => up q.2.2 (o p.1 q.1)
def eUn (o : D → Option (D × Bool)) (a : Ex) : Ex := fun e => (a e).bind fun p => up p.2.2 (o p.1)
def aNil : Ea := fun e => .ok ([], e)
def aCons (a : Ex) (r : Ea) : Ea := fun e => (a e).bind fun p => (r p.2.2).bind fun q => .ok (p.1 :: q.1, q.2)
def eBlt (o : List D → Option (D × Bool)) (a : Ea) : Ex := fun e => (a e).bind fun p => up p.2 (o p.1)
def eLst (a : Ea) : Ex := fun e => (a e).bind fun p => if p.1.length ≤ sizeLine then .ok (.lst p.1, true, p.2) else .bad
def eTup (a : Ea) : Ex := fun e => (a e).bind fun p => if p.1.length ≤ sizeLine then .ok (.tup p.1, false, p.2) else .bad
def tVal (a : Ex) : Et := fun e => (a e).bind fun p => match p.1 with
  | .bl b => .ok (b, p.2.2)
  | _ => .bad
def tCmp2 (o : D → D → Option (D × Bool)) (a b : Ex) : Et := tVal (eBin o a b)
def tAnd2 (a b : Et) : Et := fun e => (a e).bind fun p => if p.1 = true then b p.2 else .ok (false, p.2)
def tOr2 (a b : Et) : Et := fun e => (a e).bind fun p => if p.1 = true then .ok (true, p.2) else b p.2
def tNot1 (a : Et) : Et := fun e => (a e).bind fun p => .ok (!p.1, p.2)
/-- a test as a value -/
def eT (a : Et) : Ex := fun e => (a e).bind fun p => .ok (.bl p.1, false, p.2)
def eIf (t : Et) (a b : Ex) : Ex := fun e => (t e).bind fun p => if p.1 = true then a p.2 else b p.2
def eChain (o u : D → D → Option (D × Bool)) (a b c : Ex) : Ex := fun e => (a e).bind fun p => (b p.2.2).bind fun q => match o p.1 q.1 with
  | some (.bl true, _) => (c q.2.2).bind fun r => up r.2.2 (u q.1 r.1)
  | some (.bl false, _) => .ok (.bl false, false, q.2.2)
  | _ => .bad

section
variable {X : Cx} {g : Gc} (hg : g.K = X.K)
/-- an operator by values -/
def BinS (g : Gc) (r : R2) (o : D → D → Option (D × Bool)) : Prop :=
  ∀ (x y : V) (dx dy : D) (H : Hp) (Xx : Px) (Q : VK) (d : D) (fr : Bool), Rep g H Xx x dx → Rep g H Xx y dy → (∀ a, Xx a → H a ≠ none) → o dx dy = some (d, fr) →
    (∀ v H', Same H H' → Sep g H' → RV g H H' Xx v d fr → Q v H') → r x y H (fun v H' => Sep g H' → Q v H')
def UnS (g : Gc) (r : V → Hp → VK → Prop) (o : D → Option (D × Bool)) : Prop :=
  ∀ (x : V) (dx : D) (H : Hp) (Xx : Px) (Q : VK) (d : D) (fr : Bool), Rep g H Xx x dx → (∀ a, Xx a → H a ≠ none) → o dx = some (d, fr) →
    (∀ v H', Same H H' → Sep g H' → RV g H H' Xx v d fr → Q v H') → r x H (fun v H' => Sep g H' → Q v H')
def CallS (g : Gc) (r : List V → Hp → VK → Prop) (o : List D → Option (D × Bool)) : Prop :=
  ∀ (xs : List V) (ds : List D) (H : Hp) (Xx : Px) (Q : VK) (d : D) (fr : Bool), Reps g H Xx xs ds → (∀ a, Xx a → H a ≠ none) → o ds = some (d, fr) →
    (∀ v H', Same H H' → Sep g H' → RV g H H' Xx v d fr → Q v H') → r xs H (fun v H' => Sep g H' → Q v H')
include hg

theorem fin_of {X' : Px} {ow : Nat → Addr} {σ : St} {e e1 : En} {H H1 : Hp} {o : Option (D × Bool)} {Q : VK} (er : ER g H X' ow σ e) (po : Po g X' ow σ e e1 H H1)
    (h : (up e1 o).all fun p => ∀ v H', Po g X' ow σ e p.2.2 H H' → RVx g H H' X' ow σ p.2.2 v p.1 p.2.1 → Q v H') :
    ∃ d fr, o = some (d, fr) ∧ ∀ v H', Same H1 H' → Sep g H' → RV g H1 H' X' v d fr → Q v H' := by
  cases o with
  | none => exact False.elim h
  | some r => exact ⟨r.1, r.2, rfl, fun v H' k s q => h v H' (po.trans (.of po.er k s)) ((RVx.of po.er k s q).back er po.er po.kp)⟩

theorem de_var {i : Nat} {x : Str} {pos : Pos} (hN : X.N[i]? = some x := by rfl) (hv : Vis X.env.scope x := by first | exact Or.inl rfl | exact Or.inr (Or.inl rfl) | exact Or.inr (Or.inr rfl)) (hd : (x == ("__debug__" : Str)) = false := by decide)
    (hcd : (x == ("__classdict__" : Str)) = false := by decide) : DE X g (.Name x pos) (eVar i) := by
  refine ⟨PE.by hg (pe_var hN hv hd hcd) fun σ H Q h => ?_⟩
  obtain ⟨e, Xx, ow, er, h⟩ := h
  unfold eVar at h
  split at h
  · rename_i d hi
    obtain ⟨v, hs, hr⟩ := er.sl _ _ hi
    exact ⟨v, hs, fun s => h v H (.refl er) (.old hr)⟩
  · exact False.elim h
theorem de_c {e : Expr} {v : V} {d : D} (h : PE X e (tC v)) (hr : ∀ H Xx, Rep g H Xx v d) : DE X g e (eC d) := by
  refine ⟨PE.by hg h fun σ H Q h => ?_⟩
  obtain ⟨e, Xx, ow, er, h⟩ := h
  exact fun s => h v H (.refl er) (.old (hr H Xx))
theorem de_int {i : Int} {j pos} : DE X g (.Constant (.int i) j pos) (eC (.int i)) := de_c hg pe_int fun _ _ => .int i
theorem de_bl {i : Bool} {j pos} : DE X g (.Constant (.bool i) j pos) (eC (.bl i)) := de_c hg pe_bl fun _ _ => .bl i
theorem de_str {i : Str} {j pos} : DE X g (.Constant (.str i) j pos) (eC (.str i)) := de_c hg pe_str fun _ _ => .str i
theorem de_non {j pos} : DE X g (.Constant .none j pos) (eC .non) := de_c hg pe_non fun _ _ => .non

theorem rd_bin {r : R2} {o : D → D → Option (D × Bool)} {fa fb : Ex} (hs : BinS g r o) (σ : St) (H : Hp) (Q : VK) (h : rd g (eBin o fa fb) σ H Q) : tOp r (rd g fa) (rd g fb) σ H (fun v H' => Sep g H' → Q v H') := by
  obtain ⟨e, Xx, ow, er, h⟩ := h
  refine ⟨e, Xx, ow, er, (Ro.all_bind.mp h).mono fun p h => ?_⟩
  intro v H1 po rv
  refine ⟨p.2.2, Xx, ow, po.er, (Ro.all_bind.mp h).mono fun q h => ?_⟩
  intro w H2 po2 rw2
  obtain ⟨d, fr, ho, hq⟩ := fin_of hg er (po.trans po2) h
  exact hs v w p.1 q.1 H2 Xx Q d fr (Kp.rep po.er po2.kp rv.1.1) rw2.1.1 po2.er.xs ho hq
theorem de_bin {op : Operator} {r : R2} {o : D → D → Option (D × Bool)} {a b : Expr} {fa fb : Ex} {pos : Pos} (ho : OpR X (binaryOp op) r) (hs : BinS g r o) (ha : DE X g a fa) (hb : DE X g b fb) : DE X g (.BinOp a op b pos) (eBin o fa fb) :=
  ⟨PE.by hg (pe_op ho ha.pe hb.pe) (rd_bin hg hs)⟩
theorem de_cmp {op : CmpOp} {r : R2} {o : D → D → Option (D × Bool)} {a b : Expr} {fa fb : Ex} {pos : Pos} (ho : OpR X (compareOp op) r) (hs : BinS g r o) (ha : DE X g a fa) (hb : DE X g b fb) (hm : behindInMarks op b = false) : DE X g (.Compare a [op] [b] pos) (eBin o fa fb) :=
  ⟨PE.by hg (pe_cmpR ho ha.pe hb.pe hm) (rd_bin hg hs)⟩
theorem de_un {op : UnaryOp} {r : V → Hp → VK → Prop} {o : D → Option (D × Bool)} {a : Expr} {fa : Ex} {pos : Pos} (ho : UnR X (unaryOp op) r) (hs : UnS g r o) (ha : DE X g a fa) : DE X g (.UnaryOp op a pos) (eUn o fa) := by
  refine ⟨PE.by hg (pe_un ho ha.pe) fun σ H Q h => ?_⟩
  obtain ⟨e, Xx, ow, er, h⟩ := h
  refine ⟨e, Xx, ow, er, (Ro.all_bind.mp h).mono fun p h => ?_⟩
  intro v H1 po rv
  obtain ⟨d, fr, ho, hq⟩ := fin_of hg er po h
  exact hs v p.1 H1 Xx Q d fr rv.1.1 po.er.xs ho hq

theorem da_nil : DA X g [] aNil := by
  refine ⟨PA.by hg pa_nil fun σ H Q h => ?_⟩
  obtain ⟨e, Xx, ow, er, h⟩ := h
  exact fun s => h [] H (.refl er) .nil
theorem da_cons {a : Expr} {es : List Expr} {fa : Ex} {fr : Ea} (ha : DE X g a fa) (hr : DA X g es fr) (hs : starEach (a :: es) X.env = (false, eval a X.env) :: starEach es X.env := by rfl) : DA X g (a :: es) (aCons fa fr) := by
  refine ⟨PA.by hg (pa_cons ha.pe hr.pa hs) fun σ H Q h => ?_⟩
  obtain ⟨e, Xx, ow, er, h⟩ := h
  refine ⟨e, Xx, ow, er, (Ro.all_bind.mp h).mono fun p h => ?_⟩
  intro v H1 po rv
  refine ⟨p.2.2, Xx, ow, po.er, (Ro.all_bind.mp h).mono fun q h => ?_⟩
  intro ws H2 po2 rw2 s
  exact h (v :: ws) H2 (po.trans po2) (.cons (Kp.rep po.er po2.kp rv.1.1) rw2)
theorem rd_blt {r : List V → Hp → VK → Prop} {o : List D → Option (D × Bool)} {fa : Ea} (hs : CallS g r o) (σ : St) (H : Hp) (Q : VK) (h : rd g (eBlt o fa) σ H Q) : rdA g fa σ H (fun vs H1 => r vs H1 (fun v H' => Sep g H' → Q v H')) := by
  obtain ⟨e, Xx, ow, er, h⟩ := h
  refine ⟨e, Xx, ow, er, (Ro.all_bind.mp h).mono fun p h => ?_⟩
  intro vs H1 po rv
  obtain ⟨d, fr, ho, hq⟩ := fin_of hg er po h
  exact hs vs p.1 H1 Xx Q d fr rv po.er.xs ho hq
/-- f(e, ..) of a built-in function, a built-in class -/
theorem de_callB {id : String} {r : List V → Hp → VK → Prop} {o : List D → Option (D × Bool)} {x : Str} {p pos : Pos} {e : Expr} {es : List Expr} {fa : Ea} (hc : CallR X (.builtin id) r) (hs : CallS g r o) (hm : X.mg x = none) (hv : bootBuiltins x = some (.builtin id)) (ha : DA X g (e :: es) fa)
    (hgl : Gl X x := by rfl) (hn : x ≠ "__name__" := by decide) (hdb : (x == ("__debug__" : Str)) = false := by decide)
    (he : starEach (e :: es) X.env = (false, eval e X.env) :: starEach es X.env := by rfl) (hpl : (backTo pos (starEach es X.env)).any (·.1) = false := by rfl) : DE X g (.Call (.Name x p) (e :: es) [] pos) (eBlt o fa) :=
  ⟨PE.by hg (pe_callB hc hgl hm hv ha.pa hn hdb he hpl) (rd_blt hg hs)⟩
theorem de_callT {T : String} {r : List V → Hp → VK → Prop} {o : List D → Option (D × Bool)} {x : Str} {p pos : Pos} {e : Expr} {es : List Expr} {fa : Ea} (hc : CallR X (.type T) r) (hs : CallS g r o) (hm : X.mg x = none) (hv : bootBuiltins x = some (.type T)) (ha : DA X g (e :: es) fa)
    (hgl : Gl X x := by rfl) (hn : x ≠ "__name__" := by decide) (hdb : (x == ("__debug__" : Str)) = false := by decide)
    (he : starEach (e :: es) X.env = (false, eval e X.env) :: starEach es X.env := by rfl) (hpl : (backTo pos (starEach es X.env)).any (·.1) = false := by rfl) : DE X g (.Call (.Name x p) (e :: es) [] pos) (eBlt o fa) :=
  ⟨PE.by hg (pe_callTy hc hgl hm hv ha.pa hn hdb he hpl) (rd_blt hg hs)⟩

/-- a new object laid at p: all that was stands -/
theorem same_upd {H : Hp} {p : Addr} {o : HO} (n : H p = none) : Same H (upd H p o) := fun b u q => by
  rw [upd_ne (ne_of_none q n)]; exact q
theorem fresh_lst {H : Hp} {Xx : Px} {p : Addr} {vs : List V} {ds : List D} (n : H p = none) (hx : ∀ a, Xx a → H a ≠ none) (hs : Sep g (upd H p (.lst vs))) (r : Reps g H Xx vs ds) : RV g H (upd H p (.lst vs)) Xx (.ref p) (.lst ds) true := by
  have k : Same H (upd H p (.lst vs)) := same_upd hg n
  have hp : ∀ a, Old g H a → a ≠ p := fun a ho z => by
    subst z
    rcases ho with z | z
    · exact z n
    · exact z (hs.k a (by rw [upd_same]; simp))
  refine ⟨.lst (fun z => hx _ z n) upd_same (r.same k), fun _ => ⟨p, vs, ds, rfl, rfl, n, upd_same, ?_⟩⟩
  exact reps_to (fun a o q _ => k a o q) (fun a ho z => z.elim (fun z => z) fun z => absurd z (hp a ho)) r
theorem new_tup {H : Hp} {Xx : Px} {p : Addr} {vs : List V} {ds : List D} (n : H p = none) (hx : ∀ a, Xx a → H a ≠ none) (r : Reps g H Xx vs ds) : RV g H (upd H p (.tup vs)) Xx (.ref p) (.tup ds) false :=
  .old (.tup (fun z => hx _ z n) (.of upd_same) (r.same (same_upd hg n)))
theorem de_lst {es : List Expr} {fa : Ea} {pos : Pos} (ha : DA X g es fa) : DE X g (.List es pos) (eLst fa) := by
  refine ⟨PE.by hg (pe_lst ha.pa) fun σ H Q h => ?_⟩
  obtain ⟨e, Xx, ow, er, h⟩ := h
  refine ⟨e, Xx, ow, er, (Ro.all_bind.mp h).mono fun p h => ?_⟩
  intro vs H1 po rv
  split at h
  · rename_i hl
    refine ⟨by rw [rv.length]; exact hl, fun q n s => ?_⟩
    exact h _ _ (po.trans (.of po.er (same_upd hg n) s)) ((RVx.of po.er (same_upd hg n) s (fresh_lst hg n po.er.xs s rv)).back er po.er po.kp)
  · exact False.elim h
theorem de_tup {es : List Expr} {fa : Ea} {k : Nat} {pos : Pos} (ha : DA X g es fa) : DE X g (.Tuple es k pos) (eTup fa) := by
  refine ⟨PE.by hg (pe_tup ha.pa) fun σ H Q h => ?_⟩
  obtain ⟨e, Xx, ow, er, h⟩ := h
  refine ⟨e, Xx, ow, er, (Ro.all_bind.mp h).mono fun p h => ?_⟩
  intro vs H1 po rv
  split at h
  · rename_i hl
    refine ⟨by rw [rv.length]; exact hl, fun q n s => ?_⟩
    exact h _ _ (po.trans (.of po.er (same_upd hg n) s)) ((RVx.of po.er (same_upd hg n) s (new_tup hg n po.er.xs rv)).back er po.er po.kp)
  · exact False.elim h
end

/-! ### tests -/
section
variable {X : Cx} {g : Gc} (hg : g.K = X.K)
include hg
theorem rd_val {f : Ex} (σ : St) (H : Hp) (Q : Bool → Hp → Prop) (h : rdT g (tVal f) σ H Q) : tB (rd g f) σ H Q := by
  obtain ⟨e, Xx, ow, er, h⟩ := h
  refine ⟨e, Xx, ow, er, (Ro.all_bind.mp h).mono fun p h => ?_⟩
  intro v H1 po rv
  split at h
  · rename_i b hb
    have r := rv.1.1
    rw [hb] at r
    cases r
    exact ⟨b, rfl, h H1 po⟩
  · exact False.elim h
theorem dt_val {e : Expr} {f : Ex} (h : DE X g e f) (he : ∀ whole, isTrue e X.env whole = (do let v ← whole; standAt e.pos; holding [v] (truthy v)) := by intro _; rfl) : DT X g e (tVal f) :=
  ⟨PT.by hg (pt_val h.pe he) fun σ H Q h => by
    obtain ⟨e, Xx, ow, er, h⟩ := h
    refine ⟨e, Xx, ow, er, (Ro.all_bind.mp h).mono fun p h => ?_⟩
    intro v H1 po rv
    split at h
    · rename_i b hb
      have r := rv.1.1
      rw [hb] at r
      cases r
      exact ⟨b, rfl, fun _ => h H1 po⟩
    · exact False.elim h⟩
theorem pc_of {op : CmpOp} {r : R2} {a b : Expr} {ta tb : TE} (ho : OpR X (compareOp op) r) (ha : PE X a ta) (hb : PE X b tb) : PC X op a b (tOp r ta tb) := ⟨fun pins s σ H Q I h =>
  bin ha hb I h fun v u s2 x y H2 I2 rx ry q => ho pins s2 σ H2 x y v u Q I2 rx ry q⟩
theorem PC.by {op : CmpOp} {a b : Expr} {t t' : TE} (h : PC X op a b t) (i : ∀ σ H Q, t' σ H Q → t σ H (fun v H' => Sep g H' → Q v H')) : PC X op a b t' := ⟨fun pins s σ H Q I hq =>
  thn (h.run pins s σ H _ I (i σ H Q hq)) fun v s1 q => thn q fun u s2 q => thn q fun w s3 ⟨x, H1, I1, r, q⟩ => ⟨x, H1, I1, r, q (sep_of hg I1)⟩⟩
theorem dt_cmp {op : CmpOp} {r : R2} {o : D → D → Option (D × Bool)} {a b : Expr} {fa fb : Ex} {pos : Pos} (ho : OpR X (compareOp op) r) (hs : BinS g r o) (ha : DE X g a fa) (hb : DE X g b fb) (hm : behindInMarks op b = false) : DT X g (.Compare a [op] [b] pos) (tCmp2 o fa fb) :=
  ⟨PT.by hg (pt_cmp (PC.by hg (pc_of hg ho ha.pe hb.pe) (rd_bin hg hs)) hm) fun σ H Q h => by
    have z := rd_val hg σ H (fun b H' => Sep g H' → Q b H') (f := eBin o fa fb) (by
      obtain ⟨e, Xx, ow, er, h⟩ := h
      exact ⟨e, Xx, ow, er, h.mono fun p h H' po _ => h H' po⟩)
    exact z⟩
theorem dt_chain {op op' : CmpOp} {r r' : R2} {o o' : D → D → Option (D × Bool)} {a b c : Expr} {fa fb fc : Ex} {pos : Pos} (ho : OpR X (compareOp op) r) (ho' : OpR X (compareOp op') r') (hs : BinS g r o) (hs' : BinS g r' o') (ha : DE X g a fa) (hb : DE X g b fb) (hc : DE X g c fc)
    (hm : lastMarks [op, op'] [b, c] = false := by with_unfolding_all rfl) : DT X g (.Compare a [op, op'] [b, c] pos) (tVal (eChain o o' fa fb fc)) := by
  refine ⟨PT.by hg (pt_chain (r := fun x y H Q => r x y H fun v H' => Sep g H' → Q v H') (r' := fun x y H Q => r' x y H fun v H' => Sep g H' → Q v H') (fun pins s σ H x y v u Q I rx ry q => ?_) (fun pins s σ H x y v u Q I rx ry q => ?_) ha.pe hb.pe hc.pe hm) fun σ H Q h => ?_⟩
  · exact thn (ho pins s σ H x y v u _ I rx ry q) fun w s3 ⟨x, H1, I1, r, q⟩ => ⟨x, H1, I1, r, q (sep_of hg I1)⟩
  · exact thn (ho' pins s σ H x y v u _ I rx ry q) fun w s3 ⟨x, H1, I1, r, q⟩ => ⟨x, H1, I1, r, q (sep_of hg I1)⟩
  · obtain ⟨e, Xx, ow, er, h⟩ := h
    have h := Ro.all_bind.mp h
    refine ⟨e, Xx, ow, er, (Ro.all_bind.mp h).mono fun p h => ?_⟩
    intro v H1 po rv
    refine ⟨p.2.2, Xx, ow, po.er, (Ro.all_bind.mp h).mono fun q h => ?_⟩
    intro w H2 po2 rw2
    have po12 := po.trans po2
    cases hk : o p.1 q.1 with
    | none => rw [hk] at h; exact False.elim h
    | some k =>
      obtain ⟨kd, kfr⟩ := k
      rw [hk] at h
      refine hs v w p.1 q.1 H2 Xx _ kd kfr (Kp.rep po.er po2.kp rv.1.1) rw2.1.1 po2.er.xs hk fun z H3 k3 s3 r3 => ?_
      have po3 := po12.trans (.of po12.er k3 s3)
      cases kd with
      | bl b =>
        cases r3.1
        refine ⟨b, rfl, ?_⟩
        cases b with
        | false =>
          rw [if_neg Bool.false_ne_true]
          exact ⟨false, rfl, fun _ => h H3 po3⟩
        | true =>
          rw [if_pos rfl]
          refine ⟨q.2.2, Xx, ow, po3.er, (Ro.all_bind.mp h).mono fun t h => ?_⟩
          intro z H4 po4 rv4
          cases hk2 : o' q.1 t.1 with
          | none => rw [hk2] at h; exact False.elim h
          | some k2 =>
            obtain ⟨kd2, kfr2⟩ := k2
            rw [hk2] at h
            refine hs' w z q.1 t.1 H4 Xx _ kd2 kfr2 (Kp.rep po3.er po4.kp (rw2.1.1.same k3)) rv4.1.1 po4.er.xs hk2 fun y H5 k5 s5 r5 => ?_
            have po5 := po3.trans (po4.trans (.of po4.er k5 s5))
            cases kd2 with
            | bl c =>
              cases r5.1
              exact ⟨c, rfl, fun _ => h H5 po5⟩
            | _ => exact False.elim h
      | _ => exact False.elim h
structure DW (X : Cx) (g : Gc) (e : Expr) (f : Et) : Prop where
  pw : PW X e (rdT g f)
omit hg in
theorem dt_w {e : Expr} {f : Et} (h : DW X g e f) : DT X g e f := ⟨h.pw.pt⟩
omit hg in
theorem dw_and1 {a : Expr} {f : Et} {pos : Pos} (h : DT X g a f) : DW X g (.BoolOp .And [a] pos) f := ⟨pw_and1 h.pt⟩
omit hg in
theorem dw_or1 {a : Expr} {f : Et} {pos : Pos} (h : DT X g a f) : DW X g (.BoolOp .Or [a] pos) f := ⟨pw_or1 h.pt⟩
theorem PW.by {e : Expr} {t t' : TT} (h : PW X e t) (i : ∀ σ H Q, t' σ H Q → t σ H (fun v H' => Sep g H' → Q v H')) : PW X e t' := ⟨fun wh pins s σ H Q I hq =>
  thn (h.run wh pins s σ H _ I (i σ H Q hq)) fun v s1 ⟨H1, I1, q⟩ => ⟨H1, I1, q (sep_of hg I1)⟩⟩
theorem dw_and {a b : Expr} {rest : List Expr} {f h : Et} {pos : Pos} (ha : DT X g a f) (hb : DW X g (.BoolOp .And (b :: rest) pos) h) : DW X g (.BoolOp .And (a :: b :: rest) pos) (tAnd2 f h) := by
  refine ⟨PW.by hg (pw_and ha.pt hb.pw) fun σ H Q h => ?_⟩
  obtain ⟨e, Xx, ow, er, h⟩ := h
  refine ⟨e, Xx, ow, er, (Ro.all_bind.mp h).mono fun p h => ?_⟩
  intro H1 po
  cases hp : p.1 with
  | true =>
    rw [hp, if_pos rfl] at h
    rw [if_pos rfl]
    exact ⟨p.2, Xx, ow, po.er, h.mono fun q h H2 po2 _ => h H2 (po.trans po2)⟩
  | false =>
    rw [hp, if_neg Bool.false_ne_true] at h
    rw [if_neg Bool.false_ne_true]
    exact fun _ => h H1 po
theorem dw_or {a b : Expr} {rest : List Expr} {f h : Et} {pos : Pos} (ha : DT X g a f) (hb : DW X g (.BoolOp .Or (b :: rest) pos) h) : DW X g (.BoolOp .Or (a :: b :: rest) pos) (tOr2 f h) := by
  refine ⟨PW.by hg (pw_or ha.pt hb.pw) fun σ H Q h => ?_⟩
  obtain ⟨e, Xx, ow, er, h⟩ := h
  refine ⟨e, Xx, ow, er, (Ro.all_bind.mp h).mono fun p h => ?_⟩
  intro H1 po
  cases hp : p.1 with
  | true =>
    rw [hp, if_pos rfl] at h
    rw [if_pos rfl]
    exact fun _ => h H1 po
  | false =>
    rw [hp, if_neg Bool.false_ne_true] at h
    rw [if_neg Bool.false_ne_true]
    exact ⟨p.2, Xx, ow, po.er, h.mono fun q h H2 po2 _ => h H2 (po.trans po2)⟩
theorem dt_not {a : Expr} {f : Et} {pos : Pos} (ha : DT X g a f) : DT X g (.UnaryOp .Not a pos) (tNot1 f) := by
  refine ⟨PT.by hg (pt_not ha.pt) fun σ H Q h => ?_⟩
  obtain ⟨e, Xx, ow, er, h⟩ := h
  refine ⟨e, Xx, ow, er, (Ro.all_bind.mp h).mono fun p h => ?_⟩
  intro H1 po _
  exact h H1 po
/-! ### and, or, not as values (bools); a if t else b -/
/-- a value that is a bool -/
def eAnd (a b : Ex) : Ex := fun e => (a e).bind fun p => match p.1 with
  | .bl true => b p.2.2
  | .bl false => .ok (.bl false, false, p.2.2)
  | _ => .bad
def eOr (a b : Ex) : Ex := fun e => (a e).bind fun p => match p.1 with
  | .bl false => b p.2.2
  | .bl true => .ok (.bl true, false, p.2.2)
  | _ => .bad
def eNot (a : Ex) : Ex := fun e => (a e).bind fun p => match p.1 with
  | .bl b => .ok (.bl (!b), false, p.2.2)
  | _ => .bad
omit hg in
theorem de_one {op} {a : Expr} {f : Ex} {pos : Pos} (h : DE X g a f) : DE X g (.BoolOp op [a] pos) f := ⟨pe_one h.pe⟩
theorem RV.later {g : Gc} {Xx : Px} {ow : Nat → Addr} {σ : St} {e e1 e2 : En} {H H1 H2 : Hp} {v : V} {d : D} {fr : Bool} (er : ER g H Xx ow σ e) (po : Po g Xx ow σ e e1 H H1) (rv : RVx g H1 H2 Xx ow σ e2 v d fr) : RVx g H H2 Xx ow σ e2 v d fr := rv.back er po.er po.kp
theorem de_and {a b : Expr} {rest : List Expr} {fa fb : Ex} {pos : Pos} (ha : DE X g a fa) (hb : DE X g (.BoolOp .And (b :: rest) pos) fb) : DE X g (.BoolOp .And (a :: b :: rest) pos) (eAnd fa fb) := by
  refine ⟨PE.by hg (pe_and ha.pe hb.pe) fun σ H Q h => ?_⟩
  obtain ⟨e, Xx, ow, er, h⟩ := h
  refine ⟨e, Xx, ow, er, (Ro.all_bind.mp h).mono fun p h => ?_⟩
  intro v H1 po rv
  obtain ⟨d, fr, e1⟩ := p
  cases d with
  | bl b =>
    cases rv.1.1
    refine ⟨b, rfl, ?_⟩
    cases b with
    | true =>
      rw [if_pos rfl]
      exact ⟨e1, Xx, ow, po.er, Ro.all.mono h fun q h w H2 po2 rv2 _ => h w H2 (po.trans po2) (RV.later hg er po rv2)⟩
    | false =>
      rw [if_neg Bool.false_ne_true]
      exact fun _ => h _ H1 po (.old (.bl false))
  | _ => exact False.elim h
theorem de_or {a b : Expr} {rest : List Expr} {fa fb : Ex} {pos : Pos} (ha : DE X g a fa) (hb : DE X g (.BoolOp .Or (b :: rest) pos) fb) : DE X g (.BoolOp .Or (a :: b :: rest) pos) (eOr fa fb) := by
  refine ⟨PE.by hg (pe_or ha.pe hb.pe) fun σ H Q h => ?_⟩
  obtain ⟨e, Xx, ow, er, h⟩ := h
  refine ⟨e, Xx, ow, er, (Ro.all_bind.mp h).mono fun p h => ?_⟩
  intro v H1 po rv
  obtain ⟨d, fr, e1⟩ := p
  cases d with
  | bl b =>
    cases rv.1.1
    refine ⟨b, rfl, ?_⟩
    cases b with
    | false =>
      rw [if_neg Bool.false_ne_true]
      exact ⟨e1, Xx, ow, po.er, Ro.all.mono h fun q h w H2 po2 rv2 _ => h w H2 (po.trans po2) (RV.later hg er po rv2)⟩
    | true =>
      rw [if_pos rfl]
      exact fun _ => h _ H1 po (.old (.bl true))
  | _ => exact False.elim h
theorem de_not {a : Expr} {fa : Ex} {pos : Pos} (ha : DE X g a fa) : DE X g (.UnaryOp .Not a pos) (eNot fa) := by
  refine ⟨PE.by hg (pe_not ha.pe) fun σ H Q h => ?_⟩
  obtain ⟨e, Xx, ow, er, h⟩ := h
  refine ⟨e, Xx, ow, er, (Ro.all_bind.mp h).mono fun p h => ?_⟩
  intro v H1 po rv
  obtain ⟨d, fr, e1⟩ := p
  cases d with
  | bl b =>
    cases rv.1.1
    exact ⟨b, rfl, fun _ => h _ H1 po (.old (.bl _))⟩
  | _ => exact False.elim h
theorem de_if {c a b : Expr} {fc : Et} {fa fb : Ex} {pos : Pos} (hc : DT X g c fc) (ha : DE X g a fa) (hb : DE X g b fb) : DE X g (.IfExp c a b pos) (eIf fc fa fb) := by
  refine ⟨PE.by hg (pe_ifExp hc.pt ha.pe hb.pe) fun σ H Q h => ?_⟩
  obtain ⟨e, Xx, ow, er, h⟩ := h
  refine ⟨e, Xx, ow, er, (Ro.all_bind.mp h).mono fun p h => ?_⟩
  intro H1 po
  cases hp : p.1 with
  | true =>
    rw [hp, if_pos rfl] at h
    rw [if_pos rfl]
    exact ⟨p.2, Xx, ow, po.er, h.mono fun q h w H2 po2 rv2 _ => h w H2 (po.trans po2) (RV.later hg er po rv2)⟩
  | false =>
    rw [hp, if_neg Bool.false_ne_true] at h
    rw [if_neg Bool.false_ne_true]
    exact ⟨p.2, Xx, ow, po.er, h.mono fun q h w H2 po2 rv2 _ => h w H2 (po.trans po2) (RV.later hg er po rv2)⟩
end
end G

/-! What operators and built-ins make of data. -/
namespace G
open PySem PySem.Spec PyProof.Rows L2
abbrev DV := Option (D × Bool)
/-! ### data as the library's data -/
mutual
def toP : D → Option PyData
  | .non => some .none
  | .bl b => some (.bool b)
  | .int i => some (.int i)
  | .str x => some (.str x)
  | .lst ds => (toPs ds).map PyData.list
  | .tup ds => (toPs ds).map PyData.tuple
  | .scr ns => some (.list (ns.map PyData.int))
  | .dct _ _ => none
  | .obj _ _ _ => none
def toPs : List D → Option (List PyData)
  | [] => some []
  | d :: ds => match toP d, toPs ds with
    | some p, some ps => some (p :: ps)
    | _, _ => none
end
theorem toPs_cons {d : D} {ds : List D} {ps : List PyData} (h : toPs (d :: ds) = some ps) : ∃ p qs, toP d = some p ∧ toPs ds = some qs ∧ ps = p :: qs := by
  unfold toPs at h
  split at h
  · rename_i p qs h1 h2
    exact ⟨p, qs, h1, h2, (Option.some.inj h).symm⟩
  · cases h
section
variable {g : Gc} {H H' : Hp} {X : Px}
theorem dpAll_ints {K : PySem.W.Frag} {H : Hp} : ∀ ns : List Int, DpAll K H (ns.map V.int) (ns.map PyData.int)
  | [] => .nil
  | n :: r => .cons (.int n) (dpAll_ints r)
theorem rep_dp {v : V} {d : D} (h : Rep g H X v d) : ∀ p, toP d = some p → Dp g.K H v p := by
  refine Rep.rec (motive_1 := fun v d _ => ∀ p, toP d = some p → Dp g.K H v p) (motive_2 := fun vs ds _ => ∀ ps, toPs ds = some ps → DpAll g.K H vs ps) ?_ ?_ ?_ ?_ ?_ ?_ ?_ ?_ ?_ ?_ ?_ h
  · intro p e
    cases (show some PyData.none = some p from e)
    exact .non
  · intro b p e
    cases (show some (PyData.bool b) = some p from e)
    exact .bl b
  · intro b p e
    cases (show some (PyData.int b) = some p from e)
    exact .int b
  · intro b p e
    cases (show some (PyData.str b) = some p from e)
    exact .str b
  · intro a vs ds _ hs _ ih p e
    obtain ⟨ps, e1, e2⟩ := Option.map_eq_some_iff.mp (show (toPs ds).map PyData.list = some p from e)
    subst e2
    exact .lst (.of hs) (ih ps e1)
  · intro a ns _ hs p e
    cases (show some (PyData.list (ns.map PyData.int)) = some p from e)
    exact .lst hs (dpAll_ints ns)
  · intro a vs ds _ hs _ ih p e
    obtain ⟨ps, e1, e2⟩ := Option.map_eq_some_iff.mp (show (toPs ds).map PyData.tuple = some p from e)
    subst e2
    exact .tup hs (ih ps e1)
  · intro a ks vs ds _ _ _ _ _ p e
    cases (show (none : Option PyData) = some p from e)
  · intro a dx c ns vs ds _ _ _ _ _ p e
    cases (show (none : Option PyData) = some p from e)
  · intro ps e
    cases (show some ([] : List PyData) = some ps from e)
    exact .nil
  · intro v vs d ds _ _ i1 i2 ps e
    obtain ⟨p, qs, e1, e2, e3⟩ := toPs_cons e
    subst e3
    exact .cons (i1 p e1) (i2 qs e2)
end

/-! ### operators -/
def addD : D → D → DV
  | .int i, .int j => some (.int (i + j), false)
  | .lst a, .lst b => if a.length + b.length ≤ sizeLine then some (.lst (a ++ b), true) else none
  | .tup a, .tup b => if a ≠ [] ∧ b ≠ [] ∧ a.length + b.length ≤ sizeLine then some (.tup (a ++ b), false) else none
  | .str a, .str b => if a.length + b.length ≤ sizeLine then some (.str (a ++ b), false) else none
  | _, _ => none
def subD : D → D → DV
  | .int i, .int j => some (.int (i - j), false)
  | _, _ => none
/-- factors of less than 100,000 bits -/
def mulD : D → D → DV
  | .int i, .int j => if i.natAbs.log2 + j.natAbs.log2 < 1000000 then some (.int (i * j), false) else none
  | .lst a, .int k => if k < 2 ^ 63 ∧ -(2 ^ 63) ≤ k ∧ a.length * k.toNat ≤ sizeLine then some (.lst (List.replicate k.toNat a).flatten, true) else none
  | _, _ => none
def divD : D → D → DV
  | .int i, .int j => if 0 < j ∧ j.natAbs.log2 < 9000 then some (.int (i / j), false) else none
  | _, _ => none
def modD : D → D → DV
  | .int i, .int j => if 0 < j then some (.int (i % j), false) else none
  | _, _ => none
def powD : D → D → DV
  | .int i, .int j => if 0 ≤ j ∧ (i.natAbs.log2 + 1) * j.toNat ≤ 134217728 then some (.int (i ^ j.toNat), false) else none
  | _, _ => none
def negD : D → DV
  | .int i => some (.int (-i), false)
  | _ => none
def ltD : D → D → DV
  | .int i, .int j => some (.bl (decide (i < j)), false)
  | _, _ => none
def leD : D → D → DV
  | .int i, .int j => some (.bl (decide (i ≤ j)), false)
  | _, _ => none
def gtD : D → D → DV
  | .int i, .int j => some (.bl (decide (j < i)), false)
  | _, _ => none
def geD : D → D → DV
  | .int i, .int j => some (.bl (decide (j ≤ i)), false)
  | _, _ => none
def isND : D → D → DV
  | .non, .non => some (.bl true, false)
  | _, .non => some (.bl false, false)
  | _, _ => none
def isnotND : D → D → DV
  | .non, .non => some (.bl false, false)
  | _, .non => some (.bl true, false)
  | _, _ => none
def eqD (a b : D) : DV := match toP a, toP b with
  | some p, some q => if SeqAt.shaped p = true ∧ SeqAt.shaped q = true then some (.bl (PyData.eqv p q), false) else none
  | _, _ => none
def neD (a b : D) : DV := match toP a, toP b with
  | some p, some q => if SeqAt.shaped p = true ∧ SeqAt.shaped q = true then some (.bl (!PyData.eqv p q), false) else none
  | _, _ => none
/-- in a list of data, in a tuple of flat things -/
def flatD : D → Bool
  | .non => true
  | .bl _ => true
  | .int _ => true
  | .str _ => true
  | _ => false
def eqvD (a b : D) : Bool := match toP a, toP b with
  | some p, some q => PyData.eqv p q
  | _, _ => false
def inD (a b : D) : DV := match toP a, toP b with
  | some p, some (.list qs) => if SeqAt.shaped p = true ∧ SeqAt.shaped (.list qs) = true then some (.bl (qs.any fun z => PyData.eqv z p), false) else none
  | _, _ => none
def ninD (a b : D) : DV := match toP a, toP b with
  | some p, some (.list qs) => if SeqAt.shaped p = true ∧ SeqAt.shaped (.list qs) = true then some (.bl (!qs.any fun z => PyData.eqv z p), false) else none
  | _, _ => none

section
variable {X : Cx} {g : Gc} (hg : g.K = X.K)
theorem OpI.s {C : Int → Int → Prop} {f : Int → Int → Int} {o : D → D → DV} (h : ∀ dx dy d fr, o dx dy = some (d, fr) → ∃ i j, dx = .int i ∧ dy = .int j ∧ C i j ∧ d = .int (f i j) ∧ fr = false) : BinS g (rI C fun i j => V.int (f i j)) o := by
  intro x y dx dy H Xx Q d fr rx ry _ ho q
  obtain ⟨i, j, rfl, rfl, hc, rfl, rfl⟩ := h dx dy d fr ho
  cases rx
  cases ry
  exact ⟨i, j, rfl, rfl, hc, fun s => q _ H (.refl H) s (.old (.int _))⟩
theorem OpB.s {f : Int → Int → Bool} {o : D → D → DV} (h : ∀ dx dy d fr, o dx dy = some (d, fr) → ∃ i j, dx = .int i ∧ dy = .int j ∧ d = .bl (f i j) ∧ fr = false) : BinS g (rI0 fun i j => V.bl (f i j)) o := by
  intro x y dx dy H Xx Q d fr rx ry _ ho q
  obtain ⟨i, j, rfl, rfl, rfl, rfl⟩ := h dx dy d fr ho
  cases rx
  cases ry
  exact ⟨i, j, rfl, rfl, fun s => q _ H (.refl H) s (.old (.bl _))⟩
theorem s_sub : BinS g (rI0 fun i j => V.int (i - j)) subD := by
  intro x y dx dy H Xx Q d fr rx ry _ ho q
  cases dx <;> cases dy <;> first | cases ho | skip
  cases rx
  cases ry
  exact ⟨_, _, rfl, rfl, fun s => q _ H (.refl H) s (.old (.int _))⟩
def rAddD (K : PySem.W.Frag) : R2 := fun x y H Q => (rI0 fun i j => V.int (i + j)) x y H Q ∨ rCat x y H Q ∨ rCatT K x y H Q ∨ ∃ i j, x = .str i ∧ y = .str j ∧ i.length + j.length ≤ sizeLine ∧ Q (.str (i ++ j)) H
theorem o_add : OpR X (binaryOp .Add) (rAddD X.K) := op_add.or (op_cat.or (op_catT.or op_add_str))
include hg
theorem s_add : BinS g (rAddD X.K) addD := by
  intro x y dx dy H Xx Q d fr rx ry hx ho q
  cases dx <;> cases dy <;> first | cases ho | skip
  · cases rx
    cases ry
    exact .inl ⟨_, _, rfl, rfl, fun s => q _ H (.refl H) s (.old (.int _))⟩
  · rename_i a b
    cases rx
    cases ry
    dsimp only [addD] at ho
    split at ho
    · rename_i hl
      cases ho
      exact .inr (.inr (.inr ⟨_, _, rfl, rfl, hl, fun s => q _ H (.refl H) s (.old (.str _))⟩))
    · cases ho
  · rename_i as bs
    dsimp only [addD] at ho
    split at ho
    · rename_i hl
      cases ho
      cases rx with
      | lst nx1 h1 r1 =>
        cases ry with
        | lst nx2 h2 r2 =>
          exact .inr (.inl ⟨_, _, _, _, rfl, rfl, h1, h2, by rw [r1.length, r2.length]; exact hl, fun p n s => q _ _ (same_upd hg n) s (fresh_lst hg n hx s (r1.append r2))⟩)
    · cases ho
  · rename_i as bs
    dsimp only [addD] at ho
    split at ho
    · rename_i hl
      cases ho
      cases rx with
      | tup nx1 h1 r1 =>
        cases ry with
        | tup nx2 h2 r2 =>
          have ne1 : ∀ {vs : List V} {ds : List D}, Reps g H Xx vs ds → ds ≠ [] → vs ≠ [] := fun r n z => by
            subst z
            cases r
            exact n rfl
          refine .inr (.inr (.inl ⟨_, _, _, _, rfl, rfl, by rw [← hg]; exact h1, by rw [← hg]; exact h2, ne1 r1 hl.1, by rw [r1.length, r2.length]; exact hl.2.2, fun z => absurd z (ne1 r2 hl.2.1), fun _ p n s => ?_⟩))
          exact q _ _ (same_upd hg n) s (new_tup hg n hx (r1.append r2))
    · cases ho
omit hg in
theorem Reps.repl {H : Hp} {Xx : Px} {vs : List V} {ds : List D} (r : Reps g H Xx vs ds) : ∀ n, Reps g H Xx (List.replicate n vs).flatten (List.replicate n ds).flatten
  | 0 => .nil
  | n + 1 => by
    rw [List.replicate_succ, List.replicate_succ, List.flatten_cons, List.flatten_cons]
    exact r.append (Reps.repl r n)
def rMulD : R2 := fun x y H Q => (rI CMulW fun i j => V.int (i * j)) x y H Q ∨ rRep x y H Q
omit hg in
theorem o_mul : OpR X (binaryOp .Mult) rMulD := op_mulW.or op_rep
theorem s_mul : BinS g rMulD mulD := by
  intro x y dx dy H Xx Q d fr rx ry hx ho q
  cases dx <;> cases dy <;> first | cases ho | skip
  · cases rx
    cases ry
    dsimp only [mulD] at ho
    split at ho
    · rename_i hl
      cases ho
      exact .inl ⟨_, _, rfl, rfl, hl, fun s => q _ H (.refl H) s (.old (.int _))⟩
    · cases ho
  · cases ry
    dsimp only [mulD] at ho
    split at ho
    · rename_i hl
      cases ho
      cases rx with
      | lst nx1 h1 r1 =>
        refine .inr ⟨_, _, _, rfl, rfl, h1, hl.2.1, hl.1, by rw [r1.length]; exact hl.2.2, fun p n s => ?_⟩
        exact q _ _ (same_upd hg n) s (fresh_lst hg n hx s (r1.repl _))
    · cases ho
omit hg
theorem s_div : BinS g (rI CDivW fun i j => V.int (i / j)) divD := by
  intro x y dx dy H Xx Q d fr rx ry _ ho q
  cases dx <;> cases dy <;> first | cases ho | skip
  cases rx
  cases ry
  dsimp only [divD] at ho
  split at ho
  · rename_i hl
    cases ho
    exact ⟨_, _, rfl, rfl, hl, fun s => q _ H (.refl H) s (.old (.int _))⟩
  · cases ho
theorem s_mod : BinS g (rI (fun _ j => 0 < j) fun i j => V.int (i % j)) modD := by
  intro x y dx dy H Xx Q d fr rx ry _ ho q
  cases dx <;> cases dy <;> first | cases ho | skip
  cases rx
  cases ry
  dsimp only [modD] at ho
  split at ho
  · rename_i hl
    cases ho
    exact ⟨_, _, rfl, rfl, hl, fun s => q _ H (.refl H) s (.old (.int _))⟩
  · cases ho
def CPowW (i j : Int) : Prop := 0 ≤ j ∧ (i.natAbs.log2 + 1) * j.toNat ≤ 134217728
theorem o_pow : OpR X (binaryOp .Pow) (rI CPowW fun i j => V.int (i ^ j.toNat)) := opI fun i j t u s Q E hc q => by
  refine pow_int hc.1 ?_ q
  have b : Builtin.Int.intBits i ≤ i.natAbs.log2 + 1 := by
    unfold Builtin.Int.intBits
    split <;> omega
  have h2 := hc.2
  have h3 : Builtin.Int.intBits i * j.toNat ≤ 134217728 := Nat.le_trans (Nat.mul_le_mul_right _ b) h2
  have e : (j.toNat : Int) = j := Int.toNat_of_nonneg hc.1
  rw [← e]
  have h4 : ((Builtin.Int.intBits i * j.toNat : Nat) : Int) ≤ 134217728 := by omega
  rw [Int.natCast_mul] at h4
  exact h4
theorem s_pow : BinS g (rI CPowW fun i j => V.int (i ^ j.toNat)) powD := by
  intro x y dx dy H Xx Q d fr rx ry _ ho q
  cases dx <;> cases dy <;> first | cases ho | skip
  cases rx
  cases ry
  dsimp only [powD] at ho
  split at ho
  · rename_i hl
    cases ho
    exact ⟨_, _, rfl, rfl, hl, fun s => q _ H (.refl H) s (.old (.int _))⟩
  · cases ho
theorem s_neg : UnS g (rU fun i => V.int (-i)) negD := by
  intro x dx H Xx Q d fr rx _ ho q
  cases dx <;> first | cases ho | skip
  cases rx
  exact ⟨_, rfl, fun s => q _ H (.refl H) s (.old (.int _))⟩
theorem s_lt : BinS g (rI0 fun i j => V.bl (decide (i < j))) ltD := by
  intro x y dx dy H Xx Q d fr rx ry _ ho q
  cases dx <;> cases dy <;> first | cases ho | skip
  cases rx
  cases ry
  exact ⟨_, _, rfl, rfl, fun s => q _ H (.refl H) s (.old (.bl _))⟩
theorem s_le : BinS g (rI0 fun i j => V.bl (decide (i ≤ j))) leD := by
  intro x y dx dy H Xx Q d fr rx ry _ ho q
  cases dx <;> cases dy <;> first | cases ho | skip
  cases rx
  cases ry
  exact ⟨_, _, rfl, rfl, fun s => q _ H (.refl H) s (.old (.bl _))⟩
theorem s_gt : BinS g (rI0 fun i j => V.bl (decide (j < i))) gtD := by
  intro x y dx dy H Xx Q d fr rx ry _ ho q
  cases dx <;> cases dy <;> first | cases ho | skip
  cases rx
  cases ry
  exact ⟨_, _, rfl, rfl, fun s => q _ H (.refl H) s (.old (.bl _))⟩
theorem s_ge : BinS g (rI0 fun i j => V.bl (decide (j ≤ i))) geD := by
  intro x y dx dy H Xx Q d fr rx ry _ ho q
  cases dx <;> cases dy <;> first | cases ho | skip
  cases rx
  cases ry
  exact ⟨_, _, rfl, rfl, fun s => q _ H (.refl H) s (.old (.bl _))⟩
theorem s_isN : BinS g (fun x y H Q => y = .non ∧ Q (.bl (decide (x = .non))) H) isND := by
  intro x y dx dy H Xx Q d fr rx ry _ ho q
  cases dy <;> first | (cases dx <;> cases ho; done) | skip
  cases ry
  refine ⟨rfl, fun s => ?_⟩
  have e : d = .bl (decide (x = .non)) ∧ fr = false := by
    cases dx <;> cases ho <;> cases rx <;> exact ⟨rfl, rfl⟩
  obtain ⟨rfl, rfl⟩ := e
  exact q _ H (.refl H) s (.old (.bl _))
theorem s_isnotN : BinS g (fun x y H Q => y = .non ∧ Q (.bl (!decide (x = .non))) H) isnotND := by
  intro x y dx dy H Xx Q d fr rx ry _ ho q
  cases dy <;> first | (cases dx <;> cases ho; done) | skip
  cases ry
  refine ⟨rfl, fun s => ?_⟩
  have e : d = .bl (!decide (x = .non)) ∧ fr = false := by
    cases dx <;> cases ho <;> cases rx <;> exact ⟨rfl, rfl⟩
  obtain ⟨rfl, rfl⟩ := e
  exact q _ H (.refl H) s (.old (.bl _))
include hg
theorem s_eq : BinS g (rEqD X.K) eqD := by
  intro x y dx dy H Xx Q d fr rx ry _ ho q
  unfold eqD at ho
  split at ho
  · rename_i p1 p2 e1 e2
    split at ho
    · rename_i hs
      cases ho
      exact ⟨p1, p2, by rw [← hg]; exact rep_dp rx p1 e1, by rw [← hg]; exact rep_dp ry p2 e2, hs.1, hs.2, fun s => q _ H (.refl H) s (.old (.bl _))⟩
    · cases ho
  · cases ho
theorem s_ne : BinS g (rNeD X.K) neD := by
  intro x y dx dy H Xx Q d fr rx ry _ ho q
  unfold neD at ho
  split at ho
  · rename_i p1 p2 e1 e2
    split at ho
    · rename_i hs
      cases ho
      exact ⟨p1, p2, by rw [← hg]; exact rep_dp rx p1 e1, by rw [← hg]; exact rep_dp ry p2 e2, hs.1, hs.2, fun s => q _ H (.refl H) s (.old (.bl _))⟩
    · cases ho
  · cases ho
theorem s_in : BinS g (rInD X.K) inD := by
  intro x y dx dy H Xx Q d fr rx ry _ ho q
  unfold inD at ho
  split at ho
  · rename_i p1 p2 e1 e2
    split at ho
    · rename_i hs
      cases ho
      exact ⟨p1, p2, by rw [← hg]; exact rep_dp rx p1 e1, by rw [← hg]; exact rep_dp ry _ e2, hs.1, hs.2, fun s => q _ H (.refl H) s (.old (.bl _))⟩
    · cases ho
  · cases ho
theorem s_nin : BinS g (rNotInD X.K) ninD := by
  intro x y dx dy H Xx Q d fr rx ry _ ho q
  unfold ninD at ho
  split at ho
  · rename_i p1 p2 e1 e2
    split at ho
    · rename_i hs
      cases ho
      exact ⟨p1, p2, by rw [← hg]; exact rep_dp rx p1 e1, by rw [← hg]; exact rep_dp ry _ e2, hs.1, hs.2, fun s => q _ H (.refl H) s (.old (.bl _))⟩
    · cases ho
  · cases ho
end
end G

/-! Built-ins by values, items, slices, isinstance, repr. -/
namespace G
open PySem PySem.Spec PyProof.Rows L2
/-! ### lists of ints, of bools -/
def intsOf : List D → Option (List Int)
  | [] => some []
  | .int i :: r => (intsOf r).map (i :: ·)
  | _ => none
def blsOf : List D → Option (List Bool)
  | [] => some []
  | .bl i :: r => (blsOf r).map (i :: ·)
  | _ => none
theorem intsOf_eq : ∀ {ds : List D} {ns : List Int}, intsOf ds = some ns → ds = ns.map D.int
  | [], ns, h => by cases h; rfl
  | d :: r, ns, h => by
    cases d <;> first | (cases h; done) | skip
    obtain ⟨ms, e1, e2⟩ := Option.map_eq_some_iff.mp h
    subst e2
    rw [intsOf_eq e1]
    rfl
theorem blsOf_eq : ∀ {ds : List D} {ns : List Bool}, blsOf ds = some ns → ds = ns.map D.bl
  | [], ns, h => by cases h; rfl
  | d :: r, ns, h => by
    cases d <;> first | (cases h; done) | skip
    obtain ⟨ms, e1, e2⟩ := Option.map_eq_some_iff.mp h
    subst e2
    rw [blsOf_eq e1]
    rfl
theorem intsOf_map (ns : List Int) : intsOf (ns.map D.int) = some ns := by
  induction ns with
  | nil => rfl
  | cons n r ih => show (intsOf (r.map D.int)).map (n :: ·) = _; rw [ih]; rfl
theorem blsOf_map (ns : List Bool) : blsOf (ns.map D.bl) = some ns := by
  induction ns with
  | nil => rfl
  | cons n r ih => show (blsOf (r.map D.bl)).map (n :: ·) = _; rw [ih]; rfl
def absD : List D → DV
  | [.int i] => some (.int (if i < 0 then -i else i), false)
  | _ => none
def intD : List D → DV
  | [.int i] => some (.int i, false)
  | [.bl b] => some (.int (if b then 1 else 0), false)
  | _ => none
def leastOf : Int → List Int → Int
  | m, [] => m
  | m, n :: r => leastOf (if n < m then n else m) r
def mostOf : Int → List Int → Int
  | m, [] => m
  | m, n :: r => mostOf (if n > m then n else m) r
theorem leastOf_spec : ∀ (r : List Int) (m : Int), (leastOf m r = m ∨ leastOf m r ∈ r) ∧ leastOf m r ≤ m ∧ ∀ y ∈ r, leastOf m r ≤ y
  | [], m => ⟨.inl rfl, Int.le_refl _, fun _ h => nomatch h⟩
  | n :: r, m => by
    obtain ⟨h1, h2, h3⟩ := leastOf_spec r (if n < m then n else m)
    show (leastOf (if n < m then n else m) r = m ∨ _) ∧ leastOf (if n < m then n else m) r ≤ m ∧ _
    have hm : (if n < m then n else m) ≤ m ∧ (if n < m then n else m) ≤ n := by split <;> omega
    refine ⟨?_, by omega, fun y hy => ?_⟩
    · rcases h1 with h1 | h1
      · by_cases z : n < m
        · rw [if_pos z] at h1 ⊢
          exact .inr (by show leastOf _ r ∈ n :: r; rw [if_pos z, h1]; exact List.mem_cons_self)
        · rw [if_neg z] at h1 ⊢
          exact .inl h1
      · exact .inr (List.mem_cons_of_mem _ h1)
    · rcases List.mem_cons.mp hy with rfl | hy
      · exact Int.le_trans h2 hm.2
      · exact h3 y hy
theorem mostOf_spec : ∀ (r : List Int) (m : Int), (mostOf m r = m ∨ mostOf m r ∈ r) ∧ m ≤ mostOf m r ∧ ∀ y ∈ r, y ≤ mostOf m r
  | [], m => ⟨.inl rfl, Int.le_refl _, fun _ h => nomatch h⟩
  | n :: r, m => by
    obtain ⟨h1, h2, h3⟩ := mostOf_spec r (if n > m then n else m)
    show (mostOf (if n > m then n else m) r = m ∨ _) ∧ m ≤ mostOf (if n > m then n else m) r ∧ _
    have hm : m ≤ (if n > m then n else m) ∧ n ≤ (if n > m then n else m) := by split <;> omega
    refine ⟨?_, by omega, fun y hy => ?_⟩
    · rcases h1 with h1 | h1
      · by_cases z : n > m
        · rw [if_pos z] at h1 ⊢
          exact .inr (by show mostOf _ r ∈ n :: r; rw [if_pos z, h1]; exact List.mem_cons_self)
        · rw [if_neg z] at h1 ⊢
          exact .inl h1
      · exact .inr (List.mem_cons_of_mem _ h1)
    · rcases List.mem_cons.mp hy with rfl | hy
      · exact Int.le_trans hm.2 h2
      · exact h3 y hy
def maxD : List D → DV
  | [.int i, .int j] => some (.int (if j > i then j else i), false)
  | [.lst ds] => match intsOf ds with
    | some (n :: r) => some (.int (mostOf n r), false)
    | _ => none
  | _ => none
def minD : List D → DV
  | [.int i, .int j] => some (.int (if j < i then j else i), false)
  | [.lst ds] => match intsOf ds with
    | some (n :: r) => some (.int (leastOf n r), false)
    | _ => none
  | _ => none
def lenD : List D → DV
  | [.lst ds] => some (.int ds.length, false)
  | [.tup ds] => some (.int ds.length, false)
  | [.scr ns] => some (.int ns.length, false)
  | [.str x] => if x.length ≤ sizeLine then some (.int x.length, false) else none
  | _ => none
def allD : List D → DV
  | [.lst ds] => (blsOf ds).map fun bs => (.bl (bs.all id), false)
  | _ => none
def anyD : List D → DV
  | [.lst ds] => (blsOf ds).map fun bs => (.bl (bs.any id), false)
  | _ => none
def sumD : List D → DV
  | [.lst ds] => (intsOf ds).map fun ns => (.int ns.sum, false)
  | _ => none
def sortI (ns : List Int) : List Int := ns.mergeSort fun a b => decide (a ≤ b)
theorem sortI_perm (ns : List Int) : (sortI ns).Perm ns := List.mergeSort_perm _ _
theorem sortI_sorted (ns : List Int) : (sortI ns).Pairwise (· ≤ ·) := by
  have h := List.pairwise_mergeSort (le := fun a b : Int => decide (a ≤ b)) (fun a b c h1 h2 => by simp only [decide_eq_true_eq] at *; omega) (fun a b => by simp only [Bool.or_eq_true, decide_eq_true_eq]; omega) ns
  exact h.imp fun h => by simpa using h
def sortD : List D → DV
  | [.lst ds] => (intsOf ds).map fun ns => (.lst ((sortI ns).map D.int), true)
  | _ => none
def listD : List D → DV
  | [.lst ds] => some (.lst ds, true)
  | [.tup ds] => some (.lst ds, true)
  | [.scr ns] => some (.lst (ns.map D.int), true)
  | _ => none
def tupD : List D → DV
  | [.lst ds] => some (.tup ds, false)
  | [.tup ds] => some (.tup ds, false)
  | _ => none
/-- x[i] -/
def ixD : D → D → DV
  | .lst ds, .int i => (atI ds i).map fun d => (d, false)
  | .tup ds, .int i => (atI ds i).map fun d => (d, false)
  | .scr ns, .int i => (atI ns i).map fun n => (.int n, false)
  | .str x, .int i => if x.length ≤ sizeLine then (atI x.cps.toList i).map fun c => (.str ⟨#[c]⟩, false) else none
  | _, _ => none
def cutD {α : Type} (xs : List α) (lo hi : Option Int) : List α := (xs.drop (HT.sIx xs.length 0 lo)).take (HT.sIx xs.length xs.length hi - HT.sIx xs.length 0 lo)
/-- x[lo:hi] -/
def slD : D → Option Int → Option Int → DV
  | .lst ds, lo, hi => some (.lst (cutD ds lo hi), true)
  | .scr ns, lo, hi => some (.lst ((cutD ns lo hi).map D.int), true)
  | .tup ds, lo, hi => if HT.sIx ds.length 0 lo = 0 ∧ HT.sIx ds.length ds.length hi = ds.length then none else some (.tup (cutD ds lo hi), false)
  | _, _, _ => none

section
variable {X : Cx} {g : Gc} (hg : g.K = X.K)
theorem c1 {P : V → Prop} {g : Gc} {H : Hp} {Xx : Px} {xs : List V} {d : D} (r : Reps g H Xx xs [d]) : ∃ x, xs = [x] ∧ Rep g H Xx x d := by
  cases r with
  | cons a b => cases b; exact ⟨_, rfl, a⟩
theorem s_abs : CallS g (fun xs H Q => ∃ i, xs = [.int i] ∧ Q (.int (if i < 0 then -i else i)) H) absD := by
  intro xs ds H Xx Q d fr r hx ho q
  unfold absD at ho
  split at ho
  · cases ho
    cases r with
    | cons a b =>
      cases a
      cases b
      exact ⟨_, rfl, fun s => q _ H (.refl H) s (.old (.int _))⟩
  · cases ho
theorem s_int : CallS g (fun xs H Q => (∃ i, xs = [V.int i] ∧ Q (.int i) H) ∨ ∃ k, xs = [V.bl k] ∧ Q (.int (if k then 1 else 0)) H) intD := by
  intro xs ds H Xx Q d fr r hx ho q
  unfold intD at ho
  split at ho
  · cases ho
    cases r with
    | cons a b =>
      cases a
      cases b
      exact .inl ⟨_, rfl, fun s => q _ H (.refl H) s (.old (.int _))⟩
  · cases ho
    cases r with
    | cons a b =>
      cases a
      cases b
      exact .inr ⟨_, rfl, fun s => q _ H (.refl H) s (.old (.int _))⟩
  · cases ho
def rMax2 (K : PySem.W.Frag) : List V → Hp → VK → Prop := fun xs H Q => (∃ i j, xs = [V.int i, V.int j] ∧ Q (.int (if j > i then j else i)) H) ∨ rMax K xs H Q
def rMin2 (K : PySem.W.Frag) : List V → Hp → VK → Prop := fun xs H Q => (∃ i j, xs = [V.int i, V.int j] ∧ Q (.int (if j < i then j else i)) H) ∨ rMin K xs H Q
theorem CallR.or {f : Value} {r r' : List V → Hp → VK → Prop} (h : CallR X f r) (h' : CallR X f r') : CallR X f (fun xs H Q => r xs H Q ∨ r' xs H Q) := by
  intro pins s σ H xs us Q I rr q
  rcases q with q | q
  · exact h pins s σ H xs us Q I rr q
  · exact h' pins s σ H xs us Q I rr q
theorem o_max (hc : X.calm = true) : CallR X (.builtin "max") (rMax2 X.K) := CallR.or (call_max2 hc) (cr_max hc)
theorem o_min (hc : X.calm = true) : CallR X (.builtin "min") (rMin2 X.K) := CallR.or (call_min2 hc) (cr_min hc)
include hg
theorem s_max : CallS g (rMax2 X.K) maxD := by
  intro xs ds H Xx Q d fr r hx ho q
  unfold maxD at ho
  split at ho
  · cases ho
    cases r with
    | cons a b =>
      cases a
      cases b with
      | cons a b =>
        cases a
        cases b
        exact .inl ⟨_, _, rfl, fun s => q _ H (.refl H) s (.old (.int _))⟩
  · rename_i es
    split at ho
    · rename_i n ns hn
      cases ho
      have e := intsOf_eq hn
      cases r with
      | cons a b =>
        cases b
        cases a with
        | lst nx h1 r1 =>
          rw [e] at r1
          have e2 := reps_ints_inv r1
          refine .inr ⟨_, n :: ns, rfl, by rw [← hg]; exact .of (by rw [h1, e2]), Nat.succ_pos _, fun m hm hl s => ?_⟩
          obtain ⟨k1, k2, k3⟩ := mostOf_spec ns n
          have : m = mostOf n ns := by
            have z1 : m ≤ mostOf n ns := by
              rcases List.mem_cons.mp hm with rfl | hm
              · exact k2
              · exact k3 m hm
            have z2 : mostOf n ns ≤ m := by
              rcases k1 with k1 | k1
              · rw [k1]; exact hl n List.mem_cons_self
              · exact hl _ (List.mem_cons_of_mem _ k1)
            omega
          rw [this]
          exact q _ H (.refl H) s (.old (.int _))
    · cases ho
  · cases ho
theorem s_min : CallS g (rMin2 X.K) minD := by
  intro xs ds H Xx Q d fr r hx ho q
  unfold minD at ho
  split at ho
  · cases ho
    cases r with
    | cons a b =>
      cases a
      cases b with
      | cons a b =>
        cases a
        cases b
        exact .inl ⟨_, _, rfl, fun s => q _ H (.refl H) s (.old (.int _))⟩
  · rename_i es
    split at ho
    · rename_i n ns hn
      cases ho
      have e := intsOf_eq hn
      cases r with
      | cons a b =>
        cases b
        cases a with
        | lst nx h1 r1 =>
          rw [e] at r1
          have e2 := reps_ints_inv r1
          refine .inr ⟨_, n :: ns, rfl, by rw [← hg]; exact .of (by rw [h1, e2]), Nat.succ_pos _, fun m hm hl s => ?_⟩
          obtain ⟨k1, k2, k3⟩ := leastOf_spec ns n
          have : m = leastOf n ns := by
            have z1 : leastOf n ns ≤ m := by
              rcases List.mem_cons.mp hm with rfl | hm
              · exact k2
              · exact k3 m hm
            have z2 : m ≤ leastOf n ns := by
              rcases k1 with k1 | k1
              · rw [k1]; exact hl n List.mem_cons_self
              · exact hl _ (List.mem_cons_of_mem _ k1)
            omega
          rw [this]
          exact q _ H (.refl H) s (.old (.int _))
    · cases ho
  · cases ho
theorem s_len : CallS g (fun xs H Q => ∃ x n, xs = [x] ∧ LenV X.K x H n ∧ Q (.int n) H) lenD := by
  intro xs ds H Xx Q d fr r hx ho q
  unfold lenD at ho
  split at ho
  · cases ho
    cases r with
    | cons a b =>
      cases b
      cases a with
      | lst nx h1 r1 => exact ⟨_, _, rfl, .inl ⟨_, by rw [← hg]; exact .of h1, rfl⟩, fun s => by rw [r1.length]; exact q _ H (.refl H) s (.old (.int _))⟩
  · cases ho
    cases r with
    | cons a b =>
      cases b
      cases a with
      | tup nx h1 r1 => exact ⟨_, _, rfl, .inr ⟨_, by rw [← hg]; exact h1, rfl⟩, fun s => by rw [r1.length]; exact q _ H (.refl H) s (.old (.int _))⟩
  · cases ho
    cases r with
    | cons a b =>
      cases b
      cases a with
      | scr nx h1 => exact ⟨_, _, rfl, .inl ⟨_, by rw [← hg]; exact h1, rfl⟩, fun s => by rw [List.length_map]; exact q _ H (.refl H) s (.old (.int _))⟩
  · split at ho
    · rename_i hl
      cases ho
      cases r with
      | cons a b =>
        cases b
        cases a
        exact ⟨_, _, rfl, ⟨hl, rfl⟩, fun s => q _ H (.refl H) s (.old (.int _))⟩
    · cases ho
  · cases ho
theorem s_all : CallS g (rAll X.K) allD := by
  intro xs ds H Xx Q d fr r hx ho q
  unfold allD at ho
  split at ho
  · obtain ⟨bs, e1, e2⟩ := Option.map_eq_some_iff.mp ho
    cases e2
    have e := blsOf_eq e1
    cases r with
    | cons a b =>
      cases b
      cases a with
      | lst nx h1 r1 =>
        rw [e] at r1
        have e2 := reps_bls_inv r1
        exact ⟨_, bs, rfl, by rw [← hg]; exact .of (by rw [h1, e2]), fun s => q _ H (.refl H) s (.old (.bl _))⟩
  · cases ho
theorem s_any : CallS g (rAny X.K) anyD := by
  intro xs ds H Xx Q d fr r hx ho q
  unfold anyD at ho
  split at ho
  · obtain ⟨bs, e1, e2⟩ := Option.map_eq_some_iff.mp ho
    cases e2
    have e := blsOf_eq e1
    cases r with
    | cons a b =>
      cases b
      cases a with
      | lst nx h1 r1 =>
        rw [e] at r1
        have e2 := reps_bls_inv r1
        exact ⟨_, bs, rfl, by rw [← hg]; exact .of (by rw [h1, e2]), fun s => q _ H (.refl H) s (.old (.bl _))⟩
  · cases ho
theorem s_sum : CallS g (rSum X.K) sumD := by
  intro xs ds H Xx Q d fr r hx ho q
  unfold sumD at ho
  split at ho
  · obtain ⟨bs, e1, e2⟩ := Option.map_eq_some_iff.mp ho
    cases e2
    have e := intsOf_eq e1
    cases r with
    | cons a b =>
      cases b
      cases a with
      | lst nx h1 r1 =>
        rw [e] at r1
        have e2 := reps_ints_inv r1
        exact ⟨_, bs, rfl, by rw [← hg]; exact .of (by rw [h1, e2]), fun s => q _ H (.refl H) s (.old (.int _))⟩
  · cases ho
theorem s_sort : CallS g (rSortedI X.K) sortD := by
  intro xs ds H Xx Q d fr r hx ho q
  unfold sortD at ho
  split at ho
  · obtain ⟨bs, e1, e2⟩ := Option.map_eq_some_iff.mp ho
    cases e2
    have e := intsOf_eq e1
    cases r with
    | cons a b =>
      cases b
      cases a with
      | lst nx h1 r1 =>
        rw [e] at r1
        have e2 := reps_ints_inv r1
        refine ⟨_, bs, rfl, by rw [← hg]; exact .of (by rw [h1, e2]), fun ns' p hp hw n s => ?_⟩
        have : ns' = sortI bs := PySem.W.ksm_same (hp.trans (sortI_perm bs).symm) hw (sortI_sorted bs)
        subst this
        exact q _ _ (same_upd hg n) s (fresh_lst hg n hx s reps_ints)
  · cases ho
theorem s_list : CallS g (fun xs H Q => ∃ p ys, xs = [.ref p] ∧ (SqL X.K H p ys ∨ SqT X.K H p ys) ∧ ∀ l, H l = none → Q (.ref l) (upd H l (.lst ys))) listD := by
  intro xs ds H Xx Q d fr r hx ho q
  unfold listD at ho
  split at ho
  · cases ho
    cases r with
    | cons a b =>
      cases b
      cases a with
      | lst nx h1 r1 => exact ⟨_, _, rfl, .inl (by rw [← hg]; exact .of h1), fun l n s => q _ _ (same_upd hg n) s (fresh_lst hg n hx s r1)⟩
  · cases ho
    cases r with
    | cons a b =>
      cases b
      cases a with
      | tup nx h1 r1 => exact ⟨_, _, rfl, .inr (by rw [← hg]; exact h1), fun l n s => q _ _ (same_upd hg n) s (fresh_lst hg n hx s r1)⟩
  · cases ho
    cases r with
    | cons a b =>
      cases b
      cases a with
      | scr nx h1 => exact ⟨_, _, rfl, .inl (by rw [← hg]; exact h1), fun l n s => q _ _ (same_upd hg n) s (fresh_lst hg n hx s reps_ints)⟩
  · cases ho
theorem s_tuple : CallS g (fun xs H Q => ∃ p ys, xs = [.ref p] ∧ ((SqL X.K H p ys ∧ ∀ l, H l = none → Q (.ref l) (upd H l (.tup ys))) ∨ (SqT X.K H p ys ∧ Q (.ref p) H))) tupD := by
  intro xs ds H Xx Q d fr r hx ho q
  unfold tupD at ho
  split at ho
  · cases ho
    cases r with
    | cons a b =>
      cases b
      cases a with
      | lst nx h1 r1 => exact ⟨_, _, rfl, .inl ⟨by rw [← hg]; exact .of h1, fun l n s => q _ _ (same_upd hg n) s (new_tup hg n hx r1)⟩⟩
  · cases ho
    cases r with
    | cons a b =>
      cases b
      cases a with
      | tup nx h1 r1 => exact ⟨_, _, rfl, .inr ⟨by rw [← hg]; exact h1, fun s => q _ H (.refl H) s (.old (.tup nx h1 r1))⟩⟩
  · cases ho

/-! ### items -/
omit hg in
theorem atI_rep {H : Hp} {Xx : Px} {vs : List V} {ds : List D} {i : Int} {d : D} (r : Reps g H Xx vs ds) (h : atI ds i = some d) : ∃ v, atI vs i = some v ∧ Rep g H Xx v d := by
  unfold atI at h ⊢
  rw [r.length]
  cases e : ixN ds.length i with
  | none => rw [e] at h; cases h
  | some j =>
    rw [e] at h
    exact r.get h
omit hg in
theorem atI_map {α β : Type} (f : α → β) (xs : List α) (i : Int) : atI (xs.map f) i = (atI xs i).map f := by
  unfold atI
  rw [List.length_map]
  cases ixN xs.length i with
  | none => rfl
  | some j => exact List.getElem?_map
theorem s_ix : BinS g (rIx X.K) ixD := by
  intro x y dx dy H Xx Q d fr rx ry hx ho q
  cases dx <;> cases dy <;> first | cases ho | skip
  · cases rx
    cases ry
    dsimp only [ixD] at ho
    split at ho
    · rename_i hl
      obtain ⟨c, e1, e2⟩ := Option.map_eq_some_iff.mp ho
      cases e2
      exact .inr (.inr ⟨_, _, c, rfl, rfl, hl, e1, fun s => q _ H (.refl H) s (.old (.str _))⟩)
    · cases ho
  · cases ry
    obtain ⟨c, e1, e2⟩ := Option.map_eq_some_iff.mp ho
    cases e2
    cases rx with
    | lst nx h1 r1 =>
      obtain ⟨v, e3, e4⟩ := atI_rep r1 e1
      exact .inl ⟨_, _, _, v, rfl, rfl, by rw [← hg]; exact .of h1, e3, fun s => q _ H (.refl H) s (.old e4)⟩
  · cases ry
    obtain ⟨c, e1, e2⟩ := Option.map_eq_some_iff.mp ho
    cases e2
    cases rx with
    | tup nx h1 r1 =>
      obtain ⟨v, e3, e4⟩ := atI_rep r1 e1
      exact .inr (.inl ⟨_, _, _, v, rfl, rfl, by rw [← hg]; exact h1, e3, fun s => q _ H (.refl H) s (.old e4)⟩)
  · cases ry
    obtain ⟨c, e1, e2⟩ := Option.map_eq_some_iff.mp ho
    cases e2
    cases rx with
    | scr nx h1 =>
      exact .inl ⟨_, _, _, .int c, rfl, rfl, by rw [← hg]; exact h1, by rw [atI_map, e1]; rfl, fun s => q _ H (.refl H) s (.old (.int c))⟩
theorem de_ix {a b : Expr} {fa fb : Ex} {pos : Pos} (ha : DE X g a fa) (hb : DE X g b fb) (hs : PlainIx b := by exact fun _ _ => rfl) : DE X g (.Subscript a b pos) (eBin ixD fa fb) :=
  ⟨PE.by hg (pe_ix ix_seq ha.pe hb.pe hs) (rd_bin hg (s_ix hg))⟩
end
end G

/-! Targets, what is walked, comprehensions. -/
namespace G
open PySem PySem.Spec PyProof.Rows L2
abbrev Tg := D → En → Ro En
abbrev Ei := En → Ro (List D × En)

/-! ### targets -/
def tgName (i : Nat) : Tg := fun d e => .ok (e.set i (some (.val d)))
def setAll : List Nat → List D → En → En
  | i :: r, d :: ds, e => setAll r ds (e.set i (some (.val d)))
  | _, _, e => e
def setAllV : List Nat → List V → St → St
  | i :: r, d :: ds, e => setAllV r ds (e.set i (some d))
  | _, _, e => e
def tgTup (is : List Nat) : Tg := fun d e => match d with
  | .tup ds => if ds.length = is.length then .ok (setAll is ds e) else .bad
  | _ => .bad
structure Chg (ss : List Nat) (σ σ' : St) (e e' : En) : Prop where
  l : σ'.length = σ.length
  v : ∀ i ∈ ss, ∀ sv, e'[i]? = some (some sv) → sv.mut = false
  o : ∀ i, i ∉ ss → σ'[i]? = σ[i]? ∧ e'[i]? = e[i]?
def rdG (g : Gc) (T : Tg) (ss : List Nat) : TG := fun v σ H Q => ∃ (e : En) (X : Px) (ow : Nat → Addr) (d : D), (Sep g H → ER g H X ow σ e) ∧ (Sep g H → Rep g H X v d) ∧
  (T d e).all fun e' => ∀ σ', ER g H X ow σ' e' → Chg ss σ σ' e e' → Q σ' H
structure DG (X : Cx) (g : Gc) (tg : Expr) (T : Tg) (ss : List Nat) : Prop where
  pg : PG X tg (rdG g T ss)

section
variable {g : Gc} {H : Hp} {X : Px} {ow : Nat → Addr} {σ : St} {e : En} {v : V} {d : D}
theorem ER.set (h : ER g H X ow σ e) (i : Nat) (r : Rep g H X v d) : ER g H X ow (σ.set i (some v)) (e.set i (some (.val d))) := by
  refine ⟨by rw [List.length_set, List.length_set]; exact h.len, h.xs, h.sep, fun j sv q => ?_, fun j k s t q1 q2 m1 m2 => ?_⟩
  · by_cases hj : i = j
    · subst hj
      have hi : i < e.length := by
        have := (List.getElem?_eq_some_iff.mp q).1
        simpa using this
      rw [List.getElem?_set_self hi] at q
      cases q
      exact ⟨v, List.getElem?_set_self (by rw [← h.len]; exact hi), r⟩
    · rw [List.getElem?_set_ne hj] at q
      obtain ⟨w, h1, h2⟩ := h.sl j sv q
      exact ⟨w, by rw [List.getElem?_set_ne hj]; exact h1, h2⟩
  · have ne : ∀ j s, (e.set i (some (.val d)))[j]? = some (some s) → s.mut = true → i ≠ j := fun j s q m z => by
      subst z
      have hi : i < e.length := by
        have := (List.getElem?_eq_some_iff.mp q).1
        simpa using this
      rw [List.getElem?_set_self hi] at q
      cases q
      cases m
    have n1 := ne j s q1 m1
    have n2 := ne k t q2 m2
    rw [List.getElem?_set_ne n1] at q1
    rw [List.getElem?_set_ne n2] at q2
    exact h.ap j k s t q1 q2 m1 m2
theorem ER.setAll : ∀ {is : List Nat} {vs : List V} {ds : List D} {σ : St} {e : En}, ER g H X ow σ e → Reps g H X vs ds → ER g H X ow (setAllV is vs σ) (setAll is ds e)
  | [], _, _, _, _, h, _ => h
  | i :: r, _, _, _, _, h, .nil => h
  | i :: r, _, _, _, _, h, .cons a b => ER.setAll (is := r) (h.set i a) b
theorem setAll_val : ∀ (is : List Nat) (ds : List D) (e : En) (i : Nat) (sv : SV), (i ∉ is → ∀ sv, e[i]? = some (some sv) → sv.mut = false) → ds.length = is.length → (setAll is ds e)[i]? = some (some sv) → sv.mut = false
  | [], _, e, i, sv, h, _, q => h (by simp) sv q
  | j :: r, [], e, i, sv, h, hl, q => by cases hl
  | j :: r, d :: ds, e, i, sv, h, hl, q => by
    refine setAll_val r ds (e.set j (some (.val d))) i sv (fun hi sv' q' => ?_) (by simpa using hl) q
    by_cases z : j = i
    · subst z
      rw [List.getElem?_set] at q'
      split at q'
      · split at q'
        · cases q'; rfl
        · cases q'
      · rename_i z; exact absurd rfl z
    · rw [List.getElem?_set_ne z] at q'
      exact h (fun m => (List.mem_cons.mp m).elim (fun y => z y.symm) hi) sv' q'
theorem Chg.alls : ∀ (is : List Nat) (vs : List V) (ds : List D) (σ : St) (e : En), (setAllV is vs σ).length = σ.length ∧ (vs.length = ds.length → ∀ i, i ∉ is → (setAllV is vs σ)[i]? = σ[i]? ∧ (setAll is ds e)[i]? = e[i]?)
  | [], _, _, _, _ => ⟨rfl, fun _ _ _ => ⟨rfl, rfl⟩⟩
  | i :: r, [], [], _, _ => ⟨rfl, fun _ _ _ => ⟨rfl, rfl⟩⟩
  | i :: r, [], d :: ds, _, _ => ⟨rfl, fun h => nomatch h⟩
  | i :: r, v :: vs, [], σ, e => ⟨by show (setAllV r vs (σ.set i (some v))).length = _; rw [(Chg.alls r vs [] (σ.set i (some v)) e).1, List.length_set], fun h => nomatch h⟩
  | i :: r, v :: vs, d :: ds, σ, e => by
    obtain ⟨l, ih⟩ := Chg.alls r vs ds (σ.set i (some v)) (e.set i (some (.val d)))
    refine ⟨by show (setAllV r vs (σ.set i (some v))).length = _; rw [l, List.length_set], fun hl j hj => ?_⟩
    have n1 : i ≠ j := fun z => hj (by rw [z]; exact List.mem_cons_self)
    obtain ⟨a, b⟩ := ih (by simpa using hl) j fun z => hj (List.mem_cons_of_mem _ z)
    exact ⟨a.trans (List.getElem?_set_ne n1), b.trans (List.getElem?_set_ne n1)⟩
theorem Chg.all (is : List Nat) (vs : List V) (ds : List D) (σ : St) (e : En) (hl : vs.length = ds.length) (h2 : ds.length = is.length) : Chg is σ (setAllV is vs σ) e (setAll is ds e) :=
  ⟨(Chg.alls is vs ds σ e).1, fun i hi sv q => setAll_val is ds e i sv (fun n => absurd hi n) h2 q, (Chg.alls is vs ds σ e).2 hl⟩
end

/-- names, in order -/
def gNames (is : List Nat) : TGs := fun vs σ H Q => vs.length = is.length ∧ Q (setAllV is vs σ) H
section
variable {X : Cx} {g : Gc} (hg : g.K = X.K)
theorem gn_nil : PGs X [] (gNames []) := ⟨fun pins s σ H vs us Q I r h => by
  obtain ⟨hl, h⟩ := h
  have : vs = [] := List.length_eq_zero_iff.mp hl
  subst this
  exact pgs_nil.run pins s σ H [] us Q I r ⟨rfl, h⟩⟩
theorem gn_cons {i : Nat} {is : List Nat} {e : Expr} {es : List Expr} (h1 : PG X e (gName i)) (h2 : PGs X es (gNames is)) (hs : (assignEach (e :: es) X.env).map (·.2) = assign e X.env :: (assignEach es X.env).map (·.2) := by rfl) : PGs X (e :: es) (gNames (i :: is)) := ⟨fun pins s σ H vs us Q I r h => by
  obtain ⟨hl, h⟩ := h
  cases vs with
  | nil => cases hl
  | cons v vr => exact (pgs_cons h1 h2 hs).run pins s σ H _ us Q I r ⟨v, vr, rfl, by simpa using hl, h⟩⟩
include hg
theorem PG.by {tg : Expr} {t t' : TG} (h : PG X tg t) (i : ∀ v σ H Q, Sep g H → t' v σ H Q → t v σ H Q) : PG X tg t' := ⟨fun pins s σ H v u Q I r hq => h.run pins s σ H v u Q I r (i v σ H Q (sep_of hg I) hq)⟩
theorem dg_name {i : Nat} {tg : Expr} (h : PG X tg (gName i)) : DG X g tg (tgName i) [i] := by
  refine ⟨PG.by hg h fun v σ H Q s h => ?_⟩
  obtain ⟨e, Xx, ow, d, er, rp, h⟩ := h
  refine h _ ((er s).set i (rp s)) ⟨List.length_set, fun j hj sv q => ?_, fun j hj => ?_⟩
  · have z : j = i := by simpa using hj
    subst z
    rw [List.getElem?_set] at q
    split at q
    · split at q
      · cases q; rfl
      · cases q
    · rename_i z; exact absurd rfl z
  have n1 : i ≠ j := fun z => hj (by simp [z])
  exact ⟨List.getElem?_set_ne n1, List.getElem?_set_ne n1⟩
theorem dg_tup {is : List Nat} {es : List Expr} {k : Nat} {pos : Pos} (hc : X.calm = true) (h : PGs X es (gNames is)) (hn : (assignEach es X.env).length = is.length := by rfl) (hst : (assignEach es X.env).findIdx? (·.1) = none := by rfl) : DG X g (.Tuple es k pos) (tgTup is) is := by
  refine ⟨PG.by hg (pg_tup (n := is.length) hc h hn hst) fun v σ H Q s h => ?_⟩
  obtain ⟨e, Xx, ow, d, er, rp, h⟩ := h
  cases d with
  | tup ds =>
    dsimp only [tgTup] at h
    split at h
    · rename_i hl
      cases rp s with
      | tup nx h1 r1 =>
        refine ⟨_, _, rfl, by rw [← hg]; exact h1, by rw [r1.length]; exact hl, by rw [r1.length]; exact hl, ?_⟩
        exact h _ ((er s).setAll r1) (Chg.all _ _ _ _ _ r1.length hl)
    · exact False.elim h
  | _ => exact False.elim h
end

/-! ### what is walked -/
def Keeps (X0 : Px) (H0 H : Hp) : Prop := ∀ a o, H0 a = some o → ¬ X0 a → H a = some o
structure ItOk (g : Gc) (X0 : Px) (H0 : Hp) (J : It) (ds : List D) : Prop where
  len : ds.length ≤ sizeLine
  stop : ∀ i H, Keeps X0 H0 H → ds.length ≤ i → J.stop i H
  go : ∀ i H, Keeps X0 H0 H → i < ds.length → J.go i H
  yld : ∀ i H, Keeps X0 H0 H → i < ds.length → ∀ x H', J.yld i H x H' → Same H H' ∧ ∃ d, ds[i]? = some d ∧
    ∀ X : Px, (∀ a, Old g H0 a → X a → X0 a) → (∀ a, X a → H a ≠ none) → Rep g H' X x d
def rdI (g : Gc) (f : Ei) : TI := fun σ H R => ∃ (e : En) (X : Px) (ow : Nat → Addr), ER g H X ow σ e ∧
  (f e).all fun p => ∀ J H', Po g X ow σ e p.2 H H' → ItOk g X H' J p.1 → R J H'
structure DI (X : Cx) (g : Gc) (tg it : Expr) (f : Ei) : Prop where
  pi : PI X tg it (rdI g f)
def itemsD : D → Option (List D)
  | .lst ds => some ds
  | .tup ds => some ds
  | .scr ns => some (ns.map D.int)
  | _ => none
def iSeq (f : Ex) : Ei := fun e => (f e).bind fun p => match itemsD p.1 with
  | some ds => .ok (ds, p.2.2)
  | none => .bad
def rangeL (lo : Int) (n : Nat) : List D := (List.range n).map fun i => D.int (lo + (i : Nat))
theorem rangeL_len (lo : Int) (n : Nat) : (rangeL lo n).length = n := by simp [rangeL]
theorem rangeL_get (lo : Int) (n i : Nat) (h : i < n) : (rangeL lo n)[i]? = some (.int (lo + (i : Nat))) := by
  unfold rangeL
  rw [List.getElem?_map, List.getElem?_range h]
  rfl
/-- range(j), range(i, j): at most sizeLine turns -/
def iRange1 (a : Ea) : Ei := fun e => (a e).bind fun p => match p.1 with
  | [.int j] => if -(2 ^ 62) ≤ j ∧ j ≤ 16777216 then .ok (rangeL 0 j.toNat, p.2) else .bad
  | _ => .bad
def iRange2 (a : Ea) : Ei := fun e => (a e).bind fun p => match p.1 with
  | [.int i, .int j] => if (-(2 ^ 62) ≤ i ∧ i < 2 ^ 62 ∧ -(2 ^ 62) ≤ j ∧ j < 2 ^ 62) ∧ j - i ≤ 16777216 then .ok (rangeL i (j - i).toNat, p.2) else .bad
  | _ => .bad
def zipL : List D → List D → List D
  | a :: r, b :: s => .tup [a, b] :: zipL r s
  | _, _ => []
def enumL : Nat → List D → List D
  | i, a :: r => .tup [.int (i : Nat), a] :: enumL (i + 1) r
  | _, [] => []
/-- zip of two lists -/
def iZipD (a : Ea) : Ei := fun e => (a e).bind fun p => match p.1 with
  | [.lst xs, .lst ys] => .ok (zipL xs ys, p.2)
  | _ => .bad
def iEnumD (a : Ea) : Ei := fun e => (a e).bind fun p => match p.1 with
  | [.lst xs] => .ok (enumL 0 xs, p.2)
  | _ => .bad
theorem zipL_len : ∀ (a b : List D), (zipL a b).length = min a.length b.length
  | [], _ => by simp [zipL]
  | _ :: _, [] => by simp [zipL]
  | x :: r, y :: s => by
    show (zipL r s).length + 1 = _
    rw [zipL_len r s]
    simp only [List.length_cons]
    omega
theorem zipL_get : ∀ (a b : List D) (i : Nat) (x y : D), a[i]? = some x → b[i]? = some y → (zipL a b)[i]? = some (.tup [x, y])
  | [], _, _, _, _, h, _ => by simp at h
  | _ :: _, [], _, _, _, _, h => by simp at h
  | x :: r, y :: s, 0, _, _, h1, h2 => by
    simp at h1 h2
    subst h1 h2
    rfl
  | x :: r, y :: s, i + 1, _, _, h1, h2 => zipL_get r s i _ _ (by simpa using h1) (by simpa using h2)
theorem enumL_len : ∀ (k : Nat) (a : List D), (enumL k a).length = a.length
  | _, [] => rfl
  | k, x :: r => by
    show (enumL (k + 1) r).length + 1 = _
    rw [enumL_len]
    rfl
theorem enumL_get : ∀ (k : Nat) (a : List D) (i : Nat) (x : D), a[i]? = some x → (enumL k a)[i]? = some (.tup [.int ((k + i : Nat) : Int), x])
  | _, [], _, _, h => by simp at h
  | k, x :: r, 0, _, h1 => by
    simp at h1
    subst h1
    rfl
  | k, x :: r, i + 1, _, h1 => by
    have := enumL_get (k + 1) r i _ (by simpa using h1)
    rw [show k + (i + 1) = k + 1 + i by omega]
    exact this
section
variable {X : Cx} {g : Gc} (hg : g.K = X.K)
theorem PI.or {tg it : Expr} {a b : TI} (h1 : PI X tg it a) (h2 : PI X tg it b) : PI X tg it (fun σ H R => a σ H R ∨ b σ H R) := ⟨fun pins s σ H R I h => by
  rcases h with h | h
  · exact h1.run pins s σ H R I h
  · exact h2.run pins s σ H R I h⟩
include hg
/-- a sharper way: the facts of the heap -/
theorem itl_ok {X0 : Px} {H0 : Hp} {a : Addr} {vs : List V} {ds : List D} (s : Sep g H0) (nx : ¬ X0 a) (h : SqL g.K H0 a vs) (r : Reps g H0 X0 vs ds) : ItOk g X0 H0 (Itl X.K a) ds := by
  have hl := r.length
  have st : ∀ {H}, Keeps X0 H0 H → SqL X.K H a vs := fun t => by
    rw [← hg]
    exact seq_to (fun o e => t a o e nx) h
  refine ⟨by rw [← hl]; exact s.l a vs h, fun i H t hi => ⟨vs, st t, by omega⟩, fun i H t hi => ⟨vs, vs[i]'(by omega), st t, by simp⟩, fun i H t hi x H' y => ?_⟩
  obtain ⟨e, y⟩ := y
  subst e
  refine ⟨.refl _, ?_⟩
  obtain ⟨d, h1, h2⟩ := r.getV (y vs (st t))
  exact ⟨d, h1, fun X' tx tn => rep_to t tx h2⟩
theorem itt_ok {X0 : Px} {H0 : Hp} {a : Addr} {vs : List V} {ds : List D} (s : Sep g H0) (nx : ¬ X0 a) (h : SqT g.K H0 a vs) (r : Reps g H0 X0 vs ds) : ItOk g X0 H0 (Itt X.K a) ds := by
  have hl := r.length
  have st : ∀ {H}, Keeps X0 H0 H → SqT X.K H a vs := fun t => by
    rw [← hg]
    exact tup_to (fun o e => t a o e nx) h
  refine ⟨by rw [← hl]; exact s.t a vs h, fun i H t hi => ⟨vs, st t, by omega⟩, fun i H t hi => ⟨vs, vs[i]'(by omega), st t, by simp⟩, fun i H t hi x H' y => ?_⟩
  obtain ⟨e, y⟩ := y
  subst e
  refine ⟨.refl _, ?_⟩
  obtain ⟨d, h1, h2⟩ := r.getV (y vs (st t))
  exact ⟨d, h1, fun X' tx tn => rep_to t tx h2⟩
theorem PI.by {tg it : Expr} {t t' : TI} (h : PI X tg it t) (i : ∀ σ H R, t' σ H R → t σ H (fun J H' => R J H')) : PI X tg it t' := ⟨fun pins s σ H R I hq => h.run pins s σ H R I (i σ H R hq)⟩
theorem di_seq {tg e : Expr} {f : Ex} (h : DE X g e f) : DI X g tg e (iSeq f) := by
  refine ⟨PI.by hg (PI.or (pi_list (PE.by hg h.pe fun σ H Q hq => ?_) (tl := fun σ H Q => rd g f σ H fun v H' => Sep g H' → Q v H')) (pi_tup (PE.by hg h.pe fun σ H Q hq => ?_) (tl := fun σ H Q => rd g f σ H fun v H' => Sep g H' → Q v H'))) fun σ H R h => ?_⟩
  · exact hq
  · exact hq
  · obtain ⟨e, Xx, ow, er, h⟩ := h
    have h := Ro.all_bind.mp h
    -- a tuple or a list
    cases hf : f e with
    | ok p =>
      rw [hf] at h
      have h : (match itemsD p.1 with | some ds => Ro.ok (ds, p.2.2) | none => Ro.bad : Ro (List D × En)).all _ := h
      cases hd : p.1 with
      | lst ds =>
        rw [hd] at h
        refine .inl ⟨e, Xx, ow, er, ?_⟩
        rw [hf]
        intro v H1 po rv s
        have r := rv.1.1
        rw [hd] at r
        cases r with
        | lst nx h1 r1 => exact ⟨_, rfl, ⟨_, .of h1⟩, h _ H1 po (itl_ok hg s nx (.of h1) r1)⟩
      | scr ns =>
        rw [hd] at h
        refine .inl ⟨e, Xx, ow, er, ?_⟩
        rw [hf]
        intro v H1 po rv s
        have r := rv.1.1
        rw [hd] at r
        cases r with
        | scr nx h1 => exact ⟨_, rfl, ⟨_, by rw [← hg]; exact h1⟩, h _ H1 po (itl_ok hg s nx h1 reps_ints)⟩
      | tup ds =>
        rw [hd] at h
        refine .inr ⟨e, Xx, ow, er, ?_⟩
        rw [hf]
        intro v H1 po rv s
        have r := rv.1.1
        rw [hd] at r
        cases r with
        | tup nx h1 r1 => exact ⟨_, rfl, ⟨_, by rw [← hg]; exact h1⟩, h _ H1 po (itt_ok hg s nx h1 r1)⟩
      | _ =>
        rw [hd] at h
        exact False.elim h
    | exc c z => rw [hf] at h; exact False.elim h
    | bad => rw [hf] at h; exact False.elim h
omit hg in
theorem itr_ok {X0 : Px} {H0 : Hp} {lo : Int} {n : Nat} (h : n ≤ 16777216) : ItOk g X0 H0 (Itr lo n) (rangeL lo n) := by
  refine ⟨by rw [rangeL_len, sizeLine_eq]; omega, fun i H t hi => ?_, fun i H t hi => ?_, fun i H t hi x H' y => ?_⟩
  · rw [rangeL_len] at hi
    exact hi
  · rw [rangeL_len] at hi
    exact hi
  · rw [rangeL_len] at hi
    obtain ⟨e, y⟩ := y
    subst e y
    exact ⟨.refl _, _, rangeL_get lo n i hi, fun _ _ _ => .int _⟩
theorem di_range1 {tg a : Expr} {fa : Ea} {p pos : Pos} (hm : X.mg "range" = none) (ha : DA X g [a] fa) (hgl : Gl X "range" := by rfl) (hs : starEach [a] X.env = [(false, eval a X.env)] := by rfl) : DI X g tg (.Call (.Name "range" p) [a] [] pos) (iRange1 fa) := by
  refine ⟨PI.by hg (pi_range1 hgl hm ha.pa hs) fun σ H R h => ?_⟩
  obtain ⟨e, Xx, ow, er, h⟩ := h
  refine ⟨e, Xx, ow, er, (Ro.all_bind.mp h).mono fun q h => ?_⟩
  intro vs H1 po rv
  split at h
  · rename_i j hj
    rw [hj] at rv
    split at h
    · rename_i hl
      cases rv with
      | cons a b =>
        cases a
        cases b
        exact ⟨j, rfl, hl.1, by omega, h _ H1 po (itr_ok (by omega))⟩
    · exact False.elim h
  · exact False.elim h
theorem di_range2 {tg a b : Expr} {fa : Ea} {p pos : Pos} (hm : X.mg "range" = none) (ha : DA X g [a, b] fa) (hgl : Gl X "range" := by rfl) (hs : starEach [a, b] X.env = [(false, eval a X.env), (false, eval b X.env)] := by rfl) (hs2 : starEach [b] X.env = [(false, eval b X.env)] := by rfl) : DI X g tg (.Call (.Name "range" p) [a, b] [] pos) (iRange2 fa) := by
  refine ⟨PI.by hg (pi_range2 hgl hm ha.pa hs hs2) fun σ H R h => ?_⟩
  obtain ⟨e, Xx, ow, er, h⟩ := h
  refine ⟨e, Xx, ow, er, (Ro.all_bind.mp h).mono fun q h => ?_⟩
  intro vs H1 po rv
  split at h
  · rename_i i j hj
    rw [hj] at rv
    split at h
    · rename_i hl
      cases rv with
      | cons a b =>
        cases a
        cases b with
        | cons a b =>
          cases a
          cases b
          exact ⟨i, j, rfl, hl.1, h _ H1 po (itr_ok (by omega))⟩
    · exact False.elim h
  · exact False.elim h
theorem itz_ok {X0 : Px} {H0 : Hp} {a b : Addr} {vs ws : List V} {ds es : List D} (s : Sep g H0) (nx : ¬ X0 a) (ny : ¬ X0 b) (h : H0 a = some (.lst vs)) (h' : H0 b = some (.lst ws)) (r : Reps g H0 X0 vs ds) (r' : Reps g H0 X0 ws es) : ItOk g X0 H0 (Itz X.K a b) (zipL ds es) := by
  have hl := r.length
  have hl' := r'.length
  have st : ∀ {H}, Keeps X0 H0 H → SqL X.K H a vs := fun t => .of (t a _ h nx)
  have st' : ∀ {H}, Keeps X0 H0 H → SqL X.K H b ws := fun t => .of (t b _ h' ny)
  refine ⟨?_, fun i H t hi => ⟨vs, ws, st t, st' t, ?_⟩, fun i H t hi => ?_, fun i H t hi x H' y => ?_⟩
  · rw [zipL_len]
    have := s.l a vs (.of h)
    omega
  · rw [zipL_len] at hi
    omega
  · rw [zipL_len] at hi
    exact ⟨vs, ws, vs[i]'(by omega), ws[i]'(by omega), st t, st' t, by simp, by simp⟩
  · obtain ⟨T, v, w, rfl, n, e, y1, y2⟩ := y
    subst e
    obtain ⟨d1, h1, h2⟩ := r.getV (y1 vs (st t))
    obtain ⟨d2, h3, h4⟩ := r'.getV (y2 ws (st' t))
    have k := same_upd hg (o := .tup [v, w]) n
    refine ⟨k, _, zipL_get _ _ i _ _ h1 h3, fun X' tx tn => .tup (fun z => tn _ z n) (.of upd_same) ?_⟩
    exact .cons ((rep_to t tx h2).same k) (.cons ((rep_to t tx h4).same k) .nil)
theorem di_zip {es : List Expr} {k : Nat} {tpos : Pos} {a b : Expr} {fa : Ea} {p pos : Pos} (hm : X.mg "zip" = none) (ha : DA X g [a, b] fa) (hgl : Gl X "zip" := by rfl)
    (hs : starEach [a, b] X.env = (false, eval a X.env) :: starEach [b] X.env := by rfl) (hpl : (backTo pos (starEach [b] X.env)).any (·.1) = false := by rfl) : DI X g (.Tuple es k tpos) (.Call (.Name "zip" p) [a, b] [] pos) (iZipD fa) := by
  refine ⟨PI.by hg (pi_zip hgl hm (PA.by hg ha.pa fun σ H Q hq => ?_) (ta := fun σ H Q => rdA g fa σ H fun v H' => Sep g H' → Q v H') hs hpl) fun σ H R h => ?_⟩
  · exact hq
  · obtain ⟨e, Xx, ow, er, h⟩ := h
    refine ⟨e, Xx, ow, er, (Ro.all_bind.mp h).mono fun q h => ?_⟩
    intro vs H1 po rv s
    split at h
    · rename_i xs ys hj
      rw [hj] at rv
      cases rv with
      | cons a b =>
        cases b with
        | cons b c =>
          cases c
          cases a with
          | lst n1 h1 r1 =>
            cases b with
            | lst n2 h2 r2 => exact ⟨_, _, _, _, rfl, .of h1, .of h2, h _ H1 po (itz_ok hg s n1 n2 h1 h2 r1 r2)⟩
    · exact False.elim h
theorem ite_ok {X0 : Px} {H0 : Hp} {a : Addr} {vs : List V} {ds : List D} (s : Sep g H0) (nx : ¬ X0 a) (h : H0 a = some (.lst vs)) (r : Reps g H0 X0 vs ds) : ItOk g X0 H0 (Ite X.K a) (enumL 0 ds) := by
  have hl := r.length
  have st : ∀ {H}, Keeps X0 H0 H → SqL X.K H a vs := fun t => .of (t a _ h nx)
  refine ⟨?_, fun i H t hi => ⟨vs, st t, ?_⟩, fun i H t hi => ?_, fun i H t hi x H' y => ?_⟩
  · rw [enumL_len]
    have := s.l a vs (.of h)
    omega
  · rw [enumL_len] at hi
    omega
  · rw [enumL_len] at hi
    exact ⟨vs, vs[i]'(by omega), st t, by simp⟩
  · obtain ⟨T, v, rfl, n, e, y1⟩ := y
    subst e
    obtain ⟨d1, h1, h2⟩ := r.getV (y1 vs (st t))
    have k := same_upd hg (o := .tup [.int (i : Nat), v]) n
    have e0 : ((0 + i : Nat) : Int) = (i : Nat) := by rw [Nat.zero_add]
    refine ⟨k, _, enumL_get 0 _ i _ h1, fun X' tx tn => .tup (fun z => tn _ z n) (.of upd_same) ?_⟩
    rw [e0]
    exact .cons (.int _) (.cons ((rep_to t tx h2).same k) .nil)
theorem di_enum {es : List Expr} {k : Nat} {tpos : Pos} {a : Expr} {fa : Ea} {p pos : Pos} (hm : X.mg "enumerate" = none) (ha : DA X g [a] fa) (hgl : Gl X "enumerate" := by rfl)
    (hs : starEach [a] X.env = [(false, eval a X.env)] := by rfl) : DI X g (.Tuple es k tpos) (.Call (.Name "enumerate" p) [a] [] pos) (iEnumD fa) := by
  refine ⟨PI.by hg (pi_enum hgl hm (PA.by hg ha.pa fun σ H Q hq => ?_) (ta := fun σ H Q => rdA g fa σ H fun v H' => Sep g H' → Q v H') hs) fun σ H R h => ?_⟩
  · exact hq
  · obtain ⟨e, Xx, ow, er, h⟩ := h
    refine ⟨e, Xx, ow, er, (Ro.all_bind.mp h).mono fun q h => ?_⟩
    intro vs H1 po rv s
    split at h
    · rename_i xs hj
      rw [hj] at rv
      cases rv with
      | cons a b =>
        cases b
        cases a with
        | lst n1 h1 r1 => exact ⟨_, _, rfl, .of h1, h _ H1 po (ite_ok hg s n1 h1 r1)⟩
    · exact False.elim h
end

/-! ### comprehensions -/
def wipeE (e : En) : List Nat → En
  | [] => e
  | v :: vs => (wipeE e vs).set v none
/-- the slots vs as in e0, the others as in e1 -/
def backE (e0 e1 : En) : List Nat → En
  | [] => e1
  | v :: vs => (backE e0 e1 vs).set v ((e0[v]?).join)
def compLoop (T : Tg) (c : Et) (el : Ex) (vs : List Nat) : List D → List D → En → Ro (List D × En)
  | [], acc, e => .ok (acc, e)
  | d :: ds, acc, e => (T d e).bind fun e1 => (c e1).bind fun p =>
      if p.1 = true then (el p.2).bind fun q => compLoop T c el vs ds (acc ++ [q.1]) (wipeE q.2.2 vs) else compLoop T c el vs ds acc (wipeE p.2 vs)
def eComp (it : Ei) (T : Tg) (c : Et) (el : Ex) (vs : List Nat) : Ex := fun e => (it e).bind fun p =>
  (compLoop T c el vs p.1 [] (wipeE p.2 vs)).bind fun q => .ok (.lst q.1, true, backE p.2 q.2 vs)
def tTrue : Et := fun e => .ok (true, e)

theorem wipeE_len (e : En) : ∀ vs, (wipeE e vs).length = e.length
  | [] => rfl
  | v :: vs => by unfold wipeE; rw [List.length_set, wipeE_len e vs]
theorem wipeE_out (e : En) {i : Nat} : ∀ {vs : List Nat}, i ∉ vs → (wipeE e vs)[i]? = e[i]?
  | [], _ => rfl
  | v :: vs, h => by
    unfold wipeE
    rw [List.getElem?_set_ne fun z => h (by rw [z]; exact List.mem_cons_self)]
    exact wipeE_out e fun z => h (List.mem_cons_of_mem _ z)
theorem wipeE_in (e : En) {i : Nat} {sv : SV} : ∀ {vs : List Nat}, (wipeE e vs)[i]? = some (some sv) → i ∉ vs
  | [], _ => by simp
  | v :: vs, h => by
    unfold wipeE at h
    by_cases hv : v = i
    · subst hv
      rw [List.getElem?_set] at h
      split at h
      · split at h <;> cases h
      · rename_i z; exact absurd rfl z
    · rw [List.getElem?_set_ne hv] at h
      intro z
      rcases List.mem_cons.mp z with z | z
      · exact hv z.symm
      · exact wipeE_in e h z
theorem backE_len (e0 e1 : En) : ∀ vs, (backE e0 e1 vs).length = e1.length
  | [] => rfl
  | v :: vs => by unfold backE; rw [List.length_set, backE_len e0 e1 vs]
theorem backE_out (e0 e1 : En) {i : Nat} : ∀ {vs : List Nat}, i ∉ vs → (backE e0 e1 vs)[i]? = e1[i]?
  | [], _ => rfl
  | v :: vs, h => by
    unfold backE
    rw [List.getElem?_set_ne fun z => h (by rw [z]; exact List.mem_cons_self)]
    exact backE_out e0 e1 fun z => h (List.mem_cons_of_mem _ z)
theorem backE_in (e0 e1 : En) (hl : e0.length = e1.length) {i : Nat} : ∀ {vs : List Nat}, i ∈ vs → (backE e0 e1 vs)[i]? = e0[i]?
  | v :: vs, h => by
    unfold backE
    by_cases hv : v = i
    · subst hv
      by_cases hb : v < e1.length
      · rw [List.getElem?_set_self (by rw [backE_len]; exact hb)]
        rw [List.getElem?_eq_getElem (by omega)]
        rfl
      · rw [List.getElem?_eq_none (by rw [List.length_set, backE_len]; omega), List.getElem?_eq_none (by omega)]
    · rw [List.getElem?_set_ne hv]
      rcases List.mem_cons.mp h with z | z
      · exact absurd z.symm hv
      · exact backE_in e0 e1 hl z

theorem wipe_len' (σ : St) (vs : List Nat) : (wipe σ vs).length = σ.length := wipe_length σ vs
theorem wipe_out' {σ : St} {i : Nat} : ∀ {vs : List Nat}, i ∉ vs → (wipe σ vs)[i]? = σ[i]?
  | [], _ => rfl
  | v :: vs, h => by
    unfold wipe
    rw [List.getElem?_set_ne fun z => h (by rw [z]; exact List.mem_cons_self)]
    exact wipe_out' fun z => h (List.mem_cons_of_mem _ z)
theorem wipe_in' {σ : St} {i : Nat} : ∀ {vs : List Nat}, i ∈ vs → i < σ.length → (wipe σ vs)[i]? = some none
  | v :: vs, h, hl => by
    unfold wipe
    by_cases hv : v = i
    · subst hv
      rw [List.getElem?_set_self (by rw [wipe_length]; exact hl)]
    · rw [List.getElem?_set_ne hv]
      rcases List.mem_cons.mp h with z | z
      · exact absurd z.symm hv
      · exact wipe_in' z hl
theorem wipe_eq {σ σ2 : St} {vs : List Nat} (hl : σ2.length = σ.length) (h : ∀ i, i ∉ vs → σ2[i]? = σ[i]?) : wipe σ2 vs = wipe σ vs := by
  apply List.ext_getElem?
  intro i
  by_cases hi : i ∈ vs
  · by_cases hb : i < σ.length
    · rw [wipe_in' hi hb, wipe_in' hi (by omega)]
    · rw [List.getElem?_eq_none (by rw [wipe_length]; omega), List.getElem?_eq_none (by rw [wipe_length]; omega)]
  · rw [wipe_out' hi, wipe_out' hi]
    exact h i hi
section
variable {g : Gc} {H : Hp} {X : Px} {ow : Nat → Addr} {σ : St} {e : En}
theorem ER.wipe (h : ER g H X ow σ e) (vs : List Nat) : ER g H X ow (L2.wipe σ vs) (wipeE e vs) := by
  refine ⟨by rw [wipeE_len, wipe_length]; exact h.len, h.xs, h.sep, fun i sv q => ?_, fun i j s t q1 q2 m1 m2 => ?_⟩
  · have hi := wipeE_in e q
    rw [wipeE_out e hi] at q
    obtain ⟨v, h1, h2⟩ := h.sl i sv q
    exact ⟨v, by rw [wipe_out' hi]; exact h1, h2⟩
  · have hi := wipeE_in e q1
    have hj := wipeE_in e q2
    rw [wipeE_out e hi] at q1
    rw [wipeE_out e hj] at q2
    exact h.ap i j s t q1 q2 m1 m2
/-- a tracked list of ours gets other items -/
theorem Sep.put {D : Addr} {o : HO} {vs : List V} (s : Sep g H) (h : H D = some o) (hl : vs.length ≤ sizeLine) : Sep g (upd H D (.lst vs)) := by
  have kD : g.K.lookup D = none := s.k D (by rw [h]; simp)
  refine ⟨fun a n => ?_, fun a ws q => ?_, fun a ws q => ?_⟩
  · by_cases ha : a = D
    · rw [ha]; exact kD
    · rw [upd_ne ha] at n
      exact s.k a n
  · by_cases ha : a = D
    · subst ha
      rcases q with (q | ⟨ob, q⟩) | ⟨ob, _, _, q, _⟩
      · rw [upd_same] at q; cases q; exact hl
      · rw [upd_same] at q; cases q
      · rw [kD] at q; cases q
    · exact s.l a ws (seq_to (fun o e => by rw [upd_ne ha] at e; exact e) q)
  · by_cases ha : a = D
    · subst ha
      rcases q with (q | ⟨ob, q⟩) | ⟨ob, _, _, q, _⟩
      · rw [upd_same] at q; cases q
      · rw [upd_same] at q; cases q
      · rw [kD] at q; cases q
    · exact s.t a ws (tup_to (fun o e => by rw [upd_ne ha] at e; exact e) q)
end
structure DTs (X : Cx) (g : Gc) (ifs : List Expr) (c : Et) : Prop where
  pts : PTs X ifs (rdT g c)
section
variable {X : Cx} {g : Gc} (hg : g.K = X.K)
theorem dts_nil : DTs X g [] tTrue := ⟨⟨fun pins s σ H Q I h => by
  obtain ⟨e, Xx, ow, er, h⟩ := h
  exact pts_nil.run pins s σ H Q I (h H (.refl er))⟩⟩
theorem dts_one {c : Expr} {f : Et} (h : DT X g c f) : DTs X g [c] f := ⟨pts_one h.pt⟩
include hg
theorem lc_way {vs : List Nat} {ss : List Nat} {T : Tg} {c : Et} {el : Ex} {it : Ei} (hss : ∀ i ∈ ss, i ∈ vs) (σ : St) (H : Hp) (Q : VK) (h : rd g (eComp it T c el vs) σ H Q) :
    tLc (rdI g it) (rdG g T ss) (rdT g c) (rd g el) vs σ H (fun v H' => Sep g H' → Q v H') := by
  obtain ⟨e, Xx, ow, er, h⟩ := h
  refine ⟨e, Xx, ow, er, (Ro.all_bind.mp h).mono fun p h => ?_⟩
  obtain ⟨ds, e1⟩ := p
  intro J H1 po iok L nD
  have er1 := po.er
  have h : (compLoop T c el vs ds [] (wipeE e1 vs)).all fun q => ∀ v H', Po g Xx ow σ e (backE e1 q.2 vs) H H' → RVx g H H' Xx ow σ (backE e1 q.2 vs) v (.lst q.1) true → Q v H' := Ro.all_bind.mp h
  have noD : ∀ (i : Nat) sv, e1[i]? = some (some sv) → sv.mut = true → L ≠ ow i := fun i sv q m z => er1.xs _ (er1.ownX q m) (by rw [← z]; exact nD)
  have nXD : ¬ Xx L := fun z => er1.xs L z nD
  -- the invariant
  let Pv : Nat → Hp → Prop := fun i H' => ∃ (ws : List V) (acc : List D) (ei : En), H' L = some (.lst ws) ∧ ws.length ≤ i ∧ Kp ow (wipeE e1 vs) H1 H' ∧ Kind (wipeE e1 vs) ei ∧
    ((compLoop T c el vs (ds.drop i) acc ei).all fun q => ∀ v H', Po g Xx ow σ e (backE e1 q.2 vs) H H' → RVx g H H' Xx ow σ (backE e1 q.2 vs) v (.lst q.1) true → Q v H') ∧
    (Sep g H' → Reps g H' (fun b => Xx b ∨ b = L) ws acc ∧ ER g H' (fun b => Xx b ∨ b = L) ow (L2.wipe σ vs) ei)
  have keeps : ∀ {i : Nat} {H' : Hp}, Pv i H' → Keeps Xx H1 H' := fun {i H'} ⟨_, _, _, _, _, kp, _⟩ a o q nx => kp a o q fun j sv q2 m z => nx (by
    have hj := wipeE_in e1 q2
    rw [wipeE_out e1 hj] at q2
    rw [z]
    exact er1.ownX q2 m)
  refine ⟨fun i m H' => m = ds.length - i ∧ i ≤ ds.length ∧ Pv i H', ⟨ds.length, by simp, Nat.zero_le _, [], [], wipeE e1 vs, upd_same, Nat.le_refl _, .of (same_upd hg nD), .refl _, h, fun s => ⟨.nil, ?_⟩⟩, ?_⟩
  · exact (er1.new (same_upd hg nD) s nD (by rw [upd_same]; simp)).wipe vs
  rintro i m H' ⟨rfl, hi, P⟩
  have ks := keeps P
  obtain ⟨ws, acc, ei, hD, hw, kp, kd, hc, hs⟩ := P
  by_cases hlt : i < ds.length
  · refine .inr ⟨iok.go i H' ks hlt, fun H'' => Pv (i + 1) H'', fun H'' P' => ⟨ds.length - (i + 1), by omega, rfl, hlt, P'⟩, fun x H2 y => ?_⟩
    obtain ⟨sm, d, hd, hr⟩ := iok.yld i H' ks hlt x H2 y
    have hdr : ds.drop i = d :: ds.drop (i + 1) := by
      have h1 := List.getElem?_eq_some_iff.mp hd
      obtain ⟨h1, h2⟩ := h1
      rw [List.drop_eq_getElem_cons h1, h2]
    rw [hdr] at hc
    have hc : ((T d ei).bind fun e1' => (c e1').bind fun p => if p.1 = true then (el p.2).bind fun q => compLoop T c el vs (ds.drop (i + 1)) (acc ++ [q.1]) (wipeE q.2.2 vs) else compLoop T c el vs (ds.drop (i + 1)) acc (wipeE p.2 vs)).all _ := hc
    have back : Sep g H2 → Sep g H' := fun s => by
      refine ⟨fun a n => s.k a fun z => ?_, fun a us q => s.l a us (seq_to (fun o e => sm a o e) q), fun a us q => s.t a us (tup_to (fun o e => sm a o e) q)⟩
      cases q : H' a with
      | none => exact n q
      | some o => rw [sm a o q] at z; cases z
    have kD : Sep g H2 → ¬ Old g H1 L := fun s z => by
      rcases z with z | z
      · exact z nD
      · exact z (s.k L (by rw [sm L _ hD]; simp))
    refine ⟨ei, fun b => Xx b ∨ b = L, ow, d, fun s => ((hs (back s)).2).same sm s, fun s => hr _ (fun a ho z => z.elim (fun z => z) fun z => ?_) (fun a z => (hs (back s)).2.xs a z), (Ro.all_bind.mp hc).mono fun e2 hc => ?_⟩
    · subst z
      exact absurd ho (kD s)
    intro σ2 er2 cg
    have kl := er2.len
    have wz : L2.wipe σ2 vs = L2.wipe σ vs := wipe_eq (by rw [cg.l, wipe_length]) (fun j hj => by rw [(cg.o j fun z => hj (hss j z)).1, wipe_out' hj])
    refine ⟨wz, e2, _, ow, er2, (Ro.all_bind.mp hc).mono fun p hc => ?_⟩
    intro H3 po3
    have l2 : e2.length = e1.length := by rw [kl, cg.l, wipe_length, ← er1.len]
    have l3 : ei.length = e1.length := by rw [← kd.l, wipeE_len]
    -- what the turn's steps leave
    have kstep : ∀ {ex : En} {Ha Hb : Hp}, Kind e2 ex → Kp ow (wipeE e1 vs) H1 Ha → Kp ow e2 Ha Hb → Kp ow (wipeE e1 vs) H1 Hb := fun {ex Ha Hb} _ ka kb b o q n => by
      refine kb b o (ka b o q n) fun j sv q2 m => ?_
      by_cases hj : j ∈ ss
      · rw [cg.v j hj sv q2] at m; cases m
      · rw [(cg.o j hj).2] at q2
        obtain ⟨s0, h0, m0, _⟩ := kd.b j sv q2
        exact n j s0 h0 (m0.trans m)
    have kD2 : ∀ {Ha Hb : Hp} {ws : List V}, Kp ow e2 Ha Hb → Ha L = some (.lst ws) → Hb L = some (.lst ws) := fun {Ha Hb ws} kb q => kb L _ q fun j sv q2 m z => by
      by_cases hj : j ∈ ss
      · rw [cg.v j hj sv q2] at m; cases m
      · rw [(cg.o j hj).2] at q2
        obtain ⟨s0, h0, m0, _⟩ := kd.b j sv q2
        have hj2 := wipeE_in e1 h0
        rw [wipeE_out e1 hj2] at h0
        exact noD j s0 h0 (m0.trans m) z
    have kpa : Kp ow (wipeE e1 vs) H1 H2 := fun b o q n => sm b o (kp b o q n)
    have kw : ∀ {ex : En}, Kind e2 ex → Kind (wipeE e1 vs) (wipeE ex vs) := fun {ex} k => by
      refine ⟨by rw [wipeE_len, wipeE_len, ← k.l, l2], fun j sv q => ?_, fun j sv q => ?_⟩
      · have hj := wipeE_in ex q
        rw [wipeE_out ex hj] at q
        obtain ⟨s1, h1, m1, z1⟩ := k.b j sv q
        rw [(cg.o j fun z => hj (hss j z)).2] at h1
        obtain ⟨s0, h0, m0, z0⟩ := kd.b j s1 h1
        exact ⟨s0, h0, m0.trans m1, fun z => by rw [z0 (m1.trans z), z1 z]⟩
      · have hj := wipeE_in e1 q
        obtain ⟨s1, h1⟩ := kd.f j sv q
        have h1' : e2[j]? = some (some s1) := by rw [(cg.o j fun z => hj (hss j z)).2]; exact h1
        obtain ⟨s2, h2⟩ := k.f j s1 h1'
        exact ⟨s2, by rw [wipeE_out ex hj]; exact h2⟩
    have s2 : Sep g H2 := er2.sep
    cases hb : p.1 with
    | false =>
      rw [if_neg Bool.false_ne_true]
      rw [hb, if_neg Bool.false_ne_true] at hc
      refine ⟨ws, acc, wipeE p.2 vs, kD2 po3.kp (sm L _ hD), Nat.le_succ_of_le hw, kstep po3.kd kpa po3.kp, kw po3.kd, hc, fun s => ⟨?_, ?_⟩⟩
      · exact Kp.reps er2 po3.kp ((hs (back s2)).1.same sm)
      · rw [← wz]; exact po3.er.wipe vs
    | true =>
      rw [if_pos rfl]
      rw [hb, if_pos rfl] at hc
      refine ⟨p.2, _, ow, po3.er, (Ro.all_bind.mp hc).mono fun q hc => ?_⟩
      intro y' H4 po4 rv
      have po24 := po3.trans po4
      have hD4 := kD2 po24.kp (sm L _ hD)
      have hz : ws.length < sizeLine := Nat.lt_of_lt_of_le (Nat.lt_of_le_of_lt hw hlt) iok.len
      refine ⟨ws, hD4, hz, ws ++ [y'], acc ++ [q.1], wipeE q.2.2 vs, upd_same, by simpa using hw, ?_, kw po24.kd, hc, fun s => ⟨?_, ?_⟩⟩
      · have k4 := kstep po24.kd kpa po24.kp
        exact fun b o q n => by
          rw [upd_ne (ne_of_none q nD)]
          exact k4 b o q n
      · have ra : Reps g H4 (fun b => Xx b ∨ b = L) ws acc := Kp.reps er2 po24.kp ((hs (back s2)).1.same sm)
        have rb := ra.append (.cons rv.1.1 .nil)
        exact reps_to (fun a o q nx => by rw [upd_ne fun z => nx (.inr z)]; exact q) (fun _ _ z => z) rb
      · rw [← wz]
        have e4 := po4.er.wipe vs
        refine ⟨e4.len, fun a x z => ?_, s, fun j sv q => ?_, e4.ap⟩
        · by_cases ha : a = L
          · rw [ha, upd_same] at z; cases z
          · rw [upd_ne ha] at z
            exact e4.xs a x z
        · obtain ⟨v, h1, h2⟩ := e4.sl j sv q
          have hj := wipeE_in _ q
          rw [wipeE_out _ hj] at q
          refine ⟨v, h1, h2.to (fun a o q nx => by rw [upd_ne fun z => nx (.inr z)]; exact q) (fun m o q2 => ?_) (fun _ _ z => z) fun m => h2.x m⟩
          rw [upd_ne]
          · exact q2
          · intro z
            obtain ⟨s1, h1, m1, _⟩ := po24.kd.b j sv q
            rw [(cg.o j fun z => hj (hss j z)).2] at h1
            obtain ⟨s0, h0, m0, _⟩ := kd.b j s1 h1
            have hj2 := wipeE_in e1 h0
            rw [wipeE_out e1 hj2] at h0
            exact noD j s0 h0 (m0.trans (m1.trans m)) z.symm
  · have ei' : i = ds.length := by omega
    subst ei'
    refine .inl ⟨iok.stop _ H' ks (Nat.le_refl _), fun s => ?_⟩
    rw [List.drop_length] at hc
    obtain ⟨ra, el⟩ := hs s
    have l3 : ei.length = e1.length := by rw [← kd.l, wipeE_len]
    have kfin : Kind e1 (backE e1 ei vs) := ⟨by rw [backE_len, l3], fun j sv q => by
      by_cases hj : j ∈ vs
      · rw [backE_in e1 ei l3.symm hj] at q
        exact ⟨sv, q, rfl, fun _ => rfl⟩
      · rw [backE_out e1 ei hj] at q
        obtain ⟨s0, h0, r⟩ := kd.b j sv q
        rw [wipeE_out e1 hj] at h0
        exact ⟨s0, h0, r⟩, fun j sv q => by
      by_cases hj : j ∈ vs
      · exact ⟨sv, by rw [backE_in e1 ei l3.symm hj]; exact q⟩
      · rw [backE_out e1 ei hj]
        exact kd.f j sv (by rw [wipeE_out e1 hj]; exact q)⟩
    have kpf : Kp ow e1 H1 H' := fun b o q n => kp b o q fun j sv q2 m => by
      have hj := wipeE_in e1 q2
      rw [wipeE_out e1 hj] at q2
      exact n j sv q2 m
    have erf : ∀ Y : Px, (∀ a, Xx a → Y a) → (∀ a, Y a → Xx a ∨ a = L) → ER g H' Y ow σ (backE e1 ei vs) := fun Y y1 y2 => by
      refine ⟨by rw [backE_len, l3]; exact er1.len, fun a x => el.xs a (y2 a x), s, fun j sv q => ?_, fun j k sj sk q1 q2 m1 m2 => ?_⟩
      · by_cases hj : j ∈ vs
        · rw [backE_in e1 ei l3.symm hj] at q
          obtain ⟨v, h1, h2⟩ := er1.sl j sv q
          refine ⟨v, h1, h2.to (Kp.out er1 kpf) (fun m o q2 => ?_) (fun a ho z => (y2 a z).elim (fun z => z) fun z => ?_) fun m => y1 _ (h2.x m)⟩
          · refine kp _ o q2 fun j' sv' q' m' z => ?_
            have hj' := wipeE_in e1 q'
            rw [wipeE_out e1 hj'] at q'
            exact hj' (by rw [← er1.ap j j' sv sv' q q' m m' z]; exact hj)
          · subst z
            rcases ho with z | z
            · exact absurd nD z
            · exact absurd (s.k a (by rw [hD]; simp)) z
        · rw [backE_out e1 ei hj] at q
          obtain ⟨v, h1, h2⟩ := el.sl j sv q
          rw [wipe_out' hj] at h1
          refine ⟨v, h1, h2.to (fun a o q _ => q) (fun m o q => q) (fun a _ z => y2 a z) fun m => ?_⟩
          obtain ⟨s0, h0, m0, _⟩ := kd.b j sv q
          rw [wipeE_out e1 hj] at h0
          exact y1 _ (er1.ownX h0 (m0.trans m))
      · obtain ⟨s0, h0, m0, _⟩ := kfin.b j sj q1
        obtain ⟨t0, h0', m0', _⟩ := kfin.b k sk q2
        exact er1.ap j k s0 t0 h0 h0' (m0.trans m1) (m0'.trans m2)
    have pf : Po g Xx ow σ e1 (backE e1 ei vs) H1 H' := ⟨erf Xx (fun _ z => z) fun _ z => .inl z, kfin, kpf⟩
    refine hc (.ref L) H' (po.trans pf) ⟨⟨.lst nXD hD (reps_to (fun _ _ q _ => q) (fun _ _ z => .inl z) ra), fun _ => ⟨L, ws, acc, rfl, rfl, ?_, hD, ra⟩⟩, fun _ a ea => ?_⟩
    · exact Kp.free er er1 po.kp nD
    · cases ea
      exact erf _ (fun _ z => .inl z) fun _ z => z
/-- [el for tg in it if ..] -/
theorem de_lc {elt tg iter : Expr} {ifs : List Expr} {scope : Scope} {own : List (Str × Nat)} {pos : Pos} {it : Ei} {T : Tg} {ss : List Nat} {c : Et} {el : Ex} (hc : X.calm = true) (hN : X.N.Nodup) (hi : DI X g tg iter it) (ok : BlkOk X.N X.env.scope scope own)
    (ht : ∀ (s : Shared) (H : Hp) (C : Addr) (cl : List (Str × Addr)) (fp : List Addr), DG (X.blk s H scope (compEnvC scope cl C X.env) fp) g tg T ss)
    (hf : ∀ (s : Shared) (H : Hp) (C : Addr) (cl : List (Str × Addr)) (fp : List Addr), DTs (X.blk s H scope (compEnvC scope cl C X.env) fp) g ifs c)
    (he : ∀ (s : Shared) (H : Hp) (C : Addr) (cl : List (Str × Addr)) (fp : List Addr), DE (X.blk s H scope (compEnvC scope cl C X.env) fp) g elt el)
    (hss : ∀ i ∈ ss, i ∈ own.map (·.2) := by decide) (hs : ∀ x, foldedSetIterable iter X.env x = pure x := by intro _; rfl) : DE X g (.ListComp elt [⟨tg, iter, ifs, 0⟩] scope pos) (eComp it T c el (own.map (·.2))) :=
  ⟨PE.by hg (pe_lc hc hN hi.pi ok (fun s H C cl fp => (ht s H C cl fp).pg) (fun s H C cl fp => (hf s H C cl fp).pts) (fun s H C cl fp => (he s H C cl fp).pe) hs) (lc_way hg hss)⟩
end
end G

/-! Statements. -/
namespace G
open PySem PySem.Spec PyProof.Rows L2
inductive So where
  | nx (e : En) | ret (d : D) (fr : Bool) (e : En) | brk (e : En) | cnt (e : En) | exc (c : Nat) (e : En) | bad
abbrev Sm := En → So
/-- from a state to a later one of the same frame; as: the slots that may have been stored to -/
structure Trn (g : Gc) (as : List Nat) (H : Hp) (X : Px) (ow : Nat → Addr) (e : En) (H' : Hp) (X' : Px) (ow' : Nat → Addr) (e' : En) : Prop where
  kp : Kp ow e H H'
  al : ∀ a, H a ≠ none → H' a ≠ none
  x1 : ∀ a, X a → X' a ∨ ∃ (i : Nat) (sv : SV), e[i]? = some (some sv) ∧ sv.mut = true ∧ a = ow i ∧ i ∈ as
  x2 : ∀ a, Old g H a → X' a → X a
  o1 : ∀ (i : Nat) sv, e'[i]? = some (some sv) → sv.mut = true → (∃ s0, e[i]? = some (some s0) ∧ s0.mut = true ∧ ow' i = ow i) ∨ H (ow' i) = none
  st : ∀ i, i ∉ as → (∀ sv, e'[i]? = some (some sv) → ∃ s0, e[i]? = some (some s0) ∧ s0.mut = sv.mut) ∧ (∀ sv, e[i]? = some (some sv) → sv.mut = true → ow' i = ow i ∧ ∃ s1, e'[i]? = some (some s1) ∧ s1.mut = true)
section
variable {g : Gc} {as bs : List Nat} {H H1 H2 : Hp} {X X1 X2 : Px} {ow ow1 ow2 : Nat → Addr} {e e1 e2 : En} {σ σ1 : St}
theorem Trn.mono (h : Trn g as H X ow e H1 X1 ow1 e1) (m : ∀ i ∈ as, i ∈ bs) : Trn g bs H X ow e H1 X1 ow1 e1 :=
  ⟨h.kp, h.al, fun a x => (h.x1 a x).imp id fun ⟨i, sv, q, mm, ea, hi⟩ => ⟨i, sv, q, mm, ea, m i hi⟩, h.x2, h.o1, fun i hi => h.st i fun z => hi (m i z)⟩
theorem Trn.trans (er : ER g H X ow σ e) (h : Trn g as H X ow e H1 X1 ow1 e1) (k : Trn g as H1 X1 ow1 e1 H2 X2 ow2 e2) : Trn g as H X ow e H2 X2 ow2 e2 where
  kp := fun b o q n => k.kp b o (h.kp b o q n) fun i sv q1 m z => by
    rcases h.o1 i sv q1 m with ⟨s0, q0, m0, e0⟩ | q0
    · exact n i s0 q0 m0 (z.trans e0)
    · rw [← z, q] at q0; cases q0
  al := fun a n => k.al a (h.al a n)
  x1 := fun a x => by
    rcases h.x1 a x with x1 | x1
    · rcases k.x1 a x1 with x2 | ⟨i, sv, q, m, ea, hi⟩
      · exact .inl x2
      · rcases h.o1 i sv q m with ⟨s0, q0, m0, e0⟩ | q0
        · exact .inr ⟨i, s0, q0, m0, ea.trans e0, hi⟩
        · exact absurd q0 (by rw [← ea]; exact er.xs a x)
    · exact .inr x1
  x2 := fun a o x => by
    have o1 : Old g H1 a := o.imp (h.al a) id
    exact h.x2 a o (k.x2 a o1 x)
  o1 := fun i sv q m => by
    rcases k.o1 i sv q m with ⟨s0, q0, m0, e0⟩ | q0
    · rcases h.o1 i s0 q0 m0 with ⟨s0', q0', m0', e0'⟩ | q0'
      · exact .inl ⟨s0', q0', m0', e0.trans e0'⟩
      · exact .inr (by rw [e0]; exact q0')
    · right
      cases z : H (ow2 i) with
      | none => rfl
      | some o => exact absurd q0 (h.al _ (by rw [z]; simp))
  st := fun i hi => by
    obtain ⟨a1, b1⟩ := h.st i hi
    obtain ⟨a2, b2⟩ := k.st i hi
    refine ⟨fun sv q => ?_, fun sv q m => ?_⟩
    · obtain ⟨s1, q1, m1⟩ := a2 sv q
      obtain ⟨s0, q0, m0⟩ := a1 s1 q1
      exact ⟨s0, q0, m0.trans m1⟩
    · obtain ⟨e1', s1, q1, m1⟩ := b1 sv q m
      obtain ⟨e2', s2, q2, m2⟩ := b2 s1 q1 m1
      exact ⟨e2'.trans e1', s2, q2, m2⟩
theorem Trn.refl : Trn g as H X ow e H X ow e :=
  ⟨.refl, fun _ n => n, fun _ x => .inl x, fun _ _ x => x, fun i sv q m => .inl ⟨sv, q, m, rfl⟩, fun i _ => ⟨fun sv q => ⟨sv, q, rfl⟩, fun sv q m => ⟨rfl, sv, q, m⟩⟩⟩
/-- behind an expression: the own objects' contents, nothing else -/
theorem Po.trn (er : ER g H X ow σ e) (p : Po g X ow σ e e1 H H1) : Trn g as H X ow e H1 X ow e1 where
  kp := p.kp
  al := fun a n => by
    by_cases x : X a
    · exact p.er.xs a x
    · cases q : H a with
      | none => exact absurd q n
      | some o => rw [Kp.out er p.kp a o q x]; simp
  x1 := fun _ x => .inl x
  x2 := fun _ _ x => x
  o1 := fun i sv q m => by
    obtain ⟨s0, h0, m0, _⟩ := p.kd.b i sv q
    exact .inl ⟨s0, h0, m0.trans m, rfl⟩
  st := fun i _ => ⟨fun sv q => by
    obtain ⟨s0, h0, m0, _⟩ := p.kd.b i sv q
    exact ⟨s0, h0, m0⟩, fun sv q m => by
    obtain ⟨s1, h1⟩ := p.kd.f i sv q
    obtain ⟨s0, h0, m0, _⟩ := p.kd.b i s1 h1
    rw [q] at h0
    cases h0
    exact ⟨rfl, s1, h1, m0 ▸ m⟩⟩
/-- a slot is stored to: a value -/
theorem ER.trnSet (er : ER g H X ow σ e) (i : Nat) (sv : SV) (hv : sv.mut = false) : Trn g [i] H X ow e H X ow (e.set i (some sv)) where
  kp := .refl
  al := fun _ n => n
  x1 := fun _ x => .inl x
  x2 := fun _ _ x => x
  o1 := fun j s q m => by
    by_cases hj : i = j
    · subst hj
      rw [List.getElem?_set] at q
      split at q
      · split at q
        · cases q
          rw [hv] at m; cases m
        · cases q
      · rename_i z; exact absurd rfl z
    · rw [List.getElem?_set_ne hj] at q
      exact .inl ⟨s, q, m, rfl⟩
  st := fun j hj => by
    have n1 : i ≠ j := fun z => hj (by simp [z])
    rw [List.getElem?_set_ne n1]
    exact ⟨fun sv q => ⟨sv, q, rfl⟩, fun sv q m => ⟨rfl, sv, q, m⟩⟩
/-- a slot is stored to: a list made anew, kept as one's own -/
def owSet (ow : Nat → Addr) (i : Nat) (a : Addr) : Nat → Addr := fun j => if j = i then a else ow j
theorem ER.own {a : Addr} {vs : List V} {ds : List D} (er : ER g H (fun b => X b ∨ b = a) ow σ e) (i : Nat) (ha : H a = some (.lst vs)) (r : Reps g H (fun b => X b ∨ b = a) vs ds) (nx : ¬ X a) (hX : ∀ (j : Nat) sv, e[j]? = some (some sv) → sv.mut = true → X (ow j)) :
    ER g H (fun b => X b ∨ b = a) (owSet ow i a) (σ.set i (some (.ref a))) (e.set i (some (.own ds))) := by
  refine ⟨by rw [List.length_set, List.length_set]; exact er.len, er.xs, er.sep, fun j sv q => ?_, fun j k s t q1 q2 m1 m2 z => ?_⟩
  · by_cases hj : i = j
    · subst hj
      have hi : i < e.length := by
        have := (List.getElem?_eq_some_iff.mp q).1
        simpa using this
      rw [List.getElem?_set_self hi] at q
      cases q
      refine ⟨.ref a, List.getElem?_set_self (by rw [← er.len]; exact hi), ?_⟩
      refine ⟨by simp [owSet], .inr (by simp [owSet]), vs, by simp only [owSet, if_true]; exact ha, r⟩
    · rw [List.getElem?_set_ne hj] at q
      obtain ⟨w, h1, h2⟩ := er.sl j sv q
      refine ⟨w, by rw [List.getElem?_set_ne hj]; exact h1, ?_⟩
      have : owSet ow i a j = ow j := by simp [owSet, Ne.symm hj]
      rw [this]
      exact h2
  · by_cases hj : i = j
    · by_cases hk : i = k
      · exact hj.symm.trans hk
      · rw [List.getElem?_set_ne hk] at q2
        have e1 : owSet ow i a j = a := by simp [owSet, hj]
        have e2 : owSet ow i a k = ow k := by simp [owSet, Ne.symm hk]
        rw [e1, e2] at z
        exact absurd (hX k t q2 m2) (by rw [← z]; exact nx)
    · rw [List.getElem?_set_ne hj] at q1
      have e1 : owSet ow i a j = ow j := by simp [owSet, Ne.symm hj]
      by_cases hk : i = k
      · have e2 : owSet ow i a k = a := by simp [owSet, hk]
        rw [e1, e2] at z
        exact absurd (hX j s q1 m1) (by rw [z]; exact nx)
      · rw [List.getElem?_set_ne hk] at q2
        have e2 : owSet ow i a k = ow k := by simp [owSet, Ne.symm hk]
        rw [e1, e2] at z
        exact er.ap j k s t q1 q2 m1 m2 z
end

/-! ### readings of statements -/
def So.all (P : En → Prop) (R : D → Bool → En → Prop) (B C : En → Prop) : So → Prop
  | .nx e => P e
  | .ret d fr e => R d fr e
  | .brk e => B e
  | .cnt e => C e
  | _ => False
def nxP (g : Gc) (as : List Nat) (H : Hp) (X : Px) (ow : Nat → Addr) (e : En) (Q : St → Hp → Prop) : En → Prop := fun e' =>
  ∀ H' X' ow' σ', ER g H' X' ow' σ' e' → Trn g as H X ow e H' X' ow' e' → Q σ' H'
/-- a value handed back: a list made anew, or one of the frame's own -/
def RVr (g : Gc) (as : List Nat) (H : Hp) (ow : Nat → Addr) (e : En) (H' : Hp) (X' : Px) (ow' : Nat → Addr) (σ' : St) (e' : En) (v : V) (d : D) (fr : Bool) : Prop :=
  Rep g H' X' v d ∧ (fr = true → ∃ a vs ds, v = .ref a ∧ d = .lst ds ∧ H' a = some (.lst vs) ∧ Reps g H' (fun b => X' b ∨ b = a) vs ds ∧ ER g H' (fun b => X' b ∨ b = a) ow' σ' e' ∧
    (H a = none ∨ ∃ (i : Nat) (sv : SV), e[i]? = some (some sv) ∧ sv.mut = true ∧ a = ow i ∧ i ∈ as))
theorem RVx.r {g : Gc} {as : List Nat} {H H' : Hp} {ow : Nat → Addr} {e : En} {X' : Px} {ow' : Nat → Addr} {σ' : St} {e' : En} {v : V} {d : D} {fr : Bool} (h : RVx g H H' X' ow' σ' e' v d fr) : RVr g as H ow e H' X' ow' σ' e' v d fr := ⟨h.1.1, fun z => by
  obtain ⟨a, vs, ds, e1, e2, n, q, r⟩ := h.1.2 z
  exact ⟨a, vs, ds, e1, e2, q, r, h.2 z a e1, .inl n⟩⟩
def rtP (g : Gc) (as : List Nat) (H : Hp) (X : Px) (ow : Nat → Addr) (e : En) (Q : VK) : D → Bool → En → Prop := fun d fr e' =>
  ∀ v H' X' ow' σ', ER g H' X' ow' σ' e' → Trn g as H X ow e H' X' ow' e' → RVr g as H ow e H' X' ow' σ' e' v d fr → Q v H'
def rdS (g : Gc) (f : Sm) (as : List Nat) : TS := fun Dn σ H => ∃ (e : En) (X : Px) (ow : Nat → Addr), ER g H X ow σ e ∧
  (f e).all (nxP g as H X ow e Dn.nx) (rtP g as H X ow e Dn.rt) (nxP g as H X ow e Dn.bk) (nxP g as H X ow e Dn.ct)
structure DS (X : Cx) (g : Gc) (st : Stmt) (f : Sm) (as : List Nat) : Prop where
  ps : PS X st (rdS g f as)
structure DSs (X : Cx) (g : Gc) (st : List Stmt) (f : Sm) (as : List Nat) : Prop where
  pss : PSs X st (rdS g f as)
theorem So.all.mono {P P' : En → Prop} {R R' : D → Bool → En → Prop} {B B' C C' : En → Prop} {x : So} (h : x.all P R B C) (i : ∀ e, P e → P' e) (j : ∀ d fr e, R d fr e → R' d fr e) (k : ∀ e, B e → B' e) (l : ∀ e, C e → C' e) : x.all P' R' B' C' := by
  cases x with
  | nx e => exact i e h
  | ret d fr e => exact j d fr e h
  | brk e => exact k e h
  | cnt e => exact l e h
  | exc c e => exact h
  | bad => exact h
section
variable {g : Gc} {as bs : List Nat} {H H1 : Hp} {X X1 : Px} {ow ow1 : Nat → Addr} {e e1 : En} {σ σ1 : St} {Q : St → Hp → Prop} {R : VK}
theorem nxP.back (er : ER g H X ow σ e) (t : Trn g as H X ow e H1 X1 ow1 e1) (e' : En) (h : nxP g as H X ow e Q e') : nxP g as H1 X1 ow1 e1 Q e' := fun H' X' ow' σ' er' t' => h H' X' ow' σ' er' (t.trans er t')
theorem rtP.back (er : ER g H X ow σ e) (t : Trn g as H X ow e H1 X1 ow1 e1) (d : D) (fr : Bool) (e' : En) (h : rtP g as H X ow e R d fr e') : rtP g as H1 X1 ow1 e1 R d fr e' := fun v H' X' ow' σ' er' t' rv => h v H' X' ow' σ' er' (t.trans er t') ⟨rv.1, fun z => by
  obtain ⟨a, vs, ds, h1, h2, q, r, er2, n⟩ := rv.2 z
  refine ⟨a, vs, ds, h1, h2, q, r, er2, ?_⟩
  rcases n with n | ⟨i, sv, q1, m, ea, hi⟩
  · left
    cases y : H a with
    | none => rfl
    | some o => exact absurd n (t.al a (by rw [y]; simp))
  · rcases t.o1 i sv q1 m with ⟨s0, q0, m0, e0⟩ | q0
    · exact .inr ⟨i, s0, q0, m0, ea.trans e0, hi⟩
    · exact .inl (by rw [ea]; exact q0)⟩
theorem nxP.wide (m : ∀ i ∈ as, i ∈ bs) (e' : En) (h : nxP g bs H X ow e Q e') : nxP g as H X ow e Q e' := fun H' X' ow' σ' er' t' => h H' X' ow' σ' er' (t'.mono m)
theorem rtP.wide (m : ∀ i ∈ as, i ∈ bs) (d : D) (fr : Bool) (e' : En) (h : rtP g bs H X ow e R d fr e') : rtP g as H X ow e R d fr e' := fun v H' X' ow' σ' er' t' rv => h v H' X' ow' σ' er' (t'.mono m) ⟨rv.1, fun z => by
  obtain ⟨a, vs, ds, h1, h2, q, r, er2, n⟩ := rv.2 z
  exact ⟨a, vs, ds, h1, h2, q, r, er2, n.imp id fun ⟨i, sv, q1, mm, ea, hi⟩ => ⟨i, sv, q1, mm, ea, m i hi⟩⟩⟩
end
theorem rd.mono {g : Gc} {f : Ex} {σ : St} {H : Hp} {Q Q' : VK} (h : rd g f σ H Q) (i : ∀ v H', Q v H' → Q' v H') : rd g f σ H Q' := by
  obtain ⟨e, Xx, ow, er, h⟩ := h
  exact ⟨e, Xx, ow, er, h.mono fun p h v H' po rv => i _ _ (h v H' po rv)⟩
def Ends.sep (g : Gc) (Dn : Ends) : Ends := ⟨fun σ H => Sep g H → Dn.nx σ H, fun v H => Sep g H → Dn.rt v H, fun σ H => Sep g H → Dn.bk σ H, fun σ H => Sep g H → Dn.ct σ H⟩
theorem rdS.mono {g : Gc} {f : Sm} {as : List Nat} {Dn Dn' : Ends} {σ : St} {H : Hp} (h : rdS g f as Dn σ H) (i : ∀ σ H, Dn.nx σ H → Dn'.nx σ H) (j : ∀ v H, Dn.rt v H → Dn'.rt v H) (k : ∀ σ H, Dn.bk σ H → Dn'.bk σ H) (l : ∀ σ H, Dn.ct σ H → Dn'.ct σ H) : rdS g f as Dn' σ H := by
  obtain ⟨e, Xx, ow, er, h⟩ := h
  exact ⟨e, Xx, ow, er, So.all.mono h (fun _ h H' X' ow' σ' er' t => i _ _ (h H' X' ow' σ' er' t)) (fun _ _ _ h v H' X' ow' σ' er' t rv => j _ _ (h v H' X' ow' σ' er' t rv)) (fun _ h H' X' ow' σ' er' t => k _ _ (h H' X' ow' σ' er' t)) (fun _ h H' X' ow' σ' er' t => l _ _ (h H' X' ow' σ' er' t))⟩
def sSkip : Sm := fun e => .nx e
def sSeq (a b : Sm) : Sm := fun e => match a e with
  | .nx e1 => b e1
  | o => o
def Ro.so {α : Type} : Ro α → (α → So) → So
  | .ok a, f => f a
  | .exc c e, _ => .exc c e
  | .bad, _ => .bad
def sSet (i : Nat) (f : Ex) : Sm := fun e => (f e).so fun p => .nx (p.2.2.set i (some (.val p.1)))
/-- the list made anew is kept as one's own -/
def sOwn (i : Nat) (f : Ex) : Sm := fun e => (f e).so fun p => match p.1, p.2.1 with
  | .lst ds, true => .nx (p.2.2.set i (some (.own ds)))
  | _, _ => .bad
def sTg (T : Tg) (f : Ex) : Sm := fun e => (f e).so fun p => (T p.1 p.2.2).so .nx
def sExpr (f : Ex) : Sm := fun e => (f e).so fun p => .nx p.2.2
def sRet (f : Ex) : Sm := fun e => (f e).so fun p => .ret p.1 p.2.1 p.2.2
def sRetN : Sm := fun e => .ret .non false e
def sIf (t : Et) (a b : Sm) : Sm := fun e => (t e).so fun p => if p.1 = true then a p.2 else b p.2
def sBad : Sm := fun _ => .bad
theorem Ro.so_all {α : Type} {x : Ro α} {f : α → So} {P : En → Prop} {R : D → Bool → En → Prop} {B C : En → Prop} : (x.so f).all P R B C ↔ x.all fun a => (f a).all P R B C := by cases x <;> exact Iff.rfl
section
variable {X : Cx} {g : Gc} (hg : g.K = X.K)
theorem dss_nil : DSs X g [] sSkip [] := ⟨⟨fun pins s σ H Dn I h => by
  obtain ⟨e, Xx, ow, er, h⟩ := h
  exact pss_nil.run pins s σ H Dn I (h H Xx ow σ er .refl)⟩⟩
theorem dss_one {st : Stmt} {f : Sm} {as : List Nat} (h : DS X g st f as) : DSs X g [st] f as := ⟨pss_one h.ps⟩
theorem dss_cons {st : Stmt} {rest : List Stmt} {f h : Sm} {as bs : List Nat} (h1 : DS X g st f as) (h2 : DSs X g rest h bs) : DSs X g (st :: rest) (sSeq f h) (as ++ bs) := ⟨⟨fun pins s σ H Dn I hq => by
  refine (pss_cons h1.ps h2.pss).run pins s σ H Dn I ?_
  obtain ⟨e, Xx, ow, er, hq⟩ := hq
  refine ⟨e, Xx, ow, er, ?_⟩
  have m1 : ∀ i ∈ as, i ∈ as ++ bs := fun i hi => List.mem_append_left _ hi
  have m2 : ∀ i ∈ bs, i ∈ as ++ bs := fun i hi => List.mem_append_right _ hi
  unfold sSeq at hq
  cases hf : f e with
  | nx e1 =>
    rw [hf] at hq
    intro H1 X1 ow1 σ1 er1 t1
    refine ⟨e1, X1, ow1, er1, So.all.mono hq ?_ ?_ ?_ ?_⟩
    · exact fun e' h => nxP.wide m2 _ (nxP.back er (t1.mono m1) _ h)
    · exact fun d fr e' h => rtP.wide m2 _ _ _ (rtP.back er (t1.mono m1) _ _ _ h)
    · exact fun e' h => nxP.wide m2 _ (nxP.back er (t1.mono m1) _ h)
    · exact fun e' h => nxP.wide m2 _ (nxP.back er (t1.mono m1) _ h)
  | ret d fr e1 => rw [hf] at hq; exact rtP.wide m1 _ _ _ hq
  | brk e1 => rw [hf] at hq; exact nxP.wide m1 _ hq
  | cnt e1 => rw [hf] at hq; exact nxP.wide m1 _ hq
  | exc c e1 => rw [hf] at hq; exact False.elim hq
  | bad => rw [hf] at hq; exact False.elim hq⟩⟩
theorem ds_never {st : Stmt} : DS X g st sBad [] := ⟨⟨fun pins s σ H Dn I h => by
  obtain ⟨e, Xx, ow, er, h⟩ := h
  exact False.elim h⟩⟩
theorem dss_never {st : List Stmt} : DSs X g st sBad [] := ⟨⟨fun pins s σ H Dn I h => by
  obtain ⟨e, Xx, ow, er, h⟩ := h
  exact False.elim h⟩⟩
theorem ds_pass {pos : Pos} : DS X g (.Pass pos) sSkip [] := ⟨⟨fun pins s σ H Dn I h => by
  obtain ⟨e, Xx, ow, er, h⟩ := h
  exact ps_pass.run pins s σ H Dn I (h H Xx ow σ er .refl)⟩⟩
include hg
theorem PS.by {st : Stmt} {t t' : TS} (h : PS X st t) (i : ∀ Dn σ H, t' Dn σ H → t (Ends.sep g Dn) σ H) : PS X st t' := ⟨fun pins s σ H Dn I hq =>
  thn (h.run pins s σ H _ I (i Dn σ H hq)) fun f s1 q => by
    cases f with
    | next => obtain ⟨σ1, H1, I1, q⟩ := q; exact ⟨σ1, H1, I1, q (sep_of hg I1)⟩
    | brk => obtain ⟨σ1, H1, I1, q⟩ := q; exact ⟨σ1, H1, I1, q (sep_of hg I1)⟩
    | cont => obtain ⟨σ1, H1, I1, q⟩ := q; exact ⟨σ1, H1, I1, q (sep_of hg I1)⟩
    | ret v => obtain ⟨w, σ1, H1, I1, r, q⟩ := q; exact ⟨w, σ1, H1, I1, r, q (sep_of hg I1)⟩⟩
/-- name = e: what a reading of the right side asks -/
theorem set_way {i : Nat} {f : Ex} {te : TE} (hw : ∀ σ H Q, rd g f σ H Q → te σ H (fun v H' => Sep g H' → Q v H')) (Dn : Ends) (σ : St) (H : Hp) (h : rdS g (sSet i f) [i] Dn σ H) : tAsg te (gName i) (Ends.sep g Dn) σ H := by
  refine hw σ H (fun v H1 => Dn.nx (σ.set i (some v)) H1) ?_
  obtain ⟨e, Xx, ow, er, h⟩ := h
  refine ⟨e, Xx, ow, er, (Ro.so_all.mp h).mono fun p h => ?_⟩
  intro v H1 po rv
  exact h H1 Xx ow _ (po.er.set i rv.1.1) ((po.trn er).trans er (po.er.trnSet i _ rfl))
theorem own_way {i : Nat} {f : Ex} {te : TE} (hw : ∀ σ H Q, rd g f σ H Q → te σ H (fun v H' => Sep g H' → Q v H')) (Dn : Ends) (σ : St) (H : Hp) (h : rdS g (sOwn i f) [i] Dn σ H) : tAsg te (gName i) (Ends.sep g Dn) σ H := by
  refine hw σ H (fun v H1 => Dn.nx (σ.set i (some v)) H1) ?_
  obtain ⟨e, Xx, ow, er, h⟩ := h
  refine ⟨e, Xx, ow, er, (Ro.so_all.mp h).mono fun p h => ?_⟩
  obtain ⟨d, fr, e1⟩ := p
  intro v H1 po rv
  cases d with
  | lst ds =>
    cases fr with
    | false => exact False.elim h
    | true =>
      obtain ⟨a, vs, ds', ev, ed, n, ha, r⟩ := rv.1.2 rfl
      cases ed
      subst ev
      have er2 := rv.2 rfl a rfl
      have nx : ¬ Xx a := fun z => er.xs a z n
      have er3 := er2.own i ha r nx fun j sv q m => po.er.ownX q m
      have pt := Po.trn (as := [i]) er po
      refine h H1 _ _ _ er3 ⟨pt.kp, pt.al, fun _ x => .inl (.inl x), fun b o x => x.elim (fun z => z) fun z => ?_, fun j s q m => ?_, fun j hj => ?_⟩
      · subst z
        rcases o with o | o
        · exact absurd n o
        · exact absurd (po.er.sep.k b (by rw [ha]; simp)) o
      · by_cases hj : i = j
        · subst hj
          exact .inr (by simp only [owSet, if_true]; exact n)
        · rw [List.getElem?_set_ne hj] at q
          have z : owSet ow i a j = ow j := by simp [owSet, Ne.symm hj]
          rw [z]
          exact pt.o1 j s q m
      · have n1 : i ≠ j := fun z => hj (by simp [z])
        have z : owSet ow i a j = ow j := by simp [owSet, Ne.symm n1]
        rw [List.getElem?_set_ne n1, z]
        exact pt.st j hj
  | _ => exact False.elim h

theorem ds_set {i : Nat} {x : Str} {e : Expr} {f : Ex} {pos pos' : Pos} (hN : X.N.Nodup) (he : DE X g e f) (hi : X.N[i]? = some x := by rfl) (hx : Loc X.env.scope x := by first | exact Or.inl rfl | exact Or.inr rfl) (hs : swapsWith e (some (.Name x pos')) pos.line X.env = pure false := by rfl) (hf : X.fn x = true ∨ X.env.scope.names.lookup x = some .local := by first | exact .inl rfl | exact .inr rfl | assumption) : DS X g (.Assign [.Name x pos'] e pos) (sSet i f) [i] :=
  ⟨PS.by hg (ps_set hN hi hx he.pe hs hf) (set_way hg fun _ _ _ h => rd.mono h fun _ _ q _ => q)⟩
theorem ds_own {i : Nat} {x : Str} {e : Expr} {f : Ex} {pos pos' : Pos} (hN : X.N.Nodup) (he : DE X g e f) (hi : X.N[i]? = some x := by rfl) (hx : Loc X.env.scope x := by first | exact Or.inl rfl | exact Or.inr rfl) (hs : swapsWith e (some (.Name x pos')) pos.line X.env = pure false := by rfl) (hf : X.fn x = true ∨ X.env.scope.names.lookup x = some .local := by first | exact .inl rfl | exact .inr rfl | assumption) : DS X g (.Assign [.Name x pos'] e pos) (sOwn i f) [i] :=
  ⟨PS.by hg (ps_set hN hi hx he.pe hs hf) (own_way hg fun _ _ _ h => rd.mono h fun _ _ q _ => q)⟩
/-- y = [el for tg in it if ..] on one line -/
theorem ds_setLc {i : Nat} {y : Str} {py : Pos} {elt tg iter : Expr} {ifs : List Expr} {scope : Scope} {own : List (Str × Nat)} {pos spos : Pos} {it : Ei} {T : Tg} {ss : List Nat} {c : Et} {el : Ex} (hc : X.calm = true) (hN : X.N.Nodup) (hi : DI X g tg iter it) (ok : BlkOk X.N X.env.scope scope own)
    (ht : ∀ (s : Shared) (H : Hp) (C : Addr) (cl : List (Str × Addr)) (fp : List Addr), DG (X.blk s H scope (compEnvC scope cl C X.env) fp) g tg T ss)
    (hf : ∀ (s : Shared) (H : Hp) (C : Addr) (cl : List (Str × Addr)) (fp : List Addr), DTs (X.blk s H scope (compEnvC scope cl C X.env) fp) g ifs c)
    (he : ∀ (s : Shared) (H : Hp) (C : Addr) (cl : List (Str × Addr)) (fp : List Addr), DE (X.blk s H scope (compEnvC scope cl C X.env) fp) g elt el)
    (hy : X.N[i]? = some y := by rfl) (hyl : X.env.scope.names.lookup y = some .local := by rfl) (hsw : swapsWith (.ListComp elt [⟨tg, iter, ifs, 0⟩] scope pos) (some (.Name y py)) spos.line X.env = pure true)
    (hss : ∀ i ∈ ss, i ∈ own.map (·.2) := by decide) (hs : ∀ x, foldedSetIterable iter X.env x = pure x := by intro _; rfl) :
    DS X g (.Assign [.Name y py] (.ListComp elt [⟨tg, iter, ifs, 0⟩] scope pos) spos) (sSet i (eComp it T c el (own.map (·.2)))) [i] :=
  ⟨PS.by hg (ps_setLc hc hN hy hyl hsw hi.pi ok (fun s H C cl fp => (ht s H C cl fp).pg) (fun s H C cl fp => (hf s H C cl fp).pts) (fun s H C cl fp => (he s H C cl fp).pe) hs) (set_way hg (lc_way hg hss))⟩
theorem ds_ownLc {i : Nat} {y : Str} {py : Pos} {elt tg iter : Expr} {ifs : List Expr} {scope : Scope} {own : List (Str × Nat)} {pos spos : Pos} {it : Ei} {T : Tg} {ss : List Nat} {c : Et} {el : Ex} (hc : X.calm = true) (hN : X.N.Nodup) (hi : DI X g tg iter it) (ok : BlkOk X.N X.env.scope scope own)
    (ht : ∀ (s : Shared) (H : Hp) (C : Addr) (cl : List (Str × Addr)) (fp : List Addr), DG (X.blk s H scope (compEnvC scope cl C X.env) fp) g tg T ss)
    (hf : ∀ (s : Shared) (H : Hp) (C : Addr) (cl : List (Str × Addr)) (fp : List Addr), DTs (X.blk s H scope (compEnvC scope cl C X.env) fp) g ifs c)
    (he : ∀ (s : Shared) (H : Hp) (C : Addr) (cl : List (Str × Addr)) (fp : List Addr), DE (X.blk s H scope (compEnvC scope cl C X.env) fp) g elt el)
    (hy : X.N[i]? = some y := by rfl) (hyl : X.env.scope.names.lookup y = some .local := by rfl) (hsw : swapsWith (.ListComp elt [⟨tg, iter, ifs, 0⟩] scope pos) (some (.Name y py)) spos.line X.env = pure true)
    (hss : ∀ i ∈ ss, i ∈ own.map (·.2) := by decide) (hs : ∀ x, foldedSetIterable iter X.env x = pure x := by intro _; rfl) :
    DS X g (.Assign [.Name y py] (.ListComp elt [⟨tg, iter, ifs, 0⟩] scope pos) spos) (sOwn i (eComp it T c el (own.map (·.2)))) [i] :=
  ⟨PS.by hg (ps_setLc hc hN hy hyl hsw hi.pi ok (fun s H C cl fp => (ht s H C cl fp).pg) (fun s H C cl fp => (hf s H C cl fp).pts) (fun s H C cl fp => (he s H C cl fp).pe) hs) (own_way hg (lc_way hg hss))⟩
omit hg in
/-- behind a target -/
theorem Chg.trn {ss : List Nat} {H : Hp} {Xx : Px} {ow : Nat → Addr} {e e' : En} {σ σ' : St} (c : Chg ss σ σ' e e') : Trn g ss H Xx ow e H Xx ow e' where
  kp := .refl
  al := fun _ n => n
  x1 := fun _ x => .inl x
  x2 := fun _ _ x => x
  o1 := fun j s q m => by
    by_cases hj : j ∈ ss
    · rw [c.v j hj s q] at m; cases m
    · rw [(c.o j hj).2] at q
      exact .inl ⟨s, q, m, rfl⟩
  st := fun j hj => by
    rw [(c.o j hj).2]
    exact ⟨fun sv q => ⟨sv, q, rfl⟩, fun sv q m => ⟨rfl, sv, q, m⟩⟩
/-- target = e -/
theorem ds_asg {tg e : Expr} {f : Ex} {T : Tg} {ss : List Nat} {pos : Pos} (he : DE X g e f) (ht : DG X g tg T ss) (hs : swapsWithSole [tg] e pos.line X.env = pure false := by rfl) (hw : swappedStores [tg] e X.env = pure none := by rfl)
    (h1 : (assignEach [tg] X.env).map (·.2) = [assign tg X.env] := by rfl) : DS X g (.Assign [tg] e pos) (sTg T f) ss := by
  refine ⟨PS.by hg (ps_asg he.pe ht.pg hs hw h1) fun Dn σ H h => ?_⟩
  obtain ⟨e, Xx, ow, er, h⟩ := h
  refine ⟨e, Xx, ow, er, (Ro.so_all.mp h).mono fun p h => ?_⟩
  intro v H1 po rv
  refine ⟨p.2.2, Xx, ow, p.1, fun _ => po.er, fun _ => rv.1.1, (Ro.so_all.mp h).mono fun e' h => ?_⟩
  intro σ' er' c s
  exact h H1 Xx ow σ' er' ((po.trn er).trans er c.trn)
theorem ds_expr {e : Expr} {f : Ex} {pos : Pos} (he : DE X g e f) (hs : swapsWith e none pos.line X.env = pure false := by rfl) : DS X g (.Expr e pos) (sExpr f) [] := by
  refine ⟨PS.by hg (ps_expr he.pe hs) fun Dn σ H h => ?_⟩
  obtain ⟨e, Xx, ow, er, h⟩ := h
  refine ⟨e, Xx, ow, er, (Ro.so_all.mp h).mono fun p h => ?_⟩
  intro v H1 po rv s
  exact h H1 Xx ow σ po.er (po.trn er)
theorem ds_ret {e : Expr} {f : Ex} {pos : Pos} (he : DE X g e f) : DS X g (.Return (some e) pos) (sRet f) [] := by
  refine ⟨PS.by hg (ps_ret he.pe) fun Dn σ H h => ?_⟩
  obtain ⟨e, Xx, ow, er, h⟩ := h
  refine ⟨e, Xx, ow, er, (Ro.so_all.mp h).mono fun p h => ?_⟩
  intro v H1 po rv s
  exact h v H1 Xx ow σ po.er (po.trn er) rv.r
theorem ds_retN {pos : Pos} : DS X g (.Return none pos) sRetN [] := by
  refine ⟨PS.by hg ps_retN fun Dn σ H h => ?_⟩
  obtain ⟨e, Xx, ow, er, h⟩ := h
  exact fun s => h .non H Xx ow σ er .refl (RVx.r (H := H) (.old .non))
omit hg in
/-- what follows a first part that led from e to e1 -/
theorem rdS.go {f : Sm} {as bs : List Nat} {Dn Dn' : Ends} {σ σ1 : St} {H H1 : Hp} {Xx X1 : Px} {ow ow1 : Nat → Addr} {e e1 : En} (er : ER g H Xx ow σ e) (er1 : ER g H1 X1 ow1 σ1 e1) (t : Trn g bs H Xx ow e H1 X1 ow1 e1) (m : ∀ i ∈ as, i ∈ bs)
    (h : (f e1).all (nxP g bs H Xx ow e Dn.nx) (rtP g bs H Xx ow e Dn.rt) (nxP g bs H Xx ow e Dn.bk) (nxP g bs H Xx ow e Dn.ct))
    (i : ∀ σ H, Dn.nx σ H → Dn'.nx σ H) (j : ∀ v H, Dn.rt v H → Dn'.rt v H) (k : ∀ σ H, Dn.bk σ H → Dn'.bk σ H) (l : ∀ σ H, Dn.ct σ H → Dn'.ct σ H) : rdS g f as Dn' σ1 H1 :=
  rdS.mono ⟨e1, X1, ow1, er1, So.all.mono h (fun _ h => nxP.wide m _ (nxP.back er t _ h)) (fun _ _ _ h => rtP.wide m _ _ _ (rtP.back er t _ _ _ h)) (fun _ h => nxP.wide m _ (nxP.back er t _ h)) (fun _ h => nxP.wide m _ (nxP.back er t _ h))⟩ i j k l
theorem ds_if {c : Expr} {a b : List Stmt} {t : Et} {f h : Sm} {as bs : List Nat} {pos : Pos} (hc : DT X g c t) (ha : DSs X g a f as) (hb : DSs X g b h bs) : DS X g (.If c a b pos) (sIf t f h) (as ++ bs) := by
  refine ⟨PS.by hg (ps_if hc.pt ha.pss hb.pss) fun Dn σ H h => ?_⟩
  obtain ⟨e, Xx, ow, er, h⟩ := h
  refine ⟨e, Xx, ow, er, (Ro.so_all.mp h).mono fun p h => ?_⟩
  intro H1 po
  have m1 : ∀ i ∈ as, i ∈ as ++ bs := fun i hi => List.mem_append_left _ hi
  have m2 : ∀ i ∈ bs, i ∈ as ++ bs := fun i hi => List.mem_append_right _ hi
  cases hp : p.1 with
  | true =>
    rw [hp, if_pos rfl] at h
    rw [if_pos rfl]
    exact rdS.go er po.er (po.trn er) m1 h (fun _ _ q _ => q) (fun _ _ q _ => q) (fun _ _ q _ => q) fun _ _ q _ => q
  | false =>
    rw [hp, if_neg Bool.false_ne_true] at h
    rw [if_neg Bool.false_ne_true]
    exact rdS.go er po.er (po.trn er) m2 h (fun _ _ q _ => q) (fun _ _ q _ => q) (fun _ _ q _ => q) fun _ _ q _ => q
/-! ### loops -/
omit hg
end
def forL (T : Tg) (b : Sm) : List D → En → So
  | [], e => .nx e
  | d :: ds, e => (T d e).so fun e1 => match b e1 with
    | .nx e2 => forL T b ds e2
    | .cnt e2 => forL T b ds e2
    | .brk e2 => .nx e2
    | o => o
def sFor (it : Ei) (T : Tg) (b : Sm) : Sm := fun e => (it e).so fun p => forL T b p.1 p.2
def whileL (t : Et) (b : Sm) : Nat → En → So
  | 0, _ => .bad
  | n + 1, e => (t e).so fun p => if p.1 = true then (match b p.2 with
    | .nx e2 => whileL t b n e2
    | .cnt e2 => whileL t b n e2
    | .brk e2 => .nx e2
    | o => o) else .nx p.2
def fuel : Nat := 100000
def sWhile (t : Et) (b : Sm) : Sm := fun e => whileL t b fuel e
section
variable {X : Cx} {g : Gc} (hg : g.K = X.K)
include hg
theorem ds_for {tg iter : Expr} {body : List Stmt} {it : Ei} {T : Tg} {ss bs : List Nat} {f : Sm} {pos : Pos} (hp : PassesOwn (model X.prog X.w) X.A X.env X.xe) (hc : X.calm = true) (hi : DI X g tg iter it) (ht : DG X g tg T ss) (hb : DSs X g body f bs)
    (hs : ∀ x, foldedSetIterable iter X.env x = pure x := by intro _; rfl) : DS X g (.For tg iter body [] pos) (sFor it T f) (ss ++ bs) := by
  refine ⟨PS.by hg (ps_for hp hc hi.pi ht.pg hb.pss hs) fun Dn σ H h => ?_⟩
  obtain ⟨e, Xx, ow, er, h⟩ := h
  refine ⟨e, Xx, ow, er, (Ro.so_all.mp h).mono fun p h => ?_⟩
  obtain ⟨ds, e1⟩ := p
  intro J H1 po iok
  have er1 := po.er
  have t0 : Trn g (ss ++ bs) H Xx ow e H1 Xx ow e1 := po.trn er
  have m1 : ∀ i ∈ ss, i ∈ ss ++ bs := fun i hi => List.mem_append_left _ hi
  have m2 : ∀ i ∈ bs, i ∈ ss ++ bs := fun i hi => List.mem_append_right _ hi
  have h : (forL T f ds e1).all (nxP g (ss ++ bs) H Xx ow e Dn.nx) (rtP g (ss ++ bs) H Xx ow e Dn.rt) (nxP g (ss ++ bs) H Xx ow e Dn.bk) (nxP g (ss ++ bs) H Xx ow e Dn.ct) := h
  let Pv : Nat → St → Hp → Prop := fun i σ' H' => ∃ (ei : En) (Xi : Px) (wi : Nat → Addr), ER g H' Xi wi σ' ei ∧ Trn g (ss ++ bs) H1 Xx ow e1 H' Xi wi ei ∧
    (forL T f (ds.drop i) ei).all (nxP g (ss ++ bs) H Xx ow e Dn.nx) (rtP g (ss ++ bs) H Xx ow e Dn.rt) (nxP g (ss ++ bs) H Xx ow e Dn.bk) (nxP g (ss ++ bs) H Xx ow e Dn.ct)
  refine ⟨fun i m σ' H' => m = ds.length - i ∧ i ≤ ds.length ∧ Pv i σ' H', ⟨ds.length, by simp, Nat.zero_le _, e1, Xx, ow, er1, .refl, h⟩, ?_⟩
  rintro i m σ' H' ⟨rfl, hi, ei, Xi, wi, eri, ti, hc⟩
  have ks : Keeps Xx H1 H' := fun a o q nx => ti.kp a o q fun j sv q2 m z => nx (by rw [z]; exact er1.ownX q2 m)
  by_cases hlt : i < ds.length
  · refine .inr ⟨iok.go i H' ks hlt, fun σ'' H'' => Pv (i + 1) σ'' H'', fun σ'' H'' P' => ⟨ds.length - (i + 1), by omega, rfl, hlt, P'⟩, fun x H2 y => ?_⟩
    obtain ⟨sm, d, hd, hr⟩ := iok.yld i H' ks hlt x H2 y
    have hdr : ds.drop i = d :: ds.drop (i + 1) := by
      obtain ⟨h1, h2⟩ := List.getElem?_eq_some_iff.mp hd
      rw [List.drop_eq_getElem_cons h1, h2]
    rw [hdr] at hc
    refine ⟨ei, Xi, wi, d, fun s => eri.same sm s, fun s => hr Xi ti.x2 eri.xs, (Ro.so_all.mp hc).mono fun e2 hc => ?_⟩
    intro σ2 er2 cg
    have tsm : Trn g (ss ++ bs) H' Xi wi ei H2 Xi wi ei := Po.trn eri ⟨eri.same sm er2.sep, .refl _, .of sm⟩
    have t2 : Trn g (ss ++ bs) H1 Xx ow e1 H2 Xi wi e2 := ti.trans er1 (tsm.trans eri (cg.trn.mono m1))
    have t02 : Trn g (ss ++ bs) H Xx ow e H2 Xi wi e2 := t0.trans er t2
    refine ⟨e2, Xi, wi, er2, ?_⟩
    cases hf : f e2 with
    | nx e3 =>
      rw [hf] at hc
      exact fun H3 X3 w3 σ3 er3 t3 => ⟨e3, X3, w3, er3, t2.trans er1 (t3.mono m2), hc⟩
    | cnt e3 =>
      rw [hf] at hc
      exact fun H3 X3 w3 σ3 er3 t3 => ⟨e3, X3, w3, er3, t2.trans er1 (t3.mono m2), hc⟩
    | brk e3 =>
      rw [hf] at hc
      exact fun H3 X3 w3 σ3 er3 t3 s => hc H3 X3 w3 σ3 er3 (t02.trans er (t3.mono m2))
    | ret dd fr e3 =>
      rw [hf] at hc
      have hc := rtP.wide m2 _ _ _ (rtP.back er t02 _ _ _ hc)
      exact fun v H3 X3 w3 σ3 er3 t3 rv s => hc v H3 X3 w3 σ3 er3 t3 rv
    | exc c e3 => rw [hf] at hc; exact False.elim hc
    | bad => rw [hf] at hc; exact False.elim hc
  · have e' : i = ds.length := by omega
    subst e'
    rw [List.drop_length] at hc
    exact .inl ⟨iok.stop _ H' ks (Nat.le_refl _), fun s => hc H' Xi wi σ' eri (t0.trans er ti)⟩
theorem ds_while {c : Expr} {body : List Stmt} {t : Et} {bs : List Nat} {f : Sm} {pos : Pos} (hp : PassesOwn (model X.prog X.w) X.A X.env X.xe) (hc : DT X g c t) (hb : DSs X g body f bs) : DS X g (.While c body [] pos) (sWhile t f) bs := by
  refine ⟨PS.by hg (ps_while hp hc.pt hb.pss) fun Dn σ H h => ?_⟩
  obtain ⟨e, Xx, ow, er, h⟩ := h
  let Pv : Nat → St → Hp → Prop := fun m σ' H' => ∃ (ei : En) (Xi : Px) (wi : Nat → Addr), ER g H' Xi wi σ' ei ∧ Trn g bs H Xx ow e H' Xi wi ei ∧
    (whileL t f m ei).all (nxP g bs H Xx ow e Dn.nx) (rtP g bs H Xx ow e Dn.rt) (nxP g bs H Xx ow e Dn.bk) (nxP g bs H Xx ow e Dn.ct)
  refine ⟨Pv, ⟨fuel, e, Xx, ow, er, .refl, h⟩, ?_⟩
  rintro m σ' H' ⟨ei, Xi, wi, eri, ti, hw⟩
  cases m with
  | zero => exact False.elim hw
  | succ m =>
    refine ⟨ei, Xi, wi, eri, (Ro.so_all.mp hw).mono fun p hw => ?_⟩
    intro H1 po
    have t1 : Trn g bs H Xx ow e H1 Xi wi p.2 := ti.trans er (po.trn eri)
    cases hpb : p.1 with
    | false =>
      rw [hpb, if_neg Bool.false_ne_true] at hw
      rw [if_neg Bool.false_ne_true]
      exact fun s => hw H1 Xi wi σ' po.er t1
    | true =>
      rw [hpb, if_pos rfl] at hw
      rw [if_pos rfl]
      refine ⟨fun σ'' H'' => Pv m σ'' H'', fun σ'' H'' P' => ⟨m, Nat.lt_succ_self _, P'⟩, p.2, Xi, wi, po.er, ?_⟩
      cases hf : f p.2 with
      | nx e3 =>
        rw [hf] at hw
        exact fun H3 X3 w3 σ3 er3 t3 => ⟨e3, X3, w3, er3, t1.trans er t3, hw⟩
      | cnt e3 =>
        rw [hf] at hw
        exact fun H3 X3 w3 σ3 er3 t3 => ⟨e3, X3, w3, er3, t1.trans er t3, hw⟩
      | brk e3 =>
        rw [hf] at hw
        exact fun H3 X3 w3 σ3 er3 t3 s => hw H3 X3 w3 σ3 er3 (t1.trans er t3)
      | ret dd fr e3 =>
        rw [hf] at hw
        have hw := rtP.back er t1 _ _ _ hw
        exact fun v H3 X3 w3 σ3 er3 t3 rv s => hw v H3 X3 w3 σ3 er3 t3 rv
      | exc c e3 => rw [hf] at hw; exact False.elim hw
      | bad => rw [hf] at hw; exact False.elim hw
end
end G

/-! Lists of one's own: append, extend, store to an item, looks; made a value; pairs of names. -/
namespace G
open PySem PySem.Spec PyProof.Rows L2
def fz (i : Nat) (e : En) : En := match e[i]? with
  | some (some (.own ds)) => e.set i (some (.val (.lst ds)))
  | _ => e
def sFz (i : Nat) (f : Sm) : Sm := fun e => f (fz i e)
def getOwn (i : Nat) (e : En) : Option (List D) := match e[i]? with
  | some (some (.own ds)) => some ds
  | _ => none
theorem getOwn_eq {i : Nat} {e : En} {ds : List D} (h : getOwn i e = some ds) : e[i]? = some (some (.own ds)) := by
  unfold getOwn at h
  split at h
  · rename_i q
    cases h
    exact q
  · cases h
def sApp (i : Nat) (f : Ea) : Sm := fun e => match getOwn i e with
  | some _ => (f e).so fun p => match getOwn i p.2, p.1 with
    | some ds, [d] => if ds.length < sizeLine then .nx (p.2.set i (some (.own (ds ++ [d])))) else .bad
    | _, _ => .bad
  | _ => .bad
def sExt (i : Nat) (f : Ea) : Sm := fun e => match getOwn i e with
  | some _ => (f e).so fun p => match getOwn i p.2, p.1 with
    | some ds, [.lst es] => if ds.length + es.length ≤ sizeLine then .nx (p.2.set i (some (.own (ds ++ es)))) else .bad
    | _, _ => .bad
  | _ => .bad
/-- x[k] = v -/
def sPut (i : Nat) (fv fk : Ex) : Sm := fun e => (fv e).so fun p => match getOwn i p.2.2 with
  | some _ => (fk p.2.2).so fun q => match getOwn i q.2.2, q.1 with
    | some ds, .int k => (match ixN ds.length k with
      | some j => .nx (q.2.2.set i (some (.own (ds.set j p.1))))
      | none => .bad)
    | _, _ => .bad
  | _ => .bad
/-- x[k] -/
def eIxO (i : Nat) (fk : Ex) : Ex := fun e => match getOwn i e with
  | some _ => (fk e).bind fun q => match getOwn i q.2.2, q.1 with
    | some ds, .int k => (match atI ds k with
      | some d => .ok (d, false, q.2.2)
      | none => .bad)
    | _, _ => .bad
  | _ => .bad
def eLenO (i : Nat) : Ex := fun e => match getOwn i e with
  | some ds => .ok (.int ds.length, false, e)
  | _ => .bad
/-- x == [], x != [] -/
def eEmpO (neg : Bool) (i : Nat) : Ex := fun e => match getOwn i e with
  | some ds => (match toP (.lst ds) with
    | some p => if SeqAt.shaped p = true then .ok (.bl (neg != ds.isEmpty), false, e) else .bad
    | _ => .bad)
  | _ => .bad
/-- return x -/
def sRetO (i : Nat) : Sm := fun e => match getOwn i e with
  | some ds => .ret (.lst ds) true (e.set i none)
  | _ => .bad
/-- x, y = a, b -/
def sPar (i j : Nat) (f : Ea) : Sm := fun e => (f e).so fun p => match p.1 with
  | [a, b] => .nx ((p.2.set i (some (.val a))).set j (some (.val b)))
  | _ => .bad
def sPar3 (i j l : Nat) (f : Ea) : Sm := fun e => (f e).so fun p => match p.1 with
  | [a, b, c] => .nx (((p.2.set i (some (.val a))).set j (some (.val b))).set l (some (.val c)))
  | _ => .bad

section
variable {g : Gc} {as bs : List Nat} {H H1 H2 : Hp} {X X1 X2 : Px} {ow ow1 ow2 : Nat → Addr} {e e1 e2 : En} {σ σ1 : St}
theorem get_set_self {e : En} {i : Nat} {x : Option SV} {sv : SV} (q : (e.set i x)[i]? = some (some sv)) : x = some sv := by
  rw [List.getElem?_set] at q
  split at q
  · split at q
    · exact Option.some.inj q
    · cases q
  · rename_i z; exact absurd rfl z
/-- the own list's content is another one -/
theorem ER.put {i : Nat} {ds0 ds : List D} {vs : List V} (er : ER g H X ow σ e) (hi : e[i]? = some (some (.own ds0))) (r : Reps g H X vs ds) (hl : vs.length ≤ sizeLine) : Po g X ow σ e (e.set i (some (.own ds))) H (upd H (ow i) (.lst vs)) := by
  obtain ⟨v0, hv0, e0, x0, vs0, h0, r0⟩ := er.sl _ _ hi
  have ilt : i < e.length := (List.getElem?_eq_some_iff.mp hi).1
  have ne : ∀ a, ¬ X a → a ≠ ow i := fun a nx z => nx (by rw [z]; exact x0)
  have r2 : Reps g (upd H (ow i) (.lst vs)) X vs ds := reps_to (fun a o q nx => by rw [upd_ne (ne a nx)]; exact q) (fun _ _ z => z) r
  refine ⟨⟨by rw [List.length_set]; exact er.len, fun a x => ?_, er.sep.put h0 hl, fun j sv q => ?_, fun j k s t q1 q2 m1 m2 z => ?_⟩, ⟨by rw [List.length_set], fun j sv q => ?_, fun j sv q => ?_⟩, fun b o q n => ?_⟩
  · by_cases ha : a = ow i
    · rw [ha, upd_same]; simp
    · rw [upd_ne ha]; exact er.xs a x
  · by_cases hj : i = j
    · subst hj
      cases get_set_self q
      exact ⟨.ref (ow i), by rw [← e0]; exact hv0, rfl, x0, vs, upd_same, r2⟩
    · rw [List.getElem?_set_ne hj] at q
      obtain ⟨v, h1, h2⟩ := er.sl j sv q
      refine ⟨v, h1, h2.to (fun a o q nx => by rw [upd_ne (ne a nx)]; exact q) (fun m o q3 => ?_) (fun _ _ z => z) fun m => h2.x m⟩
      rw [upd_ne]
      · exact q3
      · intro z
        exact hj (er.ap j i sv _ q hi m rfl z).symm
  · have f : ∀ (j : Nat) s, (e.set i (some (.own ds)))[j]? = some (some s) → s.mut = true → ∃ s0, e[j]? = some (some s0) ∧ s0.mut = true := fun j s q m => by
      by_cases hj : i = j
      · subst hj
        exact ⟨_, hi, rfl⟩
      · rw [List.getElem?_set_ne hj] at q
        exact ⟨s, q, m⟩
    obtain ⟨s0, q1', m1'⟩ := f j s q1 m1
    obtain ⟨t0, q2', m2'⟩ := f k t q2 m2
    exact er.ap j k s0 t0 q1' q2' m1' m2' z
  · by_cases hj : i = j
    · subst hj
      cases get_set_self q
      exact ⟨_, hi, rfl, fun z => nomatch z⟩
    · rw [List.getElem?_set_ne hj] at q
      exact ⟨sv, q, rfl, fun _ => rfl⟩
  · by_cases hj : i = j
    · subst hj
      exact ⟨_, List.getElem?_set_self ilt⟩
    · exact ⟨sv, by rw [List.getElem?_set_ne hj]; exact q⟩
  · rw [upd_ne (n i _ hi rfl)]
    exact q
theorem ER.at {i : Nat} {ds : List D} (er : ER g H X ow σ e) (hi : getOwn i e = some ds) : σ[i]? = some (some (.ref (ow i))) ∧ X (ow i) ∧ ∃ vs, H (ow i) = some (.lst vs) ∧ Reps g H X vs ds := by
  obtain ⟨v0, hv0, e0, x0, vs0, h0, r0⟩ := er.sl _ _ (getOwn_eq hi)
  subst e0
  exact ⟨hv0, x0, vs0, h0, r0⟩
theorem ER.fz (er : ER g H X ow σ e) (i : Nat) : ∃ X', ER g H X' ow σ (fz i e) ∧ Trn g [i] H X ow e H X' ow (fz i e) := by
  unfold G.fz
  split
  · rename_i ds hi
    obtain ⟨v0, hv0, e0, x0, vs0, h0, r0⟩ := er.sl _ _ hi
    have rw0 : ∀ {v d}, Rep g H X v d → Rep g H (fun a => X a ∧ a ≠ ow i) v d := fun r => rep_to (fun _ _ q _ => q) (fun _ _ z => z.1) r
    have key : ∀ (j : Nat) s, (e.set i (some (.val (.lst ds))))[j]? = some (some s) → s.mut = true → e[j]? = some (some s) ∧ i ≠ j := fun j s q m => by
      by_cases hj : i = j
      · subst hj
        cases get_set_self q
        cases m
      · rw [List.getElem?_set_ne hj] at q
        exact ⟨q, hj⟩
    refine ⟨fun a => X a ∧ a ≠ ow i, ⟨by rw [List.length_set]; exact er.len, fun a x => er.xs a x.1, er.sep, fun j sv q => ?_, fun j k s t q1 q2 m1 m2 z => ?_⟩, ⟨.refl, fun _ n => n, fun a x => ?_, fun a _ x => x.1, fun j s q m => ?_, fun j hj => ?_⟩⟩
    · by_cases hj : i = j
      · subst hj
        cases get_set_self q
        subst e0
        exact ⟨_, hv0, .lst (fun z => z.2 rfl) h0 (reps_to (fun _ _ q _ => q) (fun _ _ z => z.1) r0)⟩
      · rw [List.getElem?_set_ne hj] at q
        obtain ⟨v, h1, h2⟩ := er.sl j sv q
        refine ⟨v, h1, h2.to (fun _ _ q _ => q) (fun _ _ q => q) (fun _ _ z => z.1) fun m => ⟨h2.x m, fun z => hj (er.ap j i sv _ q hi m rfl z).symm⟩⟩
    · obtain ⟨q1', _⟩ := key j s q1 m1
      obtain ⟨q2', _⟩ := key k t q2 m2
      exact er.ap j k s t q1' q2' m1 m2 z
    · by_cases ha : a = ow i
      · exact .inr ⟨i, _, hi, rfl, ha, by simp⟩
      · exact .inl ⟨x, ha⟩
    · exact .inl ⟨s, (key j s q m).1, m, rfl⟩
    · have n1 : i ≠ j := fun z => hj (by simp [z])
      rw [List.getElem?_set_ne n1]
      exact ⟨fun sv q => ⟨sv, q, rfl⟩, fun sv q m => ⟨rfl, sv, q, m⟩⟩
  · exact ⟨X, er, .refl⟩
end
section
variable {X : Cx} {g : Gc} (hg : g.K = X.K)
theorem rdS.fz {i : Nat} {f : Sm} {as : List Nat} {Dn : Ends} {σ : St} {H : Hp} (h : rdS g (sFz i f) (i :: as) Dn σ H) : rdS g f as Dn σ H := by
  obtain ⟨e, Xx, ow, er, h⟩ := h
  obtain ⟨X', er', t⟩ := er.fz i
  exact rdS.go er er' (t.mono (bs := i :: as) fun j hj => by simp at hj; simp [hj]) (fun j hj => List.mem_cons_of_mem _ hj) h (fun _ _ q => q) (fun _ _ q => q) (fun _ _ q => q) fun _ _ q => q
theorem ds_fz {i : Nat} {st : Stmt} {f : Sm} {as : List Nat} (h : DS X g st f as) : DS X g st (sFz i f) (i :: as) := ⟨⟨fun pins s σ H Dn I hq => h.ps.run pins s σ H Dn I (rdS.fz hq)⟩⟩
theorem dss_fz {i : Nat} {st : List Stmt} {f : Sm} {as : List Nat} (h : DSs X g st f as) : DSs X g st (sFz i f) (i :: as) := ⟨⟨fun pins s σ H Dn I hq => h.pss.run pins s σ H Dn I (rdS.fz hq)⟩⟩
include hg
theorem ds_app {i : Nat} {x : Str} {ep p1 p2 p3 : Pos} {a : Expr} {fa : Ea} (hN : X.N[i]? = some x := by rfl) (hv : Vis X.env.scope x := by first | exact Or.inl rfl | exact Or.inr (Or.inl rfl) | exact Or.inr (Or.inr rfl)) (ha : DA X g [a] fa)
    (hd : (x == ("__debug__" : Str)) = false := by decide) (hcd : (x == ("__classdict__" : Str)) = false := by decide)
    (hbase : attributeBase (.Name x p1) "append" X.env (eval (.Name x p1) X.env) = eval (.Name x p1) X.env := by rfl)
    (hfew : ((backTo p3 (starEach [a] X.env)).all (fun x => !x.1) && (backToKw p3 (keywordEach [] X.env)).all (fun x => x.1.isSome) && decide ([a].length + ([] : List Keyword).length + (if ([] : List Keyword).isEmpty then 0 else 1) < 30)) = true := by rfl)
    (hline : (p2.endLine == p3.line) = true := by rfl) (hs : starEach [a] X.env = (false, eval a X.env) :: starEach [] X.env := by rfl) (hplain : (backTo p3 (starEach [] X.env)).any (·.1) = false := by rfl)
    (hsw : swapsWith (.Call (.Attribute (.Name x p1) "append" p2) [a] [] p3) none ep.line X.env = pure false := by rfl) :
    DS X g (.Expr (.Call (.Attribute (.Name x p1) "append" p2) [a] [] p3) ep) (sApp i fa) [] := by
  refine ⟨PS.by hg (ps_expr (pe_bm PySem.F.plainAttrs_list PySem.F.slot_list_append PySem.F.type_list_append mt_append (pe_var hN hv hd hcd) ha.pa hbase hfew hline hs hplain) hsw) fun Dn σ H h => ?_⟩
  obtain ⟨e, Xx, ow, er, h⟩ := h
  unfold sApp at h
  split at h
  · rename_i ds0 hi
    obtain ⟨h1, h2, vs, h3, r⟩ := er.at hi
    refine ⟨_, h1, .inl ⟨rfl, vs, by exact .of h3⟩, e, Xx, ow, er, (Ro.so_all.mp h).mono fun p h => ?_⟩
    intro ws H1 po rv
    split at h
    · rename_i ds d hi2 hd2
      split at h
      · rename_i hl
        rw [hd2] at rv
        cases rv with
        | cons a b =>
          cases b
          obtain ⟨h4, h5, vs2, h6, r2⟩ := po.er.at hi2
          refine ⟨_, vs2, _, rfl, rfl, h6, by rw [r2.length]; exact hl, fun s => ?_⟩
          have pp := po.er.put (getOwn_eq hi2) (r2.append (.cons a .nil)) (by simp; rw [r2.length]; omega)
          exact h _ Xx ow σ pp.er (Po.trn er (po.trans pp))
      · exact False.elim h
    · exact False.elim h
  · exact False.elim h
theorem ds_ext {i : Nat} {x : Str} {ep p1 p2 p3 : Pos} {a : Expr} {fa : Ea} (hN : X.N[i]? = some x := by rfl) (hv : Vis X.env.scope x := by first | exact Or.inl rfl | exact Or.inr (Or.inl rfl) | exact Or.inr (Or.inr rfl)) (ha : DA X g [a] fa)
    (hd : (x == ("__debug__" : Str)) = false := by decide) (hcd : (x == ("__classdict__" : Str)) = false := by decide)
    (hbase : attributeBase (.Name x p1) "extend" X.env (eval (.Name x p1) X.env) = eval (.Name x p1) X.env := by rfl)
    (hfew : ((backTo p3 (starEach [a] X.env)).all (fun x => !x.1) && (backToKw p3 (keywordEach [] X.env)).all (fun x => x.1.isSome) && decide ([a].length + ([] : List Keyword).length + (if ([] : List Keyword).isEmpty then 0 else 1) < 30)) = true := by rfl)
    (hline : (p2.endLine == p3.line) = true := by rfl) (hs : starEach [a] X.env = (false, eval a X.env) :: starEach [] X.env := by rfl) (hplain : (backTo p3 (starEach [] X.env)).any (·.1) = false := by rfl)
    (hsw : swapsWith (.Call (.Attribute (.Name x p1) "extend" p2) [a] [] p3) none ep.line X.env = pure false := by rfl) :
    DS X g (.Expr (.Call (.Attribute (.Name x p1) "extend" p2) [a] [] p3) ep) (sExt i fa) [] := by
  refine ⟨PS.by hg (ps_expr (pe_bm PySem.F.plainAttrs_list PySem.F.slot_list_extend PySem.F.type_list_extend mt_extend (pe_var hN hv hd hcd) ha.pa hbase hfew hline hs hplain) hsw) fun Dn σ H h => ?_⟩
  obtain ⟨e, Xx, ow, er, h⟩ := h
  unfold sExt at h
  split at h
  · rename_i ds0 hi
    obtain ⟨h1, h2, vs, h3, r⟩ := er.at hi
    refine ⟨_, h1, .inl ⟨rfl, vs, by exact .of h3⟩, e, Xx, ow, er, (Ro.so_all.mp h).mono fun p h => ?_⟩
    intro ws H1 po rv
    split at h
    · rename_i ds es hi2 hd2
      split at h
      · rename_i hl
        rw [hd2] at rv
        cases rv with
        | cons a b =>
          cases b
          obtain ⟨h4, h5, vs2, h6, r2⟩ := po.er.at hi2
          cases a with
          | lst nx h7 r3 =>
            refine ⟨_, _, vs2, _, rfl, rfl, h6, h7, by rw [r2.length, r3.length]; exact hl, fun s => ?_⟩
            have pp := po.er.put (getOwn_eq hi2) (r2.append r3) (by rw [List.length_append, r2.length, r3.length]; exact hl)
            exact h _ Xx ow σ pp.er (Po.trn er (po.trans pp))
      · exact False.elim h
    · exact False.elim h
  · exact False.elim h
theorem ds_put {i : Nat} {x : Str} {p1 p2 pos : Pos} {v k : Expr} {fv fk : Ex} (hN : X.N[i]? = some x := by rfl) (hv : Vis X.env.scope x := by first | exact Or.inl rfl | exact Or.inr (Or.inl rfl) | exact Or.inr (Or.inr rfl)) (he : DE X g v fv) (hk : DE X g k fk)
    (hd : (x == ("__debug__" : Str)) = false := by decide) (hcd : (x == ("__classdict__" : Str)) = false := by decide)
    (ha : ∀ w, assign (.Subscript (.Name x p1) k p2) X.env w = (do
      let ov ← holding [w] (eval (.Name x p1) X.env)
      let iv ← holding [w, ov] (eval k X.env)
      standAt p2
      holding [w, ov, iv] (setItem ov iv w)
      release [w, ov, iv] []) := by intro _; rfl)
    (hs : swapsWithSole [.Subscript (.Name x p1) k p2] v pos.line X.env = pure false := by rfl) (hw : swappedStores [.Subscript (.Name x p1) k p2] v X.env = pure none := by rfl)
    (h1 : (assignEach [.Subscript (.Name x p1) k p2] X.env).map (·.2) = [assign (.Subscript (.Name x p1) k p2) X.env] := by rfl) : DS X g (.Assign [.Subscript (.Name x p1) k p2] v pos) (sPut i fv fk) [] := by
  refine ⟨PS.by hg (ps_asg he.pe (pg_sub (pe_var hN hv hd hcd) hk.pe set_list ha) hs hw h1) fun Dn σ H h => ?_⟩
  obtain ⟨e, Xx, ow, er, h⟩ := h
  refine ⟨e, Xx, ow, er, (Ro.so_all.mp h).mono fun p h => ?_⟩
  intro y H1 po rv
  split at h
  · rename_i ds0 hi
    obtain ⟨h1, h2, vs, h3, r⟩ := po.er.at hi
    refine ⟨_, h1, p.2.2, Xx, ow, po.er, (Ro.so_all.mp h).mono fun q h => ?_⟩
    intro z H2 po2 rv2
    split at h
    · rename_i ds k hi2 hd2
      split at h
      · rename_i j hj
        have r3 := rv2.1.1
        rw [hd2] at r3
        cases r3
        obtain ⟨h4, h5, vs2, h6, r2⟩ := po2.er.at hi2
        refine ⟨_, vs2, k, j, rfl, rfl, h6, by rw [r2.length]; exact hj, fun s => ?_⟩
        have pp := po2.er.put (getOwn_eq hi2) (Reps.set (Kp.rep po.er po2.kp rv.1.1) j r2) (by rw [List.length_set]; exact po2.er.sep.l _ _ (.of h6))
        exact h _ Xx ow σ pp.er (Po.trn er ((po.trans po2).trans pp))
      · exact False.elim h
    · exact False.elim h
  · exact False.elim h
/-! ### looks -/
theorem de_ixO {i : Nat} {x : Str} {p1 pos : Pos} {k : Expr} {fk : Ex} (hN : X.N[i]? = some x := by rfl) (hv : Vis X.env.scope x := by first | exact Or.inl rfl | exact Or.inr (Or.inl rfl) | exact Or.inr (Or.inr rfl)) (hk : DE X g k fk)
    (hd : (x == ("__debug__" : Str)) = false := by decide) (hcd : (x == ("__classdict__" : Str)) = false := by decide) (hs : PlainIx k := by exact fun _ _ => rfl) : DE X g (.Subscript (.Name x p1) k pos) (eIxO i fk) := by
  refine ⟨PE.by hg (pe_ix ix_list (pe_var hN hv hd hcd) hk.pe hs) fun σ H Q h => ?_⟩
  obtain ⟨e, Xx, ow, er, h⟩ := h
  unfold eIxO at h
  split at h
  · rename_i ds0 hi
    obtain ⟨h1, h2, vs, h3, r⟩ := er.at hi
    refine ⟨_, h1, e, Xx, ow, er, (Ro.all_bind.mp h).mono fun p h => ?_⟩
    intro y H1 po rv
    split at h
    · rename_i ds k hi2 hd2
      split at h
      · rename_i d hd3
        have r3 := rv.1.1
        rw [hd2] at r3
        cases r3
        obtain ⟨h4, h5, vs2, h6, r2⟩ := po.er.at hi2
        obtain ⟨w, hw, rw'⟩ := atI_rep r2 hd3
        exact ⟨_, vs2, k, w, rfl, rfl, .of h6, hw, fun s => h w H1 po (.old rw')⟩
      · exact False.elim h
    · exact False.elim h
  · exact False.elim h
theorem de_lenO {i : Nat} {x : Str} {p p1 pos : Pos} (hm : X.mg "len" = none) (hN : X.N[i]? = some x := by rfl) (hv : Vis X.env.scope x := by first | exact Or.inl rfl | exact Or.inr (Or.inl rfl) | exact Or.inr (Or.inr rfl))
    (hd : (x == ("__debug__" : Str)) = false := by decide) (hcd : (x == ("__classdict__" : Str)) = false := by decide) (hgl : Gl X "len" := by rfl)
    (he : starEach [.Name x p1] X.env = (false, eval (.Name x p1) X.env) :: starEach [] X.env := by rfl) (hpl : (backTo pos (starEach [] X.env)).any (·.1) = false := by rfl) : DE X g (.Call (.Name "len" p) [.Name x p1] [] pos) (eLenO i) := by
  refine ⟨PE.by hg (pe_callB call_len hgl hm boot_len (pa_cons (pe_var hN hv hd hcd) pa_nil he) (by decide) (by decide) he hpl) fun σ H Q h => ?_⟩
  obtain ⟨e, Xx, ow, er, h⟩ := h
  unfold eLenO at h
  split at h
  · rename_i ds0 hi
    obtain ⟨h1, h2, vs, h3, r⟩ := er.at hi
    exact ⟨_, h1, _, _, rfl, .inl ⟨vs, .of h3, rfl⟩, fun s => by rw [r.length]; exact h _ H (.refl er) (.old (.int _))⟩
  · exact False.elim h
omit hg in
theorem eqv_nil (ds : List PyData) : PyData.eqv (.list ds) (.list []) = ds.isEmpty := by
  cases ds <;> simp [PyData.eqv, PyData.eqvAll]
omit hg in
theorem toPs_len : ∀ {ds : List D} {ps : List PyData}, toPs ds = some ps → ps.length = ds.length
  | [], _, h => by cases h; rfl
  | d :: r, _, h => by
    obtain ⟨p, qs, _, e2, e3⟩ := toPs_cons h
    subst e3
    exact congrArg Nat.succ (toPs_len e2)
omit hg in
theorem ER.look {H : Hp} {Xx : Px} {ow : Nat → Addr} {σ : St} {e : En} {i : Nat} {ds : List D} (er : ER g H Xx ow σ e) (hi : getOwn i e = some ds) : Rep g H (fun a => Xx a ∧ a ≠ ow i) (.ref (ow i)) (.lst ds) := by
  obtain ⟨h1, h2, vs, h3, r⟩ := er.at hi
  exact .lst (fun z => z.2 rfl) h3 (reps_to (fun _ _ q _ => q) (fun _ _ z => z.1) r)
omit hg in
theorem shaped_nil : SeqAt.shaped (.list []) = true := by decide
theorem de_empEq {i : Nat} {x : Str} {p1 p2 pos : Pos} (hu : X.A.units + 64 < cLine) (hN : X.N[i]? = some x := by rfl) (hv : Vis X.env.scope x := by first | exact Or.inl rfl | exact Or.inr (Or.inl rfl) | exact Or.inr (Or.inr rfl))
    (hd : (x == ("__debug__" : Str)) = false := by decide) (hcd : (x == ("__classdict__" : Str)) = false := by decide) : DE X g (.Compare (.Name x p1) [.Eq] [.List [] p2] pos) (eEmpO false i) := by
  refine ⟨PE.by hg (pe_cmpR (op_eqD hu) (pe_var hN hv hd hcd) (pe_lst pa_nil) (nomark _)) fun σ H Q h => ?_⟩
  obtain ⟨e, Xx, ow, er, h⟩ := h
  unfold eEmpO at h
  split at h
  · rename_i ds hi
    split at h
    · rename_i p hp
      split at h
      · rename_i hs
        obtain ⟨h1, h2, vs, h3, r⟩ := er.at hi
        refine ⟨_, h1, by show 0 ≤ sizeLine; exact Nat.zero_le _, fun q n => ?_⟩
        obtain ⟨ps, e1, e2⟩ := Option.map_eq_some_iff.mp (show (toPs ds).map PyData.list = some p from hp)
        subst e2
        refine ⟨_, _, by rw [← hg]; exact rep_dp ((er.look hi).same (same_upd hg n)) _ hp, .lst (.of upd_same) .nil, hs, shaped_nil, fun s => ?_⟩
        have e3 : PyData.eqv (.list ps) (.list []) = (false != ds.isEmpty) := by
          rw [eqv_nil]
          have := toPs_len e1
          cases ps <;> cases ds <;> first | rfl | (simp at this)
        rw [e3]
        exact h _ _ (.of er (same_upd hg n) s) (.old (.bl _))
      · exact False.elim h
    · exact False.elim h
  · exact False.elim h
theorem de_empNe {i : Nat} {x : Str} {p1 p2 pos : Pos} (hu : X.A.units + 64 < cLine) (hN : X.N[i]? = some x := by rfl) (hv : Vis X.env.scope x := by first | exact Or.inl rfl | exact Or.inr (Or.inl rfl) | exact Or.inr (Or.inr rfl))
    (hd : (x == ("__debug__" : Str)) = false := by decide) (hcd : (x == ("__classdict__" : Str)) = false := by decide) : DE X g (.Compare (.Name x p1) [.NotEq] [.List [] p2] pos) (eEmpO true i) := by
  refine ⟨PE.by hg (pe_cmpR (op_neD hu) (pe_var hN hv hd hcd) (pe_lst pa_nil) (nomark _)) fun σ H Q h => ?_⟩
  obtain ⟨e, Xx, ow, er, h⟩ := h
  unfold eEmpO at h
  split at h
  · rename_i ds hi
    split at h
    · rename_i p hp
      split at h
      · rename_i hs
        obtain ⟨h1, h2, vs, h3, r⟩ := er.at hi
        refine ⟨_, h1, by show 0 ≤ sizeLine; exact Nat.zero_le _, fun q n => ?_⟩
        obtain ⟨ps, e1, e2⟩ := Option.map_eq_some_iff.mp (show (toPs ds).map PyData.list = some p from hp)
        subst e2
        refine ⟨_, _, by rw [← hg]; exact rep_dp ((er.look hi).same (same_upd hg n)) _ hp, .lst (.of upd_same) .nil, hs, shaped_nil, fun s => ?_⟩
        have e3 : (!PyData.eqv (.list ps) (.list [])) = (true != ds.isEmpty) := by
          rw [eqv_nil]
          have := toPs_len e1
          cases ps <;> cases ds <;> first | rfl | (simp at this)
        rw [e3]
        exact h _ _ (.of er (same_upd hg n) s) (.old (.bl _))
      · exact False.elim h
    · exact False.elim h
  · exact False.elim h
omit hg in
theorem ER.drop {H : Hp} {Xx : Px} {ow : Nat → Addr} {σ : St} {e : En} (er : ER g H Xx ow σ e) (i : Nat) : ER g H Xx ow σ (e.set i none) := by
  have f : ∀ (j : Nat) s, (e.set i none)[j]? = some (some s) → e[j]? = some (some s) ∧ i ≠ j := fun j s q => by
    by_cases hj : i = j
    · subst hj
      exact nomatch (get_set_self q)
    · rw [List.getElem?_set_ne hj] at q
      exact ⟨q, hj⟩
  exact ⟨by rw [List.length_set]; exact er.len, er.xs, er.sep, fun j sv q => er.sl j sv (f j sv q).1, fun j k s t q1 q2 => er.ap j k s t (f j s q1).1 (f k t q2).1⟩
/-- return x, x a list of one's own -/
theorem ds_retO {i : Nat} {x : Str} {p1 pos : Pos} (hN : X.N[i]? = some x := by rfl) (hv : Vis X.env.scope x := by first | exact Or.inl rfl | exact Or.inr (Or.inl rfl) | exact Or.inr (Or.inr rfl))
    (hd : (x == ("__debug__" : Str)) = false := by decide) (hcd : (x == ("__classdict__" : Str)) = false := by decide) : DS X g (.Return (some (.Name x p1)) pos) (sRetO i) [i] := by
  refine ⟨PS.by hg (ps_ret (pe_var hN hv hd hcd)) fun Dn σ H h => ?_⟩
  obtain ⟨e, Xx, ow, er, h⟩ := h
  unfold sRetO at h
  split at h
  · rename_i ds hi
    obtain ⟨h1, h2, vs, h3, r⟩ := er.at hi
    refine ⟨_, h1, fun s => ?_⟩
    have hq := getOwn_eq hi
    have f : ∀ (j : Nat) s, (e.set i none)[j]? = some (some s) → e[j]? = some (some s) ∧ i ≠ j := fun j s q => by
      by_cases hj : i = j
      · subst hj
        exact nomatch (get_set_self q)
      · rw [List.getElem?_set_ne hj] at q
        exact ⟨q, hj⟩
    have er2 : ∀ Y : Px, (∀ a, Y a → Xx a) → (∀ a, Xx a → a ≠ ow i → Y a) → ER g H Y ow σ (e.set i none) := fun Y y1 y2 =>
      ⟨by rw [List.length_set]; exact er.len, fun a y => er.xs a (y1 a y), er.sep, fun j sv q => by
        obtain ⟨q, hj⟩ := f j sv q
        obtain ⟨v, z1, z2⟩ := er.sl j sv q
        exact ⟨v, z1, z2.to (fun _ _ q _ => q) (fun _ _ q => q) (fun _ _ z => y1 _ z) fun m => y2 _ (z2.x m) fun z => hj (er.ap j i sv _ q hq m rfl z).symm⟩, fun j k s t q1 q2 => er.ap j k s t (f j s q1).1 (f k t q2).1⟩
    have ra := er.look hi
    refine h (.ref (ow i)) H (fun a => Xx a ∧ a ≠ ow i) ow σ (er2 _ (fun _ y => y.1) fun a x n => ⟨x, n⟩) ⟨.refl, fun _ n => n, fun a x => ?_, fun _ _ x => x.1, fun j s q m => .inl ⟨s, (f j s q).1, m, rfl⟩, fun j hj => ?_⟩ ⟨ra, fun _ => ⟨ow i, vs, ds, rfl, rfl, h3, ?_, er2 _ ?_ ?_, .inr ⟨i, _, hq, rfl, rfl, by simp⟩⟩⟩
    · by_cases ha : a = ow i
      · exact .inr ⟨i, _, hq, rfl, ha, by simp⟩
      · exact .inl ⟨x, ha⟩
    · have n1 : i ≠ j := fun z => hj (by simp [z])
      rw [List.getElem?_set_ne n1]
      exact ⟨fun sv q => ⟨sv, q, rfl⟩, fun sv q m => ⟨rfl, sv, q, m⟩⟩
    · refine reps_to (fun _ _ q _ => q) (fun a _ z => ?_) r
      rcases z with z | z
      · exact z.1
      · rw [z]; exact h2
    · rintro a (z | z)
      · exact z.1
      · rw [z]; exact h2
    · intro a x n
      exact .inl ⟨x, n⟩
  · exact False.elim h
/-! ### x, y = a, b -/
theorem ds_par {i j : Nat} {x y : Str} {a b : Expr} {fa : Ea} {px py pt pos : Pos} {kt k2 pt2} (hc : X.calm = true) (hN : X.N.Nodup) (ha : DA X g [a, b] fa) (hi : X.N[i]? = some x := by rfl) (hj : X.N[j]? = some y := by rfl) (hij : i ≠ j := by decide)
    (hx : X.env.scope.names.lookup x = some .local := by rfl) (hy : X.env.scope.names.lookup y = some .local := by rfl)
    (hw : swappedStores [.Tuple [.Name x px, .Name y py] kt pt] (.Tuple [a, b] k2 pt2) X.env = pure (some [x, y]) := by rfl)
    (hs : swapsWithSole [.Tuple [.Name x px, .Name y py] kt pt] (.Tuple [a, b] k2 pt2) pos.line X.env = pure false := by rfl) : DS X g (.Assign [.Tuple [.Name x px, .Name y py] kt pt] (.Tuple [a, b] k2 pt2) pos) (sPar i j fa) [i, j] := by
  refine ⟨PS.by hg (ps_par hc hN hi hj hij hx hy ha.pa hw hs) fun Dn σ H h => ?_⟩
  obtain ⟨e, Xx, ow, er, h⟩ := h
  refine ⟨e, Xx, ow, er, (Ro.so_all.mp h).mono fun p h => ?_⟩
  intro vs H1 po rv
  split at h
  · rename_i d1 d2 hd
    rw [hd] at rv
    cases rv with
    | cons r1 r =>
      cases r with
      | cons r2 r =>
        cases r
        refine ⟨_, _, rfl, fun s => ?_⟩
        refine h H1 Xx ow _ ((po.er.set i r1).set j r2) ((po.trn er).trans er ?_)
        exact Trn.trans po.er ((po.er.trnSet i (.val d1) rfl).mono (by simp)) (((po.er.set i r1).trnSet j (.val d2) rfl).mono (by simp))
  · exact False.elim h
theorem ds_par3 {i j l : Nat} {x y z : Str} {a b c : Expr} {fa : Ea} {px py pz pt pos : Pos} {kt k2 pt2} (hc : X.calm = true) (hN : X.N.Nodup) (ha : DA X g [a, b, c] fa) (hi : X.N[i]? = some x := by rfl) (hj : X.N[j]? = some y := by rfl) (hl : X.N[l]? = some z := by rfl) (hij : i ≠ j := by decide) (hil : i ≠ l := by decide) (hjl : j ≠ l := by decide)
    (hx : X.env.scope.names.lookup x = some .local := by rfl) (hy : X.env.scope.names.lookup y = some .local := by rfl) (hz : X.env.scope.names.lookup z = some .local := by rfl)
    (hw : swappedStores [.Tuple [.Name x px, .Name y py, .Name z pz] kt pt] (.Tuple [a, b, c] k2 pt2) X.env = pure (some [x, y, z]) := by rfl)
    (hs : swapsWithSole [.Tuple [.Name x px, .Name y py, .Name z pz] kt pt] (.Tuple [a, b, c] k2 pt2) pos.line X.env = pure false := by rfl) : DS X g (.Assign [.Tuple [.Name x px, .Name y py, .Name z pz] kt pt] (.Tuple [a, b, c] k2 pt2) pos) (sPar3 i j l fa) [i, j, l] := by
  refine ⟨PS.by hg (ps_par3 hc hN hi hj hl hij hil hjl hx hy hz ha.pa hw hs) fun Dn σ H h => ?_⟩
  obtain ⟨e, Xx, ow, er, h⟩ := h
  refine ⟨e, Xx, ow, er, (Ro.so_all.mp h).mono fun p h => ?_⟩
  intro vs H1 po rv
  split at h
  · rename_i d1 d2 d3 hd
    rw [hd] at rv
    cases rv with
    | cons r1 r =>
      cases r with
      | cons r2 r =>
        cases r with
        | cons r3 r =>
          cases r
          refine ⟨_, _, _, rfl, fun s => ?_⟩
          refine h H1 Xx ow _ (((po.er.set i r1).set j r2).set l r3) ((po.trn er).trans er ?_)
          exact Trn.trans po.er (Trn.trans po.er ((po.er.trnSet i (.val d1) rfl).mono (by simp)) (((po.er.set i r1).trnSet j (.val d2) rfl).mono (by simp))) ((((po.er.set i r1).set j r2).trnSet l (.val d3) rfl).mono (by simp))
  · exact False.elim h
end
end G

/-! Defs: their promise by a function on data, calls. -/
namespace G
open PySem PySem.Spec PyProof.Rows L2
abbrev Fn := List D → Ro (D × Bool × List D)
def initE (np n : Nat) (jp : Bool) (ds : List D) : Option En :=
  if ds.length = np then (match jp, ds with
    | false, ds => some (ds.map (fun d => some (.val d)) ++ List.replicate (n - ds.length) none)
    | true, .lst jc :: r => some (some (.own jc) :: (r.map (fun d => some (.val d)) ++ List.replicate (n - (r.length + 1)) none))
    | _, _ => none) else none
def finE (jp : Bool) (d : D) (fr : Bool) (e : En) : Ro (D × Bool × List D) := if jp = true then (match getOwn 0 e with
    | some jc => .ok (d, fr, jc)
    | none => .bad) else .ok (d, fr, [])
def runFn (np n : Nat) (jp : Bool) (f : Sm) : Fn := fun ds => match initE np n jp ds with
  | some e => (match f e with
    | .nx e' => finE jp .non false e'
    | .ret d fr e' => finE jp d fr e'
    | _ => .bad)
  | none => .bad

/-- arguments: data; where jp, the first one is a list that the def may change -/
def ArgOk (g : Gc) (H : Hp) (X : Px) (jp : Bool) (vs : List V) (ds : List D) : Prop :=
  (jp = false ∧ Reps g H X vs ds) ∨ (jp = true ∧ ∃ J vr jc dr jv, vs = .ref J :: vr ∧ ds = .lst jc :: dr ∧ X J ∧ H J = some (.lst jv) ∧ Reps g H X jv jc ∧ Reps g H X vr dr)
theorem ArgOk.len {g : Gc} {H : Hp} {X : Px} {jp : Bool} {vs : List V} {ds : List D} (h : ArgOk g H X jp vs ds) : vs.length = ds.length := by
  rcases h with ⟨_, h⟩ | ⟨_, J, vr, jc, dr, jv, rfl, rfl, _, _, _, h⟩
  · exact h.length
  · exact congrArg Nat.succ h.length
structure FnPost (g : Gc) (jp : Bool) (H : Hp) (X : Px) (vs : List V) (H' : Hp) (v : V) (d : D) (fr : Bool) (jc : List D) : Prop where
  keep : ∀ b o, H b = some o → (jp = true → vs.head? ≠ some (.ref b)) → H' b = some o
  al : ∀ a, H a ≠ none → H' a ≠ none
  rep : Rep g H' X v d
  jar : jp = true → ∃ J jv, vs.head? = some (.ref J) ∧ H' J = some (.lst jv) ∧ Reps g H' X jv jc
  fr : fr = true → ∃ a ws es, v = .ref a ∧ d = .lst es ∧ H a = none ∧ H' a = some (.lst ws) ∧ Reps g H' (fun b => X b ∨ b = a) ws es ∧
    (jp = true → ∀ J jv, vs.head? = some (.ref J) → H' J = some (.lst jv) → Reps g H' (fun b => X b ∨ b = a) jv jc)
def spD (g : Gc) (np : Nat) (jp : Bool) (F : Fn) : Sp := fun vs H Q _ => ∃ (X : Px) (ds : List D), ds.length = np ∧ ArgOk g H X jp vs ds ∧ (∀ a, X a → H a ≠ none) ∧ Sep g H ∧
  (F ds).all fun p => ∀ v H', FnPost g jp H X vs H' v p.1 p.2.1 p.2.2 → Q v H'

/-- the def at f does what F says, called where nothing is being shown -/
structure FnG (P : Program) (w : World) (K : PySem.W.Frag) (mg : Str → Option Value) (base : Heap) (g : Gc) (k : Nat) (f : Addr) (fd : FuncData) (ps : List Str) (jp : Bool) (F : Fn) : Prop where
  ar : ∀ ds P, (F ds).all P → ds.length = ps.length
  run : ∀ (A : Around) (outer : List Env) (s : Shared) (H : Hp) (args : Args) (us : List Value) (vs : List V) (Q : VK), Room k A → A.guards = some [] → Env0 P w K mg base A outer s H → BindsTo s fd args (ps.zip us) → Vals vs us →
    spD g ps.length jp F vs H Q E0 → codeAny (model P w) A (.call (.ref f) args) (CR CX0 outer P w H s Q E0) s

section
variable {g : Gc} {H H0 : Hp} {X : Px} {σ : St}
theorem init_sv {np n : Nat} {ds : List D} {e : En} (h : initE np n false ds = some e) : ds.length = np ∧ e = ds.map (fun d => some (.val d)) ++ List.replicate (n - ds.length) none := by
  unfold initE at h
  split at h
  · rename_i hl
    exact ⟨hl, (Option.some.inj h).symm⟩
  · cases h
theorem rep_sv {ds : List D} {m : Nat} {i : Nat} {sv : SV} (q : (ds.map (fun d => some (SV.val d)) ++ List.replicate m none)[i]? = some (some sv)) : ∃ d, ds[i]? = some d ∧ sv = .val d := by
  by_cases hi : i < ds.length
  · rw [List.getElem?_append_left (by simpa using hi), List.getElem?_map] at q
    cases hd : ds[i]? with
    | none => rw [hd] at q; cases q
    | some d =>
      rw [hd] at q
      cases q
      exact ⟨d, rfl, rfl⟩
  · rw [List.getElem?_append_right (by simpa using hi), List.getElem?_replicate] at q
    split at q <;> cases q
theorem start_get {N : List Str} {vs : List V} {i : Nat} {v : V} (h : vs[i]? = some v) : (L2.start N vs)[i]? = some (some v) := by
  have hi : i < vs.length := (List.getElem?_eq_some_iff.mp h).1
  unfold L2.start
  rw [List.getElem?_append_left (by simpa using hi), List.getElem?_map, h]
  rfl
theorem er_start {np : Nat} {N : List Str} {jp : Bool} {vs : List V} {ds : List D} {e : En} (hn : np ≤ N.length) (ha : ArgOk g H X jp vs ds) (hx : ∀ a, X a → H a ≠ none) (hs : Sep g H) (h : initE np N.length jp ds = some e) :
    ∃ ow : Nat → Addr, ER g H X ow (L2.start N vs) e ∧ (∀ (i : Nat) sv, e[i]? = some (some sv) → sv.mut = true → i = 0 ∧ jp = true) ∧ (jp = true → vs.head? = some (.ref (ow 0)) ∧ ∃ jc, e[0]? = some (some (.own jc))) := by
  have hlen := ha.len
  rcases ha with ⟨rfl, r⟩ | ⟨rfl, J, vr, jc, dr, jv, rfl, rfl, xJ, hJ, rj, r⟩
  · obtain ⟨hl, rfl⟩ := init_sv h
    refine ⟨fun _ => 0, ⟨?_, hx, hs, fun i sv q => ?_, fun i j s t q1 q2 m1 => ?_⟩, fun i sv q m => ?_, fun z => nomatch z⟩
    · unfold L2.start
      simp only [List.length_append, List.length_map, List.length_replicate]
      omega
    · obtain ⟨d, hd, rfl⟩ := rep_sv q
      obtain ⟨v, hv, rv⟩ := r.get hd
      exact ⟨v, start_get hv, rv⟩
    · obtain ⟨d, hd, rfl⟩ := rep_sv q1
      cases m1
    · obtain ⟨d, hd, rfl⟩ := rep_sv q
      cases m
  · have he : some (some (.own jc) :: (dr.map (fun d => some (.val d)) ++ List.replicate (N.length - (dr.length + 1)) none)) = some e := by
      unfold initE at h
      split at h
      · exact h
      · cases h
    have hl : dr.length + 1 = np := by
      unfold initE at h
      split at h
      · rename_i z; exact z
      · cases h
    cases he
    have key : ∀ (i : Nat) sv, ((some (.own jc) :: (dr.map (fun d => some (SV.val d)) ++ List.replicate (N.length - (dr.length + 1)) none)) : En)[i]? = some (some sv) → (i = 0 ∧ sv = .own jc) ∨ ∃ j d, i = j + 1 ∧ dr[j]? = some d ∧ sv = .val d := fun i sv q => by
      cases i with
      | zero =>
        simp at q
        exact .inl ⟨rfl, q.symm⟩
      | succ j =>
        obtain ⟨d, hd, e⟩ := rep_sv (i := j) (by simpa using q)
        exact .inr ⟨j, d, rfl, hd, e⟩
    refine ⟨fun _ => J, ⟨?_, hx, hs, fun i sv q => ?_, fun i j s t q1 q2 m1 m2 _ => ?_⟩, fun i sv q m => ?_, fun _ => ⟨rfl, jc, rfl⟩⟩
    · have := r.length
      unfold L2.start
      simp only [List.length_append, List.length_map, List.length_replicate, List.length_cons]
      omega
    · rcases key i sv q with ⟨rfl, rfl⟩ | ⟨j, d, rfl, hd, rfl⟩
      · exact ⟨.ref J, start_get rfl, rfl, xJ, jv, hJ, rj⟩
      · obtain ⟨v, hv, rv⟩ := r.get hd
        exact ⟨v, start_get (by simpa using hv), rv⟩
    · rcases key i s q1 with ⟨rfl, rfl⟩ | ⟨j', d, rfl, hd, rfl⟩
      · rcases key j t q2 with ⟨rfl, rfl⟩ | ⟨j', d, rfl, hd, rfl⟩
        · rfl
        · cases m2
      · cases m1
    · rcases key i sv q with ⟨rfl, rfl⟩ | ⟨j', d, rfl, hd, rfl⟩
      · exact ⟨rfl, rfl⟩
      · cases m
/-- the end of a def's body -/
theorem fn_end {as : List Nat} {jp : Bool} {vs : List V} {e e' : En} {H' : Hp} {X' : Px} {ow ow' : Nat → Addr} {σ' : St} {v : V} {d : D} {fr : Bool} {jc : List D} (er : ER g H X ow σ e) (hm : ∀ (i : Nat) sv, e[i]? = some (some sv) → sv.mut = true → i = 0 ∧ jp = true)
    (hj : jp = true → vs.head? = some (.ref (ow 0)) ∧ ∃ jc, e[0]? = some (some (.own jc))) (h0 : 0 ∉ as) (er' : ER g H' X' ow' σ' e') (t : Trn g as H X ow e H' X' ow' e') (r : RVr g as H ow e H' X' ow' σ' e' v d fr) (hf : finE jp d fr e' = .ok (d, fr, jc)) :
    FnPost g jp H X vs H' v d fr jc := by
  have xx : ∀ a, X a → X' a := fun a x => by
    rcases t.x1 a x with z | ⟨i, sv, q, m, _, hi⟩
    · exact z
    · rw [(hm i sv q m).1] at hi
      exact absurd hi h0
  have jo : jp = true → getOwn 0 e' = some jc := fun z => by
    subst z
    unfold finE at hf
    rw [if_pos rfl] at hf
    split at hf
    · rename_i jc' q
      cases hf
      exact q
    · cases hf
  have jw : jp = true → ow' 0 = ow 0 := fun z => by
    obtain ⟨_, jc0, q⟩ := hj z
    exact ((t.st 0 h0).2 _ q rfl).1
  refine ⟨fun b o q n => t.kp b o q fun i sv q2 m z => ?_, t.al, rep_to (fun _ _ q _ => q) (fun a _ x => xx a x) r.1, fun z => ?_, fun z => ?_⟩
  · obtain ⟨e1, e2⟩ := hm i sv q2 m
    subst e1
    exact n e2 (by rw [z]; exact (hj e2).1)
  · obtain ⟨h1, h2, jv, h3, h4⟩ := er'.at (jo z)
    exact ⟨ow 0, jv, (hj z).1, by rw [← jw z]; exact h3, reps_to (fun _ _ q _ => q) (fun a _ x => xx a x) h4⟩
  · obtain ⟨a, ws, es, e1, e2, q, rr, er2, n⟩ := r.2 z
    refine ⟨a, ws, es, e1, e2, ?_, q, reps_to (fun _ _ q _ => q) (fun b _ x => x.imp (xx b) id) rr, fun y J jv hJ qJ => ?_⟩
    · rcases n with n | ⟨i, sv, q2, m, _, hi⟩
      · exact n
      · rw [(hm i sv q2 m).1] at hi
        exact absurd hi h0
    · obtain ⟨h1, h2, jv', h3, h4⟩ := er2.at (jo y)
      have : J = ow' 0 := by
        rw [(hj y).1] at hJ
        cases hJ
        exact (jw y).symm
      rw [this, h3] at qJ
      cases qJ
      exact reps_to (fun _ _ q _ => q) (fun b _ x => x.imp (xx b) id) h4
end

/-- THE RULE for a def, by its body -/
theorem fng_of {P : Program} {w : World} {K : PySem.W.Frag} {mg : Str → Option Value} {base : Heap} {g : Gc} {k : Nat} {f : Addr} {name qual : Str} {params : Arguments} {body : List Stmt} {scope : Scope} {dV kV doc pm cdv ct oc : Value} {an od : Option Addr} {osl : Array (Option Value)} {N ps : List Str} {jp : Bool} {fb : Sm}
    (hK : K.lookup f = some ⟨oc, od, .func (PySem.W.fnOf name qual params body scope dV kV doc pm an cdv ct), osl⟩) (hcode : PySem.W.codeIn K cdv qual = true) (S : FnScope N ps scope)
    (hbody : ∀ (A : Around) (outer : List Env) (s : Shared) (H : Hp), Room k (A.deeper (envOfC qual scope s.heap.objs.size f cdv)) → A.guards = some [] →
      ∃ as, 0 ∉ as ∧ DSs (cxOf CX0 P w K mg base N qual scope f cdv A outer s H E0).nox g body fb as) :
    FnG P w K mg base g (k + 1) f (PySem.W.fnOf name qual params body scope dV kV doc pm an cdv ct) ps jp (runFn ps.length N.length jp fb) := by
  have hpl : ps.length ≤ N.length := by
    have := congrArg List.length S.pre
    rw [List.length_take] at this
    omega
  refine ⟨fun ds P h => ?_, fun A outer s H args us vs Q hr hgd e0 hb rv hsp => ?_⟩
  · unfold runFn at h
    cases he : initE ps.length N.length jp ds with
    | none => rw [he] at h; exact False.elim h
    | some e =>
      unfold initE at he
      split at he
      · assumption
      · cases he
  obtain ⟨Xx, ds, hnp, hao, hx, hs, hF⟩ := hsp
  have hl : vs.length = ps.length := hao.len.trans hnp
  have KX : K.In s.heap := e0.mod.kin.keeps fun b o q => (e0.bs b o q).1
  have kinds : ∀ y ∈ ps.zip us, scope.names.lookup y.1 = some .local ∨ (scope.names.lookup y.1 = some .cell ∧ ((cellsFrom (s.heap.objs.size + 1) scope.names []).lookup y.1).isSome = true) := by
    rintro ⟨n, u⟩ hy
    exact (S.par n (List.of_mem_zip hy).1).imp id fun z => ⟨z, PySem.W.cellsFrom_some _ _ _ (.inl z)⟩
  refine codeAny_call_function (Room.depth hr) (KX _ _ hK) rfl S.co S.gen rfl (PySem.W.codeRec_of KX hcode) (hb _ _ _ _ (wpAny_newFunctionEnv_cells S.kind kinds fun env he s1 inC => ?_))
  subst he
  refine ⟨(e0.mod.nolimit.keeps fun b o q => (e0.bs b o q).1).keeps inC.toInCall.keep, codeAny_func ?_⟩
  have I : Inv (cxOf CX0 P w K mg base N qual scope f cdv A outer s H E0).nox [] (L2.start N vs) H s1 := (inv_start (E := E0) S hr.hd e0 hl rv inC).wish _
  obtain ⟨as, h0, ht⟩ := hbody A outer s H (hr.deeper _) hgd
  -- what the body is to reach
  have way : rdS g fb as { nx := fun _ H' => Q .non H', rt := Q } (L2.start N vs) H := by
    unfold runFn at hF
    cases he : initE ps.length N.length jp ds with
    | none => rw [he] at hF; exact False.elim hF
    | some e =>
      rw [he] at hF
      dsimp only at hF
      obtain ⟨ow, er, hm, hj⟩ := er_start hpl hao hx hs he
      refine ⟨e, Xx, ow, er, ?_⟩
      have fin : ∀ {d : D} {fr : Bool} {e' : En}, (finE jp d fr e').all (fun p => ∀ v H', FnPost g jp H Xx vs H' v p.1 p.2.1 p.2.2 → Q v H') → rtP g as H Xx ow e Q d fr e' := fun {d fr e'} hq v H' X' ow' σ' er' t r => by
        have hq' := hq
        have hf : ∃ jc, finE jp d fr e' = .ok (d, fr, jc) := by
          unfold finE at hq ⊢
          by_cases hjp : jp = true
          · rw [if_pos hjp] at hq ⊢
            cases hg0 : getOwn 0 e' with
            | some jc => exact ⟨jc, rfl⟩
            | none => rw [hg0] at hq; exact False.elim hq
          · rw [if_neg hjp]
            exact ⟨[], rfl⟩
        obtain ⟨jc, hf⟩ := hf
        rw [hf] at hq'
        exact hq' v H' (fn_end er hm hj h0 er' t r hf)
      cases hfb : fb e with
      | nx e' =>
        rw [hfb] at hF
        exact fun H' X' ow' σ' er' t => fin hF .non H' X' ow' σ' er' t ⟨.non, fun z => nomatch z⟩
      | ret d fr e' =>
        rw [hfb] at hF
        exact fin hF
      | brk e' => rw [hfb] at hF; exact False.elim hF
      | cnt e' => rw [hfb] at hF; exact False.elim hF
      | exc c e' => rw [hfb] at hF; exact False.elim hF
      | bad => rw [hfb] at hF; exact False.elim hF
  refine wpAny_mono (ht.pss.run [] s1 _ H _ I way) (fun fl s' hfl => ?_) fun e s' z => z.elim
  cases fl with
  | ret u =>
    obtain ⟨v, _, H', J, ru, q⟩ := hfl
    exact ⟨v, H', J.os, J.bare, J.base, J.hok, ru, q⟩
  | next =>
    obtain ⟨_, H', J, q⟩ := hfl
    exact ⟨.non, H', J.os, J.bare, J.base, J.hok, rfl, q⟩
  | brk => exact (hfl.elim fun _ z => z.elim fun _ z => z.2).elim
  | cont => exact (hfl.elim fun _ z => z.elim fun _ z => z.2).elim
end G

/-! Calls of defs. -/
namespace G
open PySem PySem.Spec PyProof.Rows L2
/-- the module's name x stands for a def that does what F says -/
structure Kn (P : Program) (w : World) (K : PySem.W.Frag) (mg : Str → Option Value) (base : Heap) (g : Gc) (x : Str) (k np : Nat) (jp : Bool) (F : Fn) : Prop where
  ex : ∃ (f : Addr) (fd : FuncData) (ps : List Str), ps.length = np ∧ FnG P w K mg base g k f fd ps jp F ∧ mg x = some (.ref f) ∧ PySem.W.keepIn K (.ref f) = true ∧ Binds K fd ps []
/-- the class at C has a method m that does what F says (its first argument the instance) -/
structure Km (P : Program) (w : World) (K : PySem.W.Frag) (mg : Str → Option Value) (base : Heap) (g : Gc) (c : Nat) (m : Str) (k np : Nat) (jp : Bool) (F : Fn) : Prop where
  ex : ∃ (f : Addr) (fd : FuncData) (ps : List Str), ps.length = np ∧ FnG P w K mg base g k f fd ps jp F ∧ Cls K (g.cl c) ∧ Meth K (g.cl c) m f ∧ Binds K fd ps []
def eCall (F : Fn) (fa : Ea) : Ex := fun e => (fa e).bind fun p => (F p.1).bind fun r => .ok (r.1, r.2.1, p.2)
/-- the first argument a list of one's own, at slot i -/
def eCallJ (i : Nat) (F : Fn) (fa : Ea) : Ex := fun e => match getOwn i e with
  | some _ => (fa e).bind fun p => match getOwn i p.2 with
    | some jc => (F (.lst jc :: p.1)).bind fun r => .ok (r.1, r.2.1, p.2.set i (some (.own r.2.2)))
    | none => .bad
  | none => .bad
def eMeth (c : Nat) (m : Str) (F : Fn) (fo : Ex) (fa : Ea) : Ex := fun e => (fo e).bind fun o => match o.1 with
  | .obj c' ns ds => if c' = c ∧ m ∉ ns then (fa o.2.2).bind fun p => (F (.obj c' ns ds :: p.1)).bind fun r => .ok (r.1, r.2.1, p.2) else .bad
  | _ => .bad
def eFld (c : Nat) (f : Str) (fo : Ex) : Ex := fun e => (fo e).bind fun o => match o.1 with
  | .obj c' ns ds => if c' = c then (match (ns.zip ds).lookup f with
    | some d => .ok (d, false, o.2.2)
    | none => .bad) else .bad
  | _ => .bad

section
variable {g : Gc} {H H1 : Hp} {X : Px} {ow : Nat → Addr} {σ : St} {e : En}
theorem lookup_rep {vs : List V} {ds : List D} {f : Str} {d : D} : ∀ {ns : List Str}, Reps g H X vs ds → (ns.zip ds).lookup f = some d → ∃ v, (ns.zip vs).lookup f = some v ∧ Rep g H X v d := by
  intro ns r
  induction ns generalizing vs ds with
  | nil => intro h; simp at h
  | cons n ns ih =>
    intro h
    cases r with
    | nil => simp at h
    | cons a b =>
      simp only [List.zip_cons_cons, List.lookup_cons] at h ⊢
      cases hb : f == n with
      | true => rw [hb] at h; cases h; exact ⟨_, rfl, a⟩
      | false => rw [hb] at h; exact ih b h
theorem lookup_not {f : Str} : ∀ {ns : List Str} {vs : List V}, f ∉ ns → (ns.zip vs).lookup f = none
  | [], _, _ => rfl
  | _ :: _, [], _ => rfl
  | n :: ns, v :: vs, h => by
    simp only [List.zip_cons_cons, List.lookup_cons]
    have h1 : (f == n) = false := by
      rw [beq_eq_false_iff_ne]
      exact fun z => h (by rw [z]; exact List.mem_cons_self)
    rw [h1]
    exact lookup_not fun z => h (List.mem_cons_of_mem _ z)
/-- behind a call that may have changed the list at slot i -/
theorem ER.callJ {i : Nat} {jc jc' : List D} {jv : List V} (er : ER g H X ow σ e) (hi : getOwn i e = some jc) (keep : ∀ b o, H b = some o → b ≠ ow i → H1 b = some o) (al : ∀ a, H a ≠ none → H1 a ≠ none) (s : Sep g H1) (hJ : H1 (ow i) = some (.lst jv))
    (Y : Px) (yx : ∀ a, X a → Y a) (yn : ∀ a, Old g H a → Y a → X a) (yh : ∀ a, Y a → H1 a ≠ none) (rj : Reps g H1 Y jv jc') : ER g H1 Y ow σ (e.set i (some (.own jc'))) := by
  have hq := getOwn_eq hi
  obtain ⟨h1, h2, vs, h3, r⟩ := er.at hi
  have k : ∀ a o, H a = some o → ¬ X a → H1 a = some o := fun a o q nx => keep a o q fun z => nx (by rw [z]; exact h2)
  have f : ∀ (j : Nat) s, (e.set i (some (.own jc')))[j]? = some (some s) → ∃ s0, e[j]? = some (some s0) ∧ (s.mut = true → s0.mut = true) := fun j s q => by
    by_cases hj : i = j
    · subst hj
      exact ⟨_, hq, fun _ => rfl⟩
    · rw [List.getElem?_set_ne hj] at q
      exact ⟨s, q, id⟩
  refine ⟨by rw [List.length_set]; exact er.len, yh, s, fun j sv q => ?_, fun j l s t q1 q2 m1 m2 z => ?_⟩
  · by_cases hj : i = j
    · subst hj
      cases get_set_self q
      exact ⟨_, h1, rfl, yx _ h2, jv, hJ, rj⟩
    · rw [List.getElem?_set_ne hj] at q
      obtain ⟨v, z1, z2⟩ := er.sl j sv q
      exact ⟨v, z1, z2.to k (fun m o q3 => keep _ o q3 fun z => hj (er.ap j i sv _ q hq m rfl z).symm) yn fun m => yx _ (z2.x m)⟩
  · obtain ⟨s0, q1', m1'⟩ := f j s q1
    obtain ⟨t0, q2', m2'⟩ := f l t q2
    exact er.ap j l s0 t0 q1' q2' (m1' m1) (m2' m2) z
theorem Kind.put {i : Nat} {jc jc' : List D} (hi : getOwn i e = some jc) : Kind e (e.set i (some (.own jc'))) := by
  have hq := getOwn_eq hi
  refine ⟨by rw [List.length_set], fun j sv q => ?_, fun j sv q => ?_⟩
  · by_cases hj : i = j
    · subst hj
      cases get_set_self q
      exact ⟨_, hq, rfl, fun z => nomatch z⟩
    · rw [List.getElem?_set_ne hj] at q
      exact ⟨sv, q, rfl, fun _ => rfl⟩
  · by_cases hj : i = j
    · subst hj
      exact ⟨_, List.getElem?_set_self (List.getElem?_eq_some_iff.mp hq).1⟩
    · exact ⟨sv, by rw [List.getElem?_set_ne hj]; exact q⟩
theorem FnPost.same {jp : Bool} {vs : List V} {H' : Hp} {v : V} {d : D} {fr : Bool} {jc : List D} (p : FnPost g jp H X vs H' v d fr jc) (hj : jp = false) : Same H H' := fun b o q => p.keep b o q fun z => by rw [hj] at z; cases z
theorem FnPost.rv {vs : List V} {H' : Hp} {v : V} {d : D} {fr : Bool} {jc : List D} (p : FnPost g false H X vs H' v d fr jc) : RV g H H' X v d fr := ⟨p.rep, fun z => by
  obtain ⟨a, ws, es, e1, e2, n, q, r, _⟩ := p.fr z
  exact ⟨a, ws, es, e1, e2, n, q, r⟩⟩
end
section
variable {X : Cx} {g : Gc} (hg : g.K = X.K)
theorem run_fng {k : Nat} {f : Addr} {fd : FuncData} {ps : List Str} {jp : Bool} {Fs : Fn} {pins : List (Addr × Obj)} {σ : St} {H : Hp} {s : Shared} {Q : VK} {us : List Value} {vs : List V} (F : FnG X.prog X.w X.K X.mg X.base g k f fd ps jp Fs) (hr : Room k X.A) (hgd : X.A.guards = some []) (hb : Binds X.K fd ps [])
    (I : Inv X pins σ H s) (rv : Vals vs us) (h : spD g ps.length jp Fs vs H Q E0) : wpAny (model X.prog X.w) X.A (call (.ref f) us) (EP X pins σ Q) X.xe s := by
  have hl : us.length = ps.length := by
    obtain ⟨_, ds, h1, h2, _⟩ := h
    rw [← rv.length, h2.len, h1]
  have bt := hb s us I.kIn (by rw [List.append_nil]; exact hl)
  rw [List.append_nil] at bt
  refine wpAny_call (codeAny_mono (F.run X.A X.stack s H ⟨us, []⟩ us vs Q hr hgd I.env0 bt rv h) fun r s' hq => ?_)
  cases r with
  | error e => exact False.elim hq
  | ok fl =>
    cases fl with
    | ret u => exact I.after hq
    | next => exact False.elim hq
    | brk => exact False.elim hq
    | cont => exact False.elim hq
def tCallG (g : Gc) (np : Nat) (jp : Bool) (F : Fn) (t : TA) : TE := fun σ H Q => t σ H fun vs H1 => spD g np jp F vs H1 Q E0
theorem pe_callG {x : Str} {k np : Nat} {jp : Bool} {F : Fn} {p pos : Pos} {e : Expr} {es : List Expr} {t : TA} (Z : Kn X.prog X.w X.K X.mg X.base g x k np jp F) (hr : Room k X.A) (hgd : X.A.guards = some []) (ha : PA X (e :: es) t)
    (hgl : Gl X x := by rfl) (hdb : (x == ("__debug__" : Str)) = false := by decide) (he : starEach (e :: es) X.env = (false, eval e X.env) :: starEach es X.env := by rfl) (hpl : (backTo pos (starEach es X.env)).any (·.1) = false := by rfl) :
    PE X (.Call (.Name x p) (e :: es) [] pos) (tCallG g np jp F t) := by
  obtain ⟨f, fd, ps, rfl, hF, hm, hkp, hb⟩ := Z.ex
  refine ⟨fun pins s σ H Q I h => ?_⟩
  refine wpAny_Call_Name_kw (ld_glob I hgl hm ?_ hdb)
  exact PySem.W.callWith_K (h₀ := X.base) I.ok.mod.kin hkp (thn (ha.run pos pins s σ H _ I h) fun us s1 ⟨vs, H1, I1, r, q⟩ => ⟨I1.kIn, run_fng hF hr hgd hb I1 r q⟩) he hpl
include hg
theorem de_call {x : Str} {k np : Nat} {F : Fn} {p pos : Pos} {e : Expr} {es : List Expr} {fa : Ea} (Z : Kn X.prog X.w X.K X.mg X.base g x k np false F) (hr : Room k X.A) (hgd : X.A.guards = some []) (ha : DA X g (e :: es) fa) (hn : (e :: es).length = np := by rfl)
    (hgl : Gl X x := by rfl) (hdb : (x == ("__debug__" : Str)) = false := by decide) (he : starEach (e :: es) X.env = (false, eval e X.env) :: starEach es X.env := by rfl) (hpl : (backTo pos (starEach es X.env)).any (·.1) = false := by rfl) :
    DE X g (.Call (.Name x p) (e :: es) [] pos) (eCall F fa) := by
  refine ⟨PE.by hg (pe_callG Z hr hgd ha.pa hgl hdb he hpl) fun σ H Q h => ?_⟩
  obtain ⟨e, Xx, ow, er, h⟩ := h
  obtain ⟨f, fd, ps, hnp, hF, _⟩ := Z.ex
  refine ⟨e, Xx, ow, er, (Ro.all_bind.mp h).mono fun p h => ?_⟩
  intro vs H1 po rv
  have h := Ro.all_bind.mp h
  refine ⟨Xx, p.1, (hF.ar _ _ h).trans hnp, .inl ⟨rfl, rv⟩, po.er.xs, po.er.sep, h.mono fun r h => ?_⟩
  intro v H' pp s
  have sm := pp.same rfl
  exact h v H' (po.trans (.of po.er sm s)) ((RVx.of po.er sm s pp.rv).back er po.er po.kp)
/-- f(jar, ..): the first argument a list of one's own -/
theorem de_callJ {x y : Str} {i k np : Nat} {F : Fn} {p p1 pos : Pos} {es : List Expr} {fa : Ea} (Z : Kn X.prog X.w X.K X.mg X.base g x k np true F) (hr : Room k X.A) (hgd : X.A.guards = some []) (ha : DA X g es fa)
    (hN : X.N[i]? = some y := by rfl) (hv : Vis X.env.scope y := by first | exact Or.inl rfl | exact Or.inr (Or.inl rfl) | exact Or.inr (Or.inr rfl)) (hd : (y == ("__debug__" : Str)) = false := by decide) (hcd : (y == ("__classdict__" : Str)) = false := by decide)
    (hgl : Gl X x := by rfl) (hdb : (x == ("__debug__" : Str)) = false := by decide) (he : starEach (.Name y p1 :: es) X.env = (false, eval (.Name y p1) X.env) :: starEach es X.env := by rfl) (hpl : (backTo pos (starEach es X.env)).any (·.1) = false := by rfl) :
    DE X g (.Call (.Name x p) (.Name y p1 :: es) [] pos) (eCallJ i F fa) := by
  refine ⟨PE.by hg (pe_callG Z hr hgd (pa_cons (pe_var hN hv hd hcd) ha.pa he) hgl hdb he hpl) fun σ H Q h => ?_⟩
  obtain ⟨e, Xx, ow, er, h⟩ := h
  obtain ⟨f, fd, ps, hnp, hF, _⟩ := Z.ex
  unfold eCallJ at h
  split at h
  · rename_i jc0 hi0
    obtain ⟨h1, _, _, _, _⟩ := er.at hi0
    refine ⟨_, h1, e, Xx, ow, er, (Ro.all_bind.mp h).mono fun p h => ?_⟩
    intro vs H1 po rv
    split at h
    · rename_i jc hi
      have h := Ro.all_bind.mp h
      obtain ⟨_, xJ, jv, hJ, rj⟩ := po.er.at hi
      refine ⟨Xx, .lst jc :: p.1, (hF.ar _ _ h).trans hnp, .inr ⟨rfl, _, vs, jc, p.1, jv, rfl, rfl, xJ, hJ, rj, rv⟩, po.er.xs, po.er.sep, h.mono fun r h => ?_⟩
      intro v H' pp s
      obtain ⟨J', jv', e1, hJ', rj'⟩ := pp.jar rfl
      cases e1
      have keep : ∀ b o, H1 b = some o → b ≠ ow i → H' b = some o := fun b o q n => pp.keep b o q fun _ z => n (by cases z; rfl)
      have xs' : ∀ a, Xx a → H' a ≠ none := fun a x => pp.al a (po.er.xs a x)
      have er' := po.er.callJ hi keep pp.al s hJ' Xx (fun _ x => x) (fun _ _ x => x) xs' rj'
      have po' : Po g Xx ow σ p.2 (p.2.set i (some (.own r.2.2))) H1 H' := ⟨er', Kind.put hi, fun b o q n => keep b o q (n i _ (getOwn_eq hi) rfl)⟩
      refine h v H' (po.trans po') (RVx.back er po.er po.kp ⟨⟨pp.rep, fun z => ?_⟩, fun z a ea => ?_⟩)
      · obtain ⟨a, ws, es, e1, e2, n, q, r2, _⟩ := pp.fr z
        exact ⟨a, ws, es, e1, e2, n, q, r2⟩
      · obtain ⟨a', ws, es, e1, e2, n, q, r2, r3⟩ := pp.fr z
        rw [ea] at e1
        cases e1
        refine po.er.callJ hi keep pp.al s hJ' _ (fun _ x => .inl x) (fun b o x => x.elim (fun z => z) fun z => ?_) (fun b x => x.elim (xs' b) fun z => by rw [z, q]; simp) (r3 rfl _ _ rfl hJ')
        subst z
        rcases o with o | o
        · exact absurd n o
        · exact absurd (s.k b (by rw [q]; simp)) o
    · exact False.elim h
  · exact False.elim h
/-! ### instances -/
theorem de_fld {c : Nat} {f : Str} {o : Expr} {fo : Ex} {pos : Pos} (cl : Cls X.K (g.cl c)) (na : NoAttr X.K (g.cl c) f) (ho : DE X g o fo) (hb : attributeBase o f X.env (eval o X.env) = eval o X.env := by rfl) : DE X g (.Attribute o f pos) (eFld c f fo) := by
  refine ⟨PE.by hg (pe_fld ho.pe hb) fun σ H Q h => ?_⟩
  obtain ⟨e, Xx, ow, er, h⟩ := h
  have h0 := Ro.all_bind.mp h
  clear h
  refine ⟨e, Xx, ow, er, h0.mono fun p h => ?_⟩
  intro v H1 po rv
  split at h
  · rename_i c' ns ds hd
    split at h
    · rename_i hc
      subst hc
      split at h
      · rename_i d hl
        have r := rv.1.1
        rw [hd] at r
        cases r with
        | obj nx hH hnl r1 =>
          obtain ⟨w, hw, rw'⟩ := lookup_rep r1 hl
          exact ⟨_, _, _, _, w, rfl, hH, cl, na, hw, fun s => h w H1 po (.old rw')⟩
      · exact False.elim h
    · exact False.elim h
  · exact False.elim h
theorem pe_methG {c : Nat} {m : Str} {k np : Nat} {F : Fn} {o e : Expr} {es : List Expr} {to : TE} {t : TA} {apos pos : Pos} {pl : Sem Bool} (Z : Km X.prog X.w X.K X.mg X.base g c m k np false F) (hr : Room k X.A) (hgd : X.A.guards = some []) (ho : PE X o to) (ha : PA X (e :: es) t)
    (hst : starEach (e :: es) X.env = (false, eval e X.env) :: starEach es X.env) (hpl : (backTo pos (starEach es X.env)).any (·.1) = false)
    (ht : eval (.Call (.Attribute o m apos) (e :: es) [] pos) X.env = (do
      let ov ← eval o X.env
      standAt apos.atName
      let (f, first) ← holding [ov] (getMethod ov m pl)
      callWith pos f first (backTo pos (starEach (e :: es) X.env)) (backToKw pos (keywordEach [] X.env)))) :
    PE X (.Call (.Attribute o m apos) (e :: es) [] pos) (fun σ H Q => to σ H fun x H1 => ∃ a dx fs, x = .ref a ∧ H1 a = some (.ins (g.cl c) dx fs) ∧ fs.lookup m = none ∧ t σ H1 fun vs H2 => spD g np false F (x :: vs) H2 Q E0) := by
  obtain ⟨f, fd, ps, rfl, hF, hcl, hm, hb⟩ := Z.ex
  refine ⟨fun pins s σ H Q I h => ?_⟩
  refine PySem.W.methodCall_KW (pl := pl) (thn (ho.run pins s σ H _ I h) fun u s1 ⟨x, H1, I1, rx, a, dx, fs, ex, ea, l, q⟩ => ?_) ht
  subst ex
  cases (show u = Value.ref a from rx)
  refine getmeth_ok I1 ea hcl hm l ?_
  exact PySem.W.callWith_K (first := [.ref a]) (h₀ := X.base) I.ok.mod.kin hm.kp (thn (ha.run pos pins s1 σ H1 _ I1 q) fun us s2 ⟨vs, H2, I2, r, q2⟩ => ⟨I2.kIn, run_fng (us := .ref a :: us) (vs := .ref a :: vs) hF hr hgd hb I2 (.cons rfl r) q2⟩) hst hpl
theorem pe_methG0 {c : Nat} {m : Str} {k np : Nat} {F : Fn} {o : Expr} {to : TE} {apos pos : Pos} {pl : Sem Bool} (Z : Km X.prog X.w X.K X.mg X.base g c m k np false F) (hr : Room k X.A) (hgd : X.A.guards = some []) (ho : PE X o to)
    (ht : eval (.Call (.Attribute o m apos) [] [] pos) X.env = (do
      let ov ← eval o X.env
      standAt apos.atName
      let (f, first) ← holding [ov] (getMethod ov m pl)
      callWith pos f first (backTo pos (starEach [] X.env)) (backToKw pos (keywordEach [] X.env)))) :
    PE X (.Call (.Attribute o m apos) [] [] pos) (fun σ H Q => to σ H fun x H1 => ∃ a dx fs, x = .ref a ∧ H1 a = some (.ins (g.cl c) dx fs) ∧ fs.lookup m = none ∧ spD g np false F [x] H1 Q E0) := by
  obtain ⟨f, fd, ps, rfl, hF, hcl, hm, hb⟩ := Z.ex
  refine ⟨fun pins s σ H Q I h => ?_⟩
  refine PySem.W.methodCall_KW (pl := pl) (thn (ho.run pins s σ H _ I h) fun u s1 ⟨x, H1, I1, rx, a, dx, fs, ex, ea, l, q⟩ => ?_) ht
  subst ex
  cases (show u = Value.ref a from rx)
  refine getmeth_ok I1 ea hcl hm l ?_
  exact PySem.W.callWith_K0 (first := [.ref a]) I1.kIn hm.kp (run_fng (us := [.ref a]) (vs := [.ref a]) hF hr hgd hb I1 (.cons rfl .nil) q)
theorem de_meth {c : Nat} {m : Str} {k np : Nat} {F : Fn} {o e : Expr} {es : List Expr} {fo : Ex} {fa : Ea} {apos pos : Pos} {pl : Sem Bool} (Z : Km X.prog X.w X.K X.mg X.base g c m k np false F) (hr : Room k X.A) (hgd : X.A.guards = some []) (ho : DE X g o fo) (ha : DA X g (e :: es) fa)
    (hst : starEach (e :: es) X.env = (false, eval e X.env) :: starEach es X.env := by rfl) (hpl : (backTo pos (starEach es X.env)).any (·.1) = false := by rfl)
    (ht : eval (.Call (.Attribute o m apos) (e :: es) [] pos) X.env = (do
      let ov ← eval o X.env
      standAt apos.atName
      let (f, first) ← holding [ov] (getMethod ov m pl)
      callWith pos f first (backTo pos (starEach (e :: es) X.env)) (backToKw pos (keywordEach [] X.env))) := by rfl) : DE X g (.Call (.Attribute o m apos) (e :: es) [] pos) (eMeth c m F fo fa) := by
  refine ⟨PE.by hg (pe_methG hg Z hr hgd ho.pe ha.pa hst hpl ht) fun σ H Q h => ?_⟩
  obtain ⟨e, Xx, ow, er, h⟩ := h
  obtain ⟨f, fd, ps, hnp, hF, _⟩ := Z.ex
  have h0 := Ro.all_bind.mp h
  clear h
  refine ⟨e, Xx, ow, er, h0.mono fun o h => ?_⟩
  intro v H1 po rv
  split at h
  · rename_i c' ns ds hd
    split at h
    · rename_i hc
      obtain ⟨hc, hm⟩ := hc
      subst hc
      have r := rv.1.1
      rw [hd] at r
      cases r with
      | obj nx hH hnl r1 =>
        refine ⟨_, _, _, rfl, hH, lookup_not hm, o.2.2, Xx, ow, po.er, (Ro.all_bind.mp h).mono fun p h => ?_⟩
        intro vs H2 po2 rv2
        have po12 := po.trans po2
        have h := Ro.all_bind.mp h
        have ro := Kp.rep po.er po2.kp (Rep.obj nx hH hnl r1)
        refine ⟨Xx, .obj c' ns ds :: p.1, (hF.ar _ _ h).trans hnp, .inl ⟨rfl, .cons ro rv2⟩, po12.er.xs, po12.er.sep, h.mono fun r h => ?_⟩
        intro v H' pp s
        have sm := pp.same rfl
        exact h v H' (po12.trans (.of po12.er sm s)) ((RVx.of po12.er sm s pp.rv).back er po12.er po12.kp)
    · exact False.elim h
  · exact False.elim h
theorem de_meth0 {c : Nat} {m : Str} {k np : Nat} {F : Fn} {o : Expr} {fo : Ex} {apos pos : Pos} {pl : Sem Bool} (Z : Km X.prog X.w X.K X.mg X.base g c m k np false F) (hr : Room k X.A) (hgd : X.A.guards = some []) (ho : DE X g o fo)
    (ht : eval (.Call (.Attribute o m apos) [] [] pos) X.env = (do
      let ov ← eval o X.env
      standAt apos.atName
      let (f, first) ← holding [ov] (getMethod ov m pl)
      callWith pos f first (backTo pos (starEach [] X.env)) (backToKw pos (keywordEach [] X.env))) := by rfl) : DE X g (.Call (.Attribute o m apos) [] [] pos) (eMeth c m F fo aNil) := by
  refine ⟨PE.by hg (pe_methG0 hg Z hr hgd ho.pe ht) fun σ H Q h => ?_⟩
  obtain ⟨e, Xx, ow, er, h⟩ := h
  obtain ⟨f, fd, ps, hnp, hF, _⟩ := Z.ex
  have h0 := Ro.all_bind.mp h
  clear h
  refine ⟨e, Xx, ow, er, h0.mono fun o h => ?_⟩
  intro v H1 po rv
  split at h
  · rename_i c' ns ds hd
    split at h
    · rename_i hc
      obtain ⟨hc, hm⟩ := hc
      subst hc
      have r := rv.1.1
      rw [hd] at r
      cases r with
      | obj nx hH hnl r1 =>
        have h : ((F [.obj c' ns ds]).bind fun r => Ro.ok (r.1, r.2.1, o.2.2)).all _ := h
        have h := Ro.all_bind.mp h
        refine ⟨_, _, _, rfl, hH, lookup_not hm, Xx, [.obj c' ns ds], (hF.ar _ _ h).trans hnp, .inl ⟨rfl, .cons (.obj nx hH hnl r1) .nil⟩, po.er.xs, po.er.sep, h.mono fun r h => ?_⟩
        intro v H' pp s
        have sm := pp.same rfl
        exact h v H' (po.trans (.of po.er sm s)) ((RVx.of po.er sm s pp.rv).back er po.er po.kp)
    · exact False.elim h
  · exact False.elim h
end
end G

/-! Instances: made, their attributes stored; properties. -/
namespace G
open PySem PySem.Spec PyProof.Rows L2
def setFld (i c : Nat) (f : Str) (d : D) (e : En) : Option En := match e[i]? with
  | some (some (.slf c' ns ds)) => if c' = c ∧ f ∉ ns ∧ ns.length < 1000 then some (e.set i (some (.slf c' (ns ++ [f]) (ds ++ [d])))) else none
  | _ => none
def setFlds (i c : Nat) : List Str → List D → En → Option En
  | f :: fs, d :: ds, e => (setFld i c f d e).bind (setFlds i c fs ds)
  | [], [], e => some e
  | _, _, _ => none
def optS : Option En → So
  | some e => .nx e
  | none => .bad
/-- self.f = e, in __init__ -/
def sFld1 (i c : Nat) (f : Str) (fe : Ex) : Sm := fun e => (fe e).so fun p => optS (setFld i c f p.1 p.2.2)
/-- self.f, self.g, .. = e -/
def sFldT (i c : Nat) (fs : List Str) (fe : Ex) : Sm := fun e => (fe e).so fun p => match p.1 with
  | .tup ds => optS (setFlds i c fs ds p.2.2)
  | _ => .bad
theorem putF_new {f : Str} {v : V} : ∀ {ns : List Str} {vs : List V}, f ∉ ns → ns.length = vs.length → putF f v (ns.zip vs) = (ns ++ [f]).zip (vs ++ [v])
  | [], [], _, _ => rfl
  | n :: ns, w :: vs, h, hl => by
    have h1 : ¬ n = f := fun z => h (by rw [z]; exact List.mem_cons_self)
    show (if n = f then _ else (n, w) :: putF f v (ns.zip vs)) = _
    rw [if_neg h1, putF_new (fun z => h (List.mem_cons_of_mem _ z)) (by simpa using hl)]
    rfl
  | [], _ :: _, _, h => nomatch h
  | _ :: _, [], _, h => nomatch h
section
variable {g : Gc} {H H1 : Hp} {X : Px} {ow : Nat → Addr} {σ : St} {e e' : En}
theorem Sep.upd {a : Addr} {o : HO} {C dx : Addr} {fs : List (Str × V)} (s : Sep g H) (h : H a = some o) : Sep g (L2.upd H a (.ins C dx fs)) := by
  have kA : g.K.lookup a = none := s.k a (by rw [h]; simp)
  refine ⟨fun b n => ?_, fun b ws q => ?_, fun b ws q => ?_⟩
  · by_cases hb : b = a
    · rw [hb]; exact kA
    · rw [upd_ne hb] at n
      exact s.k b n
  · by_cases hb : b = a
    · subst hb
      rcases q with (q | ⟨ob, q⟩) | ⟨ob, _, _, q, _⟩
      · rw [upd_same] at q; cases q
      · rw [upd_same] at q; cases q
      · rw [kA] at q; cases q
    · exact s.l b ws (seq_to (fun o e => by rw [upd_ne hb] at e; exact e) q)
  · by_cases hb : b = a
    · subst hb
      rcases q with (q | ⟨ob, q⟩) | ⟨ob, _, _, q, _⟩
      · rw [upd_same] at q; cases q
      · rw [upd_same] at q; cases q
      · rw [kA] at q; cases q
    · exact s.t b ws (tup_to (fun o e => by rw [upd_ne hb] at e; exact e) q)
/-- an attribute of one's own instance is stored -/
theorem ER.fld {i c : Nat} {f : Str} {v : V} {d : D} (er : ER g H X ow σ e) (r : Rep g H X v d) (h : setFld i c f d e = some e') :
    ∃ a dx fs, σ[i]? = some (some (.ref a)) ∧ H a = some (.ins (g.cl c) dx fs) ∧ fs.length < 1000 ∧ Po g X ow σ e e' H (L2.upd H a (.ins (g.cl c) dx (putF f v fs))) := by
  unfold setFld at h
  split at h
  · rename_i c' ns ds hi
    split at h
    · rename_i hc
      obtain ⟨rfl, hf, hn⟩ := hc
      cases h
      obtain ⟨v0, hv0, e0, x0, dx, vs, h0, hl, r0⟩ := er.sl _ _ hi
      subst e0
      have ilt : i < e.length := (List.getElem?_eq_some_iff.mp hi).1
      have ne : ∀ a, ¬ X a → a ≠ ow i := fun a nx z => nx (by rw [z]; exact x0)
      have r2 : Reps g (L2.upd H (ow i) (.ins (g.cl c') dx (putF f v (ns.zip vs)))) X (vs ++ [v]) (ds ++ [d]) := reps_to (fun a o q nx => by rw [upd_ne (ne a nx)]; exact q) (fun _ _ z => z) (r0.append (.cons r .nil))
      refine ⟨ow i, dx, _, hv0, h0, ?_, ⟨by rw [List.length_set]; exact er.len, fun a x => ?_, er.sep.upd h0, fun j sv q => ?_, fun j k s t q1 q2 m1 m2 z => ?_⟩, ⟨by rw [List.length_set], fun j sv q => ?_, fun j sv q => ?_⟩, fun b o q n => ?_⟩
      · rw [List.length_zip]
        omega
      · by_cases ha : a = ow i
        · rw [ha, upd_same]; simp
        · rw [upd_ne ha]; exact er.xs a x
      · by_cases hj : i = j
        · subst hj
          cases get_set_self q
          exact ⟨_, hv0, rfl, x0, dx, vs ++ [v], by rw [upd_same, putF_new hf hl], by simp [hl], r2⟩
        · rw [List.getElem?_set_ne hj] at q
          obtain ⟨w, h1, h2⟩ := er.sl j sv q
          refine ⟨w, h1, h2.to (fun a o q nx => by rw [upd_ne (ne a nx)]; exact q) (fun m o q3 => ?_) (fun _ _ z => z) fun m => h2.x m⟩
          rw [upd_ne]
          · exact q3
          · intro z
            exact hj (er.ap j i sv _ q hi m rfl z).symm
      · have key : ∀ (j : Nat) s, (e.set i (some (.slf c' (ns ++ [f]) (ds ++ [d]))))[j]? = some (some s) → s.mut = true → ∃ s0, e[j]? = some (some s0) ∧ s0.mut = true := fun j s q m => by
          by_cases hj : i = j
          · subst hj
            exact ⟨_, hi, rfl⟩
          · rw [List.getElem?_set_ne hj] at q
            exact ⟨s, q, m⟩
        obtain ⟨s0, q1', m1'⟩ := key j s q1 m1
        obtain ⟨t0, q2', m2'⟩ := key k t q2 m2
        exact er.ap j k s0 t0 q1' q2' m1' m2' z
      · by_cases hj : i = j
        · subst hj
          cases get_set_self q
          exact ⟨_, hi, rfl, fun z => nomatch z⟩
        · rw [List.getElem?_set_ne hj] at q
          exact ⟨sv, q, rfl, fun _ => rfl⟩
      · by_cases hj : i = j
        · subst hj
          exact ⟨_, List.getElem?_set_self ilt⟩
        · exact ⟨sv, by rw [List.getElem?_set_ne hj]; exact q⟩
      · rw [upd_ne (n i _ hi rfl)]
        exact q
    · cases h
  · cases h
end
theorem optS_all {o : Option En} {P : En → Prop} {R : D → Bool → En → Prop} {B C : En → Prop} (h : (optS o).all P R B C) : ∃ e, o = some e ∧ P e := by
  cases o with
  | none => exact False.elim h
  | some e => exact ⟨e, rfl, h⟩
/-- the attributes fs of the object in slot i, in order -/
def gFlds (g : Gc) (i c : Nat) : List Str → TGs
  | [] => fun vs σ H Q => vs = [] ∧ Q σ H
  | f :: fs => fun vs σ H Q => ∃ v r, vs = v :: r ∧ ∃ a dx fds, σ[i]? = some (some (.ref a)) ∧ H a = some (.ins (g.cl c) dx fds) ∧ fds.length < 1000 ∧ gFlds g i c fs r σ (L2.upd H a (.ins (g.cl c) dx (putF f v fds))) Q
section
variable {X : Cx} {g : Gc} (hg : g.K = X.K)
theorem pg_attr {i c : Nat} {o : Expr} {f : Str} {pos : Pos} (ho : PE X o (tVar i)) (cl : Cls X.K (g.cl c)) (na : NoAttr X.K (g.cl c) f) :
    PG X (.Attribute o f pos) (fun v σ H Q => ∃ a dx fds, σ[i]? = some (some (.ref a)) ∧ H a = some (.ins (g.cl c) dx fds) ∧ fds.length < 1000 ∧ Q σ (L2.upd H a (.ins (g.cl c) dx (putF f v fds)))) := by
  refine ⟨fun pins s σ H v u Q I rv h => PySem.W.kas_attr ?_⟩
  obtain ⟨a, dx, fds, h1, h2, h3, h4⟩ := h
  refine thn (ho.run pins s σ H (fun x H2 => x = .ref a ∧ H2 = H) I ⟨_, h1, rfl, rfl⟩) fun ov s1 ⟨x, H2, I2, rx, ex, eH⟩ => ?_
  subst ex eH
  cases (show ov = Value.ref a from rx)
  exact setattr_ok I2 h2 cl na h3 rv fun s3 I3 => ⟨σ, _, I3, h4⟩
theorem gf_nil {i c : Nat} : PGs X [] (gFlds g i c []) := ⟨fun pins s σ H vs us Q I r h => pgs_nil.run pins s σ H vs us Q I r h⟩
theorem gf_cons {i c : Nat} {o : Expr} {f : Str} {pos : Pos} {es : List Expr} {fs : List Str} (ho : PE X o (tVar i)) (cl : Cls X.K (g.cl c)) (na : NoAttr X.K (g.cl c) f) (h2 : PGs X es (gFlds g i c fs))
    (hs : (assignEach (.Attribute o f pos :: es) X.env).map (·.2) = assign (.Attribute o f pos) X.env :: (assignEach es X.env).map (·.2) := by rfl) : PGs X (.Attribute o f pos :: es) (gFlds g i c (f :: fs)) := ⟨fun pins s σ H vs us Q I r h => by
  obtain ⟨v, vr, e1, h⟩ := h
  exact (pgs_cons (pg_attr ho cl na) h2 hs).run pins s σ H vs us Q I r ⟨v, vr, e1, h⟩⟩
include hg
theorem ds_fld {i c : Nat} {o value : Expr} {f : Str} {fe : Ex} {pos pos' : Pos} (ho : PE X o (tVar i)) (cl : Cls X.K (g.cl c)) (na : NoAttr X.K (g.cl c) f) (he : DE X g value fe) (hs : swapsWith value (some (.Attribute o f pos')) pos.line X.env = pure false := by rfl) :
    DS X g (.Assign [.Attribute o f pos'] value pos) (sFld1 i c f fe) [] := by
  refine ⟨PS.by hg (ps_fld ho he.pe hs) fun Dn σ H h => ?_⟩
  obtain ⟨e, Xx, ow, er, h⟩ := h
  refine ⟨e, Xx, ow, er, (Ro.so_all.mp h).mono fun p h => ?_⟩
  intro v H1 po rv
  obtain ⟨e', h1, h2⟩ := optS_all h
  obtain ⟨a, dx, fs, z1, z2, z3, z4⟩ := po.er.fld rv.1.1 h1
  exact ⟨_, z1, a, _, dx, fs, rfl, z2, cl, na, z3, fun s => h2 _ Xx ow σ z4.er (Po.trn er (po.trans z4))⟩
theorem ds_fldT {i c : Nat} {es : List Expr} {k : Nat} {fs : List Str} {value : Expr} {fe : Ex} {pos pos' : Pos} (hc : X.calm = true) (hG : PGs X es (gFlds g i c fs)) (he : DE X g value fe) (hn : (assignEach es X.env).length = fs.length := by rfl) (hst : (assignEach es X.env).findIdx? (·.1) = none := by rfl)
    (hs : swapsWithSole [.Tuple es k pos'] value pos.line X.env = pure false := by rfl) (hw : swappedStores [.Tuple es k pos'] value X.env = pure none := by rfl)
    (h1 : (assignEach [.Tuple es k pos'] X.env).map (·.2) = [assign (.Tuple es k pos') X.env] := by rfl) : DS X g (.Assign [.Tuple es k pos'] value pos) (sFldT i c fs fe) [] := by
  refine ⟨PS.by hg (ps_asg he.pe (pg_tup (n := fs.length) hc hG hn hst) hs hw h1) fun Dn σ H h => ?_⟩
  obtain ⟨e, Xx, ow, er, h⟩ := h
  refine ⟨e, Xx, ow, er, (Ro.so_all.mp h).mono fun p h => ?_⟩
  intro v H1 po rv
  split at h
  · rename_i ds hd
    have r := rv.1.1
    rw [hd] at r
    cases r with
    | tup nx hT r1 =>
      rename_i a vs
      obtain ⟨e', h1, h2⟩ := optS_all h
      have way : ∀ (fs : List Str) (ds : List D) (vs : List V) (e1 : En) (H1 : Hp), Po g Xx ow σ e e1 H H1 → Reps g H1 Xx vs ds → setFlds i c fs ds e1 = some e' → vs.length = fs.length ∧ gFlds g i c fs vs σ H1 (fun σ2 H2 => Sep g H2 → Dn.nx σ2 H2) := by
        intro fs
        induction fs with
        | nil =>
          intro ds vs e1 H1 po r h
          cases ds with
          | nil =>
            cases r
            cases h
            exact ⟨rfl, rfl, fun _ => h2 H1 Xx ow σ po.er (po.trn er)⟩
          | cons d ds => cases h
        | cons f fs ih =>
          intro ds vs e1 H1 po r h
          cases ds with
          | nil => cases h
          | cons d ds =>
            obtain ⟨e2, q1, q2⟩ := Option.bind_eq_some_iff.mp (show (setFld i c f d e1).bind (setFlds i c fs ds) = some e' from h)
            cases r with
            | cons ra rb =>
              obtain ⟨a, dx, fds, z1, z2, z3, z4⟩ := po.er.fld ra q1
              obtain ⟨l1, l2⟩ := ih ds _ e2 _ (po.trans z4) (Kp.reps po.er z4.kp rb) q2
              exact ⟨congrArg Nat.succ l1, _, _, rfl, a, dx, fds, z1, z2, z3, l2⟩
      obtain ⟨l1, l2⟩ := way fs ds vs p.2.2 H1 po r1 h1
      exact ⟨a, vs, rfl, by rw [← hg]; exact hT, l1, l2⟩
  · exact False.elim h
end

/-! ### __init__ -/
abbrev FnN := List D → Ro (List Str × List D)
def initI (np n c : Nat) (ds : List D) : Option En := if ds.length + 1 = np then some (some (.slf c [] []) :: (ds.map (fun d => some (.val d)) ++ List.replicate (n - (ds.length + 1)) none)) else none
def finI (c : Nat) (e : En) : Ro (List Str × List D) := match e[(0 : Nat)]? with
  | some (some (.slf c' ns ds)) => if c' = c then .ok (ns, ds) else .bad
  | _ => .bad
def runInit (np n c : Nat) (f : Sm) : FnN := fun ds => match initI np n c ds with
  | some e => (match f e with
    | .nx e' => finI c e'
    | _ => .bad)
  | none => .bad
def spI (g : Gc) (np c : Nat) (F : FnN) : Sp := fun vs H Q _ => ∃ (X : Px) (p dx : Addr) (vr : List V) (ds : List D), vs = .ref p :: vr ∧ ds.length + 1 = np ∧ H p = some (.ins (g.cl c) dx []) ∧ X p ∧ Reps g H X vr ds ∧ (∀ a, X a → H a ≠ none) ∧ Sep g H ∧
  (F ds).all fun r => ∀ H' dx' vs', (∀ b o, H b = some o → b ≠ p → H' b = some o) → (∀ a, H a ≠ none → H' a ≠ none) → H' p = some (.ins (g.cl c) dx' (r.1.zip vs')) → r.1.length = vs'.length → Reps g H' X vs' r.2 → Q .non H'
structure FnI (P : Program) (w : World) (K : PySem.W.Frag) (mg : Str → Option Value) (base : Heap) (g : Gc) (k : Nat) (f : Addr) (fd : FuncData) (ps : List Str) (c : Nat) (F : FnN) : Prop where
  ar : ∀ ds P, (F ds).all P → ds.length + 1 = ps.length
  run : ∀ (A : Around) (outer : List Env) (s : Shared) (H : Hp) (args : Args) (us : List Value) (vs : List V) (Q : VK), Room k A → A.guards = some [] → Env0 P w K mg base A outer s H → BindsTo s fd args (ps.zip us) → Vals vs us →
    spI g ps.length c F vs H Q E0 → codeAny (model P w) A (.call (.ref f) args) (CR CX0 outer P w H s Q E0) s
theorem fni_of {P : Program} {w : World} {K : PySem.W.Frag} {mg : Str → Option Value} {base : Heap} {g : Gc} {k c : Nat} {f : Addr} {name qual : Str} {params : Arguments} {body : List Stmt} {scope : Scope} {dV kV doc pm cdv ct oc : Value} {an od : Option Addr} {osl : Array (Option Value)} {N ps : List Str} {fb : Sm}
    (hK : K.lookup f = some ⟨oc, od, .func (PySem.W.fnOf name qual params body scope dV kV doc pm an cdv ct), osl⟩) (hcode : PySem.W.codeIn K cdv qual = true) (S : FnScope N ps scope)
    (hbody : ∀ (A : Around) (outer : List Env) (s : Shared) (H : Hp), Room k (A.deeper (envOfC qual scope s.heap.objs.size f cdv)) → A.guards = some [] →
      ∃ as, 0 ∉ as ∧ DSs (cxOf CX0 P w K mg base N qual scope f cdv A outer s H E0).nox g body fb as) :
    FnI P w K mg base g (k + 1) f (PySem.W.fnOf name qual params body scope dV kV doc pm an cdv ct) ps c (runInit ps.length N.length c fb) := by
  have hpl : ps.length ≤ N.length := by
    have := congrArg List.length S.pre
    rw [List.length_take] at this
    omega
  refine ⟨fun ds P h => ?_, fun A outer s H args us vs Q hr hgd e0 hb rv hsp => ?_⟩
  · unfold runInit at h
    cases he : initI ps.length N.length c ds with
    | none => rw [he] at h; exact False.elim h
    | some e =>
      unfold initI at he
      split at he
      · assumption
      · cases he
  obtain ⟨Xx, p, dx, vr, ds, rfl, hnp, hp, xp, rr, hx, hs, hF⟩ := hsp
  have hl : (V.ref p :: vr).length = ps.length := by rw [← hnp, List.length_cons, rr.length]
  have KX : K.In s.heap := e0.mod.kin.keeps fun b o q => (e0.bs b o q).1
  have kinds : ∀ y ∈ ps.zip us, scope.names.lookup y.1 = some .local ∨ (scope.names.lookup y.1 = some .cell ∧ ((cellsFrom (s.heap.objs.size + 1) scope.names []).lookup y.1).isSome = true) := by
    rintro ⟨n, u⟩ hy
    exact (S.par n (List.of_mem_zip hy).1).imp id fun z => ⟨z, PySem.W.cellsFrom_some _ _ _ (.inl z)⟩
  refine codeAny_call_function (Room.depth hr) (KX _ _ hK) rfl S.co S.gen rfl (PySem.W.codeRec_of KX hcode) (hb _ _ _ _ (wpAny_newFunctionEnv_cells S.kind kinds fun env he s1 inC => ?_))
  subst he
  refine ⟨(e0.mod.nolimit.keeps fun b o q => (e0.bs b o q).1).keeps inC.toInCall.keep, codeAny_func ?_⟩
  have I : Inv (cxOf CX0 P w K mg base N qual scope f cdv A outer s H E0).nox [] (L2.start N (V.ref p :: vr)) H s1 := (inv_start (E := E0) S hr.hd e0 hl rv inC).wish _
  obtain ⟨as, h0, ht⟩ := hbody A outer s H (hr.deeper _) hgd
  have way : rdS g fb as { nx := fun _ H' => Q .non H', rt := Q } (L2.start N (V.ref p :: vr)) H := by
    have hie : initI ps.length N.length c ds = some (some (.slf c [] []) :: (ds.map (fun d => some (.val d)) ++ List.replicate (N.length - (ds.length + 1)) none)) := by
      unfold initI
      rw [if_pos hnp]
    unfold runInit at hF
    rw [hie] at hF
    dsimp only at hF
    have key : ∀ (i : Nat) sv, ((some (.slf c [] []) :: (ds.map (fun d => some (SV.val d)) ++ List.replicate (N.length - (ds.length + 1)) none)) : En)[i]? = some (some sv) → (i = 0 ∧ sv = .slf c [] []) ∨ ∃ j d, i = j + 1 ∧ ds[j]? = some d ∧ sv = .val d := fun i sv q => by
      cases i with
      | zero =>
        simp at q
        exact .inl ⟨rfl, q.symm⟩
      | succ j =>
        obtain ⟨d, hd, e⟩ := rep_sv (i := j) (by simpa using q)
        exact .inr ⟨j, d, rfl, hd, e⟩
    have er : ER g H Xx (fun _ => p) (L2.start N (V.ref p :: vr)) (some (.slf c [] []) :: (ds.map (fun d => some (SV.val d)) ++ List.replicate (N.length - (ds.length + 1)) none)) := by
      refine ⟨?_, hx, hs, fun i sv q => ?_, fun i j s t q1 q2 m1 m2 _ => ?_⟩
      · have := rr.length
        unfold L2.start
        simp only [List.length_append, List.length_map, List.length_replicate, List.length_cons]
        omega
      · rcases key i sv q with ⟨rfl, rfl⟩ | ⟨j, d, rfl, hd, rfl⟩
        · exact ⟨.ref p, start_get rfl, rfl, xp, dx, [], hp, rfl, .nil⟩
        · obtain ⟨v, hv, rv⟩ := rr.get hd
          exact ⟨v, start_get (by simpa using hv), rv⟩
      · rcases key i s q1 with ⟨rfl, rfl⟩ | ⟨j', d, rfl, hd, rfl⟩
        · rcases key j t q2 with ⟨rfl, rfl⟩ | ⟨j', d, rfl, hd, rfl⟩
          · rfl
          · cases m2
        · cases m1
    refine ⟨_, Xx, _, er, ?_⟩
    cases hfb : fb (some (.slf c [] []) :: (ds.map (fun d => some (SV.val d)) ++ List.replicate (N.length - (ds.length + 1)) none)) with
    | nx e' =>
      rw [hfb] at hF
      intro H' X' ow' σ' er' t
      have hF : (finI c e').all _ := hF
      unfold finI at hF
      split at hF
      · rename_i c' ns es q0
        split at hF
        · rename_i hc
          subst hc
          obtain ⟨v0, hv0, e0, x0, dx', vs', h0', hl', r0⟩ := er'.sl _ _ q0
          have ea : ow' 0 = p := ((t.st 0 h0).2 _ rfl rfl).1
          rw [ea] at h0'
          refine hF H' dx' vs' (fun b o q n => t.kp b o q fun i sv q2 m z => ?_) t.al h0' hl' (reps_to (fun _ _ q _ => q) (fun a _ x => ?_) r0)
          · exact n z
          · rcases t.x1 a x with z | ⟨i, sv, q, m, _, hi⟩
            · exact z
            · rcases key i sv q with ⟨rfl, rfl⟩ | ⟨j', d, rfl, hd, rfl⟩
              · exact absurd hi h0
              · cases m
        · exact False.elim hF
      · exact False.elim hF
    | ret d fr e' => rw [hfb] at hF; exact False.elim hF
    | brk e' => rw [hfb] at hF; exact False.elim hF
    | cnt e' => rw [hfb] at hF; exact False.elim hF
    | exc c e' => rw [hfb] at hF; exact False.elim hF
    | bad => rw [hfb] at hF; exact False.elim hF
  refine wpAny_mono (ht.pss.run [] s1 _ H _ I way) (fun fl s' hfl => ?_) fun e s' z => z.elim
  cases fl with
  | ret u =>
    obtain ⟨v, _, H', J, ru, q⟩ := hfl
    exact ⟨v, H', J.os, J.bare, J.base, J.hok, ru, q⟩
  | next =>
    obtain ⟨_, H', J, q⟩ := hfl
    exact ⟨.non, H', J.os, J.bare, J.base, J.hok, rfl, q⟩
  | brk => exact (hfl.elim fun _ z => z.elim fun _ z => z.2).elim
  | cont => exact (hfl.elim fun _ z => z.elim fun _ z => z.2).elim

/-- the module's name x stands for the class c, made by the __init__ that F tells -/
structure Kc (P : Program) (w : World) (K : PySem.W.Frag) (mg : Str → Option Value) (base : Heap) (g : Gc) (x : Str) (c k np : Nat) (F : FnN) : Prop where
  ex : ∃ (f : Addr) (fd : FuncData) (ps : List Str), ps.length = np ∧ FnI P w K mg base g k f fd ps c F ∧ mg x = some (.ref (g.cl c)) ∧ Mk K (g.cl c) f ∧ Binds K fd ps []
def eMake (c : Nat) (F : FnN) (fa : Ea) : Ex := fun e => (fa e).bind fun p => (F p.1).bind fun r => .ok (.obj c r.1 r.2, false, p.2)
theorem guards_make {A : Around} {C : Addr} {us : List Value} {kw : List (Str × Value)} : (A.under (.builtin "type.__call__" ⟨.ref C :: us, kw⟩)).guards = A.guards := by
  obtain ⟨hd, d, fr, gs, u⟩ := A
  cases gs <;> simp [Around.under, Code.guards, Code.isGuard, pushGuards, guardIds]
section
variable {X : Cx} {g : Gc} (hg : g.K = X.K)
theorem de_make {x : Str} {c k np : Nat} {F : FnN} {p pos : Pos} {e : Expr} {es : List Expr} {fa : Ea} (hg : g.K = X.K) (Z : Kc X.prog X.w X.K X.mg X.base g x c k np F) (hr : Room (k + 1) X.A) (hgd : X.A.guards = some []) (ha : DA X g (e :: es) fa)
    (hgl : Gl X x := by rfl) (hdb : (x == ("__debug__" : Str)) = false := by decide) (he : starEach (e :: es) X.env = (false, eval e X.env) :: starEach es X.env := by rfl) (hpl : (backTo pos (starEach es X.env)).any (·.1) = false := by rfl) :
    DE X g (.Call (.Name x p) (e :: es) [] pos) (eMake c F fa) := by
  obtain ⟨f, fd, ps, rfl, hF, hm, hM, hb⟩ := Z.ex
  refine ⟨⟨fun pins s σ H Q I h => ?_⟩⟩
  refine wpAny_Call_Name_kw (ld_glob I hgl hm ?_ hdb)
  obtain ⟨en, Xx, ow, er, h⟩ := h
  refine PySem.W.callWith_K (h₀ := X.base) I.ok.mod.kin hM.kp (thn (ha.pa.run pos pins s σ H _ I ⟨en, Xx, ow, er, (Ro.all_bind.mp h).mono fun p h vs H1 po rv => (⟨p, po, rv, h⟩ : ∃ p : List D × En, Po g Xx ow σ en p.2 H H1 ∧ Reps g H1 Xx vs p.1 ∧ ((F p.1).bind fun r => Ro.ok (D.obj c r.1 r.2, false, p.2)).all fun p => ∀ v H', Po g Xx ow σ en p.2.2 H H' → RVx g H H' Xx ow σ p.2.2 v p.1 p.2.1 → Q v H')⟩) fun us s1 ⟨vs, H1, I1, r, q⟩ => ⟨I1.kIn, ?_⟩) he hpl
  obtain ⟨p, po, rv, h⟩ := q
  have h := Ro.all_bind.mp h
  have I2 := Inv.made (C := g.cl c) I1
  have nx : H1 (s1.heap.objs.size + 1) = none := I1.hok.fresh (Nat.le_succ _)
  have ndx : H1 s1.heap.objs.size = none := I1.hok.fresh (Nat.le_refl _)
  have ne : s1.heap.objs.size ≠ s1.heap.objs.size + 1 := Nat.ne_of_lt (Nat.lt_succ_self _)
  have sm : Same H1 (upd (upd H1 s1.heap.objs.size (.own (s1.heap.objs.size + 1))) (s1.heap.objs.size + 1) (.ins (g.cl c) s1.heap.objs.size [])) := fun b o e => by
    rw [upd_ne (ne_of_none e nx), upd_ne (ne_of_none e ndx)]
    exact e
  have s2 := sep_of hg I2
  have hl : (Value.ref (s1.heap.objs.size + 1) :: us).length = ps.length := by
    have := hF.ar _ _ h
    have h1 := rv.length
    have h2 := r.length
    simp only [List.length_cons]
    omega
  have bt := hb { s1 with heap := (s1.heap.push PySem.W.emptyDict).push (PySem.W.instObj (g.cl c) s1.heap.objs.size) } (.ref (s1.heap.objs.size + 1) :: us) I2.kIn (by rw [List.append_nil]; exact hl)
  rw [List.append_nil] at bt
  have hx : ∀ a, (Xx a ∨ a = s1.heap.objs.size + 1) → (upd (upd H1 s1.heap.objs.size (.own (s1.heap.objs.size + 1))) (s1.heap.objs.size + 1) (.ins (g.cl c) s1.heap.objs.size [])) a ≠ none := fun a x => by
    rcases x with x | x
    · cases q : H1 a with
      | none => exact absurd q (po.er.xs a x)
      | some o => rw [sm a o q]; simp
    · rw [x, upd_same]; simp
  have rv2 : Reps g (upd (upd H1 s1.heap.objs.size (.own (s1.heap.objs.size + 1))) (s1.heap.objs.size + 1) (.ins (g.cl c) s1.heap.objs.size [])) (fun b => Xx b ∨ b = s1.heap.objs.size + 1) vs p.1 := by
    refine reps_to (fun a o q _ => sm a o q) (fun a ho z => z.elim (fun z => z) fun z => ?_) rv
    subst z
    rcases ho with ho | ho
    · exact absurd nx ho
    · exact absurd (s2.k _ (by rw [upd_same]; simp)) ho
  refine wpAny_call (make_map (f := f) I1.kIn hM.makes hM.init (beq_iff_eq.mp hM.fn) (codeAny_mono (hF.run _ X.stack _ _ ⟨.ref (s1.heap.objs.size + 1) :: us, []⟩ (.ref (s1.heap.objs.size + 1) :: us) (.ref (s1.heap.objs.size + 1) :: vs)
    (fun v H' => v = .non ∧ (Sep g H' → Q (.ref (s1.heap.objs.size + 1)) H')) (hr.make _ us []) (by rw [guards_make]; exact hgd) (I2.env0.make _ us []) bt (.cons rfl r) ?_) fun r s' hq => ?_))
  · refine ⟨fun b => Xx b ∨ b = s1.heap.objs.size + 1, _, _, vs, p.1, rfl, hF.ar _ _ h, upd_same, .inr rfl, rv2, hx, s2, h.mono fun t h H' dx' vs' keep al hp hln rr => ⟨rfl, fun s => ?_⟩⟩
    have sm2 : Same H1 H' := fun b o q => keep b o (sm b o q) (ne_of_none q nx)
    have po2 := po.trans (.of po.er sm2 s)
    refine h (.ref (s1.heap.objs.size + 1)) H' po2 (.old (.obj (fun z => po.er.xs _ z nx) hp hln (reps_to (fun _ _ q _ => q) (fun _ _ z => .inl z) rr)))
  · cases r with
    | error e => exact False.elim hq
    | ok fl =>
      cases fl with
      | ret u =>
        obtain ⟨v, H', I3, rv, ev, q3⟩ := I2.after hq
        subst ev
        exact ⟨rv, ⟨V.ref (s1.heap.objs.size + 1), H', I3, rfl, q3 (sep_of hg I3)⟩⟩
      | next => exact False.elim hq
      | brk => exact False.elim hq
      | cont => exact False.elim hq
/-! ### properties -/
structure Kp1 (P : Program) (w : World) (K : PySem.W.Frag) (mg : Str → Option Value) (base : Heap) (g : Gc) (c : Nat) (m : Str) (k : Nat) (F : Fn) : Prop where
  ex : ∃ (p f : Addr) (fd : FuncData) (ps : List Str), ps.length = 1 ∧ FnG P w K mg base g k f fd ps false F ∧ Cls K (g.cl c) ∧ PropOf K (g.cl c) m p f ∧ Binds K fd ps []
def eProp (c : Nat) (F : Fn) (fo : Ex) : Ex := fun e => (fo e).bind fun o => match o.1 with
  | .obj c' ns ds => if c' = c then (F [.obj c' ns ds]).bind fun r => .ok (r.1, r.2.1, o.2.2) else .bad
  | _ => .bad
include hg
theorem de_prop {c : Nat} {m : Str} {k : Nat} {F : Fn} {o : Expr} {fo : Ex} {pos : Pos} (Z : Kp1 X.prog X.w X.K X.mg X.base g c m k F) (hr : Room (k + 1) X.A) (hgd : X.A.guards = some []) (ho : DE X g o fo) (hb : attributeBase o m X.env (eval o X.env) = eval o X.env := by rfl) :
    DE X g (.Attribute o m pos) (eProp c F fo) := by
  obtain ⟨q, f, fd, ps, hnp, hF, hcl, hp, hbd⟩ := Z.ex
  refine ⟨⟨fun pins s σ H Q I h => ?_⟩⟩
  obtain ⟨en, Xx, ow, er, h⟩ := h
  have way := ho.pe.run pins s σ H (fun v H1 => ∃ p : D × Bool × En, Po g Xx ow σ en p.2.2 H H1 ∧ RVx g H H1 Xx ow σ p.2.2 v p.1 p.2.1 ∧ (match p.1 with
    | .obj c' ns ds => if c' = c then (F [.obj c' ns ds]).bind fun r => Ro.ok (r.1, r.2.1, p.2.2) else .bad
    | _ => Ro.bad : Er).all fun p => ∀ v H', Po g Xx ow σ en p.2.2 H H' → RVx g H H' Xx ow σ p.2.2 v p.1 p.2.1 → Q v H') I ⟨en, Xx, ow, er, (Ro.all_bind.mp h).mono fun p h v H1 po rv => ⟨p, po, rv, h⟩⟩
  refine attr_of hb (thn way fun u s1 z => ?_)
  clear h
  obtain ⟨x, H1, I1, rx, p, po, rv, h1⟩ := z
  split at h1
  · rename_i c' ns ds hd
    split at h1
    · rename_i hc
      subst hc
      have r := rv.1.1
      rw [hd] at r
      cases r with
      | obj nx hH hnl r1 =>
        rename_i a dx vs
        cases (show u = Value.ref a from rx)
        have h2 := Ro.all_bind.mp h1
        obtain ⟨mA, O, _, _, _, _⟩ := ins_get I1.hok hH
        obtain ⟨od, J, _⟩ := O.look
        obtain ⟨rest, hrec⟩ := hp.rec_
        have It := I1.tok (s1.toks + 1)
        have cls : (PySem.W.clsIn X.K (g.cl c')).isSome = true := by
          obtain ⟨cd, hc, _⟩ := PySem.W.any_some hcl.hd
          rw [hc]
          rfl
        have bt := hbd { s1 with toks := s1.toks + 1 } [.ref a] It.kIn (by rw [List.append_nil, hnp]; rfl)
        rw [List.append_nil] at bt
        refine PySem.W.get_bind I1.kIn J (PySem.W.plainGet_of (hcl.get m)).1 (PySem.W.findObj_data cls hp.at_ hp.get hp.tak) (PySem.W.plainGet_of (hcl.get m)).2 (wpAny_call (PySem.W.prop_get (s := { s1 with toks := s1.toks + 1 }) I1.kIn hrec ?_))
        refine codeAny_mono (hF.run X.A.in1 X.stack { s1 with toks := s1.toks + 1 } H1 ⟨[.ref a], []⟩ [.ref a] [.ref a] (fun v H' => Sep g H' → Q v H') hr.in1 hgd It.env0.in1 bt (.cons rfl .nil) ?_) fun r s' hq => ?_
        · refine ⟨Xx, [.obj c' ns ds], hnp.symm ▸ rfl, .inl ⟨rfl, .cons (.obj nx hH hnl r1) .nil⟩, po.er.xs, po.er.sep, h2.mono fun r h => ?_⟩
          intro v H' pp s
          have sm := pp.same rfl
          exact h v H' (po.trans (.of po.er sm s)) ((RVx.of po.er sm s pp.rv).back er po.er po.kp)
        · cases r with
          | error er => exact False.elim hq
          | ok fl =>
            cases fl with
            | ret u =>
              obtain ⟨v, H', I3, rv, q3⟩ := It.after hq
              show wpAny _ _ (handedOut u) _ _ _
              rw [PySem.W.handedOut_of (handed_of rv)]
              exact wpAny_pure ⟨v, H', I3, rv, q3 (sep_of hg I3)⟩
            | next => exact False.elim hq
            | brk => exact False.elim hq
            | cont => exact False.elim hq
    · exact False.elim h1
  · exact False.elim h1
end
end G

/-! isinstance; own ==, !=, in, not in, len; the module's constants. -/
namespace G
open PySem PySem.Spec PyProof.Rows L2
inductive Bty where
  | int | bool | str | list | tuple | dict | none
def Bty.nm : Bty → String
  | .int => "int"
  | .bool => "bool"
  | .str => "str"
  | .list => "list"
  | .tuple => "tuple"
  | .dict => "dict"
  | .none => "NoneType"
def Bty.is : Bty → Bty → Bool
  | .bool, .int => true
  | .int, .int => true
  | .bool, .bool => true
  | .str, .str => true
  | .list, .list => true
  | .tuple, .tuple => true
  | .dict, .dict => true
  | .none, .none => true
  | _, _ => false
theorem kit_tab (a b : Bty) : kitB a.nm b.nm = some (a.is b) := by cases a <;> cases b <;> decide +kernel
def tyD : D → Option Bty
  | .non => some .none
  | .bl _ => some .bool
  | .int _ => some .int
  | .str _ => some .str
  | .lst _ => some .list
  | .scr _ => some .list
  | .tup _ => some .tuple
  | .dct _ _ => some .dict
  | .obj _ _ _ => none
def isB (t : Bty) (d : D) : Option Bool := (tyD d).map fun a => a.is t
def eIsB (t : Bty) (a : Ex) : Ex := fun e => (a e).bind fun p => match isB t p.1 with
  | some b => .ok (.bl b, false, p.2.2)
  | none => .bad
def eIsBs (ts : List Bty) (a : Ex) : Ex := fun e => (a e).bind fun p => match tyD p.1 with
  | some b => .ok (.bl (ts.any fun t => b.is t), false, p.2.2)
  | none => .bad
/-- an own class: tab tells it of instances -/
def eIsO (tab : Nat → Option Bool) (a : Ex) : Ex := fun e => (a e).bind fun p => match p.1 with
  | .obj c _ _ => (match tab c with
    | some b => .ok (.bl b, false, p.2.2)
    | none => .bad)
  | _ => .ok (.bl false, false, p.2.2)
structure KI (K : PySem.W.Frag) (C : Addr) : Prop where
  cl : Cls K C
  ha : PySem.W.findIn K (.ref C) "__class__" = some (some (.builtin "object.__class__"))
  hn : PySem.W.specialIn K (.builtin "object.__class__") "__get__" = some (some (.builtin "getset_descriptor.__get__"))
  htk : PySem.W.takesIn K (.builtin "object.__class__") = some true
  hm : PySem.W.mroIn K C (.type "object") = some true
section
variable {X : Cx} {g : Gc} (hg : g.K = X.K)
theorem tyx_of {H : Hp} {Xx : Px} {v : V} {d : D} {t : Bty} (r : Rep g H Xx v d) (h : tyD d = some t) : TyX g.K H v (.type t.nm) := by
  cases r with
  | non => cases h; exact .base .non
  | bl b => cases h; exact .base (.bl b)
  | int i => cases h; exact .base (.int i)
  | str x => cases h; exact .base (.str x)
  | lst nx hs _ => cases h; exact .base (.lst hs)
  | scr nx hs =>
    cases h
    rcases hs with (hs | ⟨o, hs⟩) | ⟨o, _, _, hs, e, _⟩
    · exact .base (.lst hs)
    · exact .base (.frz hs)
    · exact .kList hs e
  | tup nx hs _ =>
    cases h
    rcases hs with (hs | ⟨o, hs⟩) | ⟨o, _, _, hs, e, _⟩
    · exact .base (.tup hs)
    · exact .fTuple hs
    · exact .kTuple hs e
  | dct nx hs hl _ => cases h; exact .base (.dK hs)
  | obj => cases h
theorem de_glob {x : Str} {v : V} {d : D} {u : Value} {pos : Pos} (hg : g.K = X.K) (hm : X.mg x = some u) (r : RelV v u) (hr : ∀ H Xx, Rep g H Xx v d) (hgl : Gl X x := by rfl) (hd : (x == ("__debug__" : Str)) = false := by decide) : DE X g (.Name x pos) (eC d) :=
  de_c hg (pe_glob hgl hm r hd) hr
include hg
theorem boot_isi : bootBuiltins "isinstance" = some (.builtin "isinstance") := by decide +kernel
theorem boot_ty (t : Bty) (h : t ≠ .none) : bootBuiltins (Str.ofString t.nm) = some (.type t.nm) := by cases t <;> first | decide +kernel | exact absurd rfl h
theorem de_isB {t : Bty} {a : Expr} {fa : Ex} {p1 p2 pos : Pos} {x : Str} (ha : DE X g a fa) (hm : X.mg "isinstance" = none) (hmt : X.mg x = none) (hb : bootBuiltins x = some (.type t.nm) := by exact boot_ty _ (by decide)) (hgl : Gl X "isinstance" := by rfl) (hgt : Gl X x := by rfl) (hn : x ≠ "__name__" := by decide) (hd : (x == ("__debug__" : Str)) = false := by decide)
    (he : starEach [a, .Name x p2] X.env = (false, eval a X.env) :: starEach [.Name x p2] X.env := by rfl) (he2 : starEach [.Name x p2] X.env = (false, eval (.Name x p2) X.env) :: starEach [] X.env := by rfl) (hpl : (backTo pos (starEach [.Name x p2] X.env)).any (·.1) = false := by rfl) :
    DE X g (.Call (.Name "isinstance" p1) [a, .Name x p2] [] pos) (eIsB t fa) := by
  refine ⟨PE.by hg (pe_callB call_isi hgl hm (boot_isi hg) (pa_cons ha.pe (pa_cons (pe_bltn hgt hmt hb (v := .ty t.nm) rfl hn hd) pa_nil he2) he) (by decide) (by decide) he hpl) fun σ H Q h => ?_⟩
  obtain ⟨e, Xx, ow, er, h⟩ := h
  refine ⟨e, Xx, ow, er, (Ro.all_bind.mp h).mono fun p h => ?_⟩
  intro v H1 po rv
  split at h
  · rename_i b hb
    unfold isB at hb
    obtain ⟨k, h1, h2⟩ := Option.map_eq_some_iff.mp hb
    subst h2
    exact ⟨v, .ty t.nm, _, _, _, rfl, .ty _, by rw [← hg]; exact tyx_of rv.1.1 h1, kit_ty (kit_tab k t), fun s => h _ H1 po (.old (.bl _))⟩
  · exact False.elim h
theorem kitAny_tab {K : PySem.W.Frag} (k : Bty) : ∀ ts : List Bty, PySem.W.kitAny K (.type k.nm) (ts.map fun t => Value.type t.nm) = some (ts.any fun t => k.is t)
  | [] => rfl
  | t :: ts => by
    refine kitAny_cons (kit_ty (kit_tab k t)) (fun h => ?_) fun h => ?_
    · rw [kitAny_tab k ts, List.any_cons, h]
      rfl
    · rw [List.any_cons, h]
      rfl
/-- isinstance(x, (a, b)) -/
theorem de_isB2 {t1 t2 : Bty} {a : Expr} {fa : Ex} {p1 p2 p3 pt pos : Pos} {k : Nat} {x y : Str} (ha : DE X g a fa) (hm : X.mg "isinstance" = none) (hmx : X.mg x = none) (hmy : X.mg y = none) (hbx : bootBuiltins x = some (.type t1.nm) := by exact boot_ty _ (by decide)) (hby : bootBuiltins y = some (.type t2.nm) := by exact boot_ty _ (by decide))
    (hgl : Gl X "isinstance" := by rfl) (hgx : Gl X x := by rfl) (hgy : Gl X y := by rfl) (hnx : x ≠ "__name__" := by decide) (hdx : (x == ("__debug__" : Str)) = false := by decide) (hny : y ≠ "__name__" := by decide) (hdy : (y == ("__debug__" : Str)) = false := by decide)
    (h1 : starEach [.Name x p2, .Name y p3] X.env = (false, eval (.Name x p2) X.env) :: starEach [.Name y p3] X.env := by rfl) (h2 : starEach [.Name y p3] X.env = (false, eval (.Name y p3) X.env) :: starEach [] X.env := by rfl)
    (he : starEach [a, .Tuple [.Name x p2, .Name y p3] k pt] X.env = (false, eval a X.env) :: starEach [.Tuple [.Name x p2, .Name y p3] k pt] X.env := by rfl) (he2 : starEach [.Tuple [.Name x p2, .Name y p3] k pt] X.env = (false, eval (.Tuple [.Name x p2, .Name y p3] k pt) X.env) :: starEach [] X.env := by rfl) (hpl : (backTo pos (starEach [.Tuple [.Name x p2, .Name y p3] k pt] X.env)).any (·.1) = false := by rfl) :
    DE X g (.Call (.Name "isinstance" p1) [a, .Tuple [.Name x p2, .Name y p3] k pt] [] pos) (eIsBs [t1, t2] fa) := by
  refine ⟨PE.by hg (pe_callB call_isiT hgl hm (boot_isi hg) (pa_cons ha.pe (pa_cons (pe_tup (pa_cons (pe_bltn hgx hmx hbx (v := .ty t1.nm) rfl hnx hdx) (pa_cons (pe_bltn hgy hmy hby (v := .ty t2.nm) rfl hny hdy) pa_nil h2) h1)) pa_nil he2) he) (by decide) (by decide) he hpl) fun σ H Q h => ?_⟩
  obtain ⟨e, Xx, ow, er, h⟩ := h
  refine ⟨e, Xx, ow, er, (Ro.all_bind.mp h).mono fun p h => ?_⟩
  intro v H1 po rv
  split at h
  · rename_i b hb
    refine ⟨by show 2 ≤ sizeLine; rw [sizeLine_eq]; decide, fun q n => ?_⟩
    refine ⟨v, q, [.ty t1.nm, .ty t2.nm], .type b.nm, [.type t1.nm, .type t2.nm], _, rfl, upd_same, .cons (.ty _) (.cons (.ty _) .nil), ?_, kitAny_tab hg b [t1, t2], fun s => ?_⟩
    · rw [← hg]
      exact tyx_of (rv.1.1.same (same_upd hg n)) hb
    · exact h _ _ (po.trans (.of po.er (same_upd hg n) s)) (.old (.bl _))
  · exact False.elim h
/-- isinstance(x, C), C an own class -/
theorem de_isO {c : Nat} {tab : Nat → Option Bool} {a : Expr} {fa : Ex} {p1 p2 pos : Pos} {x : Str} (ha : DE X g a fa) (hm : X.mg "isinstance" = none) (hmt : X.mg x = some (.ref (g.cl c))) (hb : ∀ t : Bty, PySem.W.kitOne X.K (.type t.nm) (.ref (g.cl c)) = some false)
    (ho : ∀ k b, tab k = some b → KI X.K (g.cl k) ∧ PySem.W.kitOne X.K (.ref (g.cl k)) (.ref (g.cl c)) = some b)
    (hgl : Gl X "isinstance" := by rfl) (hgt : Gl X x := by rfl) (hd : (x == ("__debug__" : Str)) = false := by decide)
    (he : starEach [a, .Name x p2] X.env = (false, eval a X.env) :: starEach [.Name x p2] X.env := by rfl) (he2 : starEach [.Name x p2] X.env = (false, eval (.Name x p2) X.env) :: starEach [] X.env := by rfl) (hpl : (backTo pos (starEach [.Name x p2] X.env)).any (·.1) = false := by rfl) :
    DE X g (.Call (.Name "isinstance" p1) [a, .Name x p2] [] pos) (eIsO tab fa) := by
  refine ⟨PE.by hg (pe_callB call_isi hgl hm (boot_isi hg) (pa_cons ha.pe (pa_cons (pe_glob hgt hmt (v := .ref (g.cl c)) rfl hd) pa_nil he2) he) (by decide) (by decide) he hpl) fun σ H Q h => ?_⟩
  obtain ⟨e, Xx, ow, er, h⟩ := h
  refine ⟨e, Xx, ow, er, (Ro.all_bind.mp h).mono fun p h => ?_⟩
  intro v H1 po rv
  have rr := rv.1.1
  have bas : ∀ t, tyD p.1 = some t → (Ro.ok (D.bl false, false, p.2.2) : Er).all (fun p => ∀ v H', Po g Xx ow σ e p.2.2 H H' → RVx g H H' Xx ow σ p.2.2 v p.1 p.2.1 → Q v H') → rIsi X.K [v, .ref (g.cl c)] H1 (fun v H' => Sep g H' → Q v H') := fun t ht h =>
    ⟨v, .ref (g.cl c), _, _, false, rfl, .own _, by rw [← hg]; exact tyx_of rr ht, hb t, fun s => h _ H1 po (.old (.bl _))⟩
  cases hp : p.1 with
  | obj k ns ds =>
    rw [hp] at h rr
    dsimp only at h
    split at h
    · rename_i b hk
      obtain ⟨ki, kk⟩ := ho k b hk
      cases rr with
      | obj nx hH hnl r1 => exact ⟨_, .ref (g.cl c), _, _, b, rfl, .own _, .base (.ins hH ki.cl ki.ha ki.hn ki.htk ki.hm), kk, fun s => h _ H1 po (.old (.bl _))⟩
    · exact False.elim h
  | non => rw [hp] at h bas; exact bas _ rfl h
  | bl b => rw [hp] at h bas; exact bas _ rfl h
  | int i => rw [hp] at h bas; exact bas _ rfl h
  | str i => rw [hp] at h bas; exact bas _ rfl h
  | lst i => rw [hp] at h bas; exact bas _ rfl h
  | tup i => rw [hp] at h bas; exact bas _ rfl h
  | scr i => rw [hp] at h bas; exact bas _ rfl h
  | dct k i => rw [hp] at h bas; exact bas _ rfl h
end
end G

/-! own ==, !=, in, not in, len. -/
namespace GW
open PySem PySem.Spec PyProof.Rows PySem.W
section
variable {prog : Program} {w : World} {A : Around} {E : Value → Shared → Prop} {s : Shared} {K : Frag} {x y C f : Addr} {ox oy : Obj} {od od' : Option Obj}
theorem ne_entry (hu : A.units < cLine) (X : K.In s.heap) (I : InstAt s.heap x ox C od) (hs : findIn K (.ref C) "__eq__" = some (some (.ref f))) (hf : isFn K (.ref f) = true) {Q : Fin → Shared → Prop}
    (hcall : wpAny (model prog w) A (call (.ref f) [.ref x, .ref y]) (fun v s' => ∃ b, v = .bool b ∧ Q (.done (.ret (.bool (!b)))) s') E s) :
    wpAny (model prog w) A (Builtin.«object.__ne__» ⟨[.ref x, .ref y], []⟩) Q E s := by
  unfold Builtin.«object.__ne__»
  repeat (first
    | with_reducible refine wpAny_cRoomFor hu ?_
    | (refine wpAny_bind (m := callSpecialIfBound? (.ref x) (Str.ofString "__eq__") [.ref y])
        (ifBound_K X I hs hf (wpAny_mono hcall (fun r s' hr => by
          obtain ⟨b, rfl, hq⟩ := hr
          repeat (first | exact hq | exact wpAny_pure hq | exact wpAny_truthy_bool hq | (refine wpAny_bind (m := truthy (.bool _)) (wpAny_truthy_bool ?_)) | wp_step)) fun _ _ e => e)))
    | wp_step)
theorem call_ne (hu : A.units + 1 < cLine) (X : K.In s.heap) (I : InstAt s.heap x ox C od) (hm : mroIn K C (.type "object") = some true) (hs : findIn K (.ref C) "__eq__" = some (some (.ref f))) (hf : isFn K (.ref f) = true) {Q : Value → Shared → Prop}
    (hcall : wpAny (model prog w) A.in1 (call (.ref f) [.ref x, .ref y]) (fun v s' => ∃ b, v = .bool b ∧ Q (.bool (!b)) s') E s) :
    wpAny (model prog w) A (call (.builtin "object.__ne__") [.ref x, .ref y]) Q E s :=
  wpAny_call (codeAny_call_builtin F.cmp_object.ne.plain F.cmpEntry_ne (check_slot F.cmpKind_ne F.cmpSplit_ne (I.type.andThen (looks_mroIn X hm)) (F.cmpArgs_ne _ _) (ne_entry (A := A.in1) hu X I hs hf hcall)))
theorem ifBound_ne {args : List Value} {Q : Option Value → Shared → Prop} (X : K.In s.heap) (I : InstAt s.heap x ox C od) (hs : findIn K (.ref C) "__ne__" = some (some (.builtin "object.__ne__")))
    (h : wpAny (model prog w) A (call (.builtin "object.__ne__") (.ref x :: args)) (fun v => Q (some v)) E s) : wpAny (model prog w) A (callSpecialIfBound? (.ref x) "__ne__" args) Q E s := by
  simp only [callSpecialIfBound?, bindSpecialIfBound?]
  refine wpAny_holding (wpAny_bind (wpAny_bind (wpAny_bind (I.type.here ((looks_findIn X hs).here ?_)))))
  refine wpAny_bind (wpAny_askSetting (wpAny_ite ?_))
  have fin : wpAny (model prog w) A (call (.builtin "object.__ne__") ([.ref x] ++ args) >>= fun v => pure (some v)) Q E s := wpAny_bind (wpAny_mono h (fun v s' h' => wpAny_pure h') fun _ _ h' => h')
  split
  · exact wpAny_bind (wpAny_of_eq (F.cmp_object.ne.bind _) (wpAny_pure (by exact fin)))
  · exact wpAny_tryCatch (wpAny_bind (wpAny_of_eq (F.cmp_object.ne.bind _) (wpAny_pure (by exact fin))))
theorem rc_ne (hu : A.units + 1 < cLine) (X : K.In s.heap) (I : InstAt s.heap x ox C od) (I' : InstAt s.heap y oy C od') (hm : mroIn K C (.type "object") = some true) (hne : findIn K (.ref C) "__ne__" = some (some (.builtin "object.__ne__")))
    (hs : findIn K (.ref C) "__eq__" = some (some (.ref f))) (hf : isFn K (.ref f) = true) {Q : Value → Shared → Prop}
    (hcall : wpAny (model prog w) A.in1 (call (.ref f) [.ref x, .ref y]) (fun v s' => ∃ b, v = .bool b ∧ Q (.bool (!b)) s') E s) :
    wpAny (model prog w) A (richCompare .NotEq (.ref x) (.ref y)) Q E s := by
  have one : wpAny (model prog w) A (tryCompare (.ref x) "__ne__" (.ref y)) (fun r s' => ∃ v, r = some v ∧ Q v s') E s := by
    unfold tryCompare
    refine wpAny_bind (ifBound_ne X I hne (call_ne hu X I hm hs hf (wpAny_mono hcall (fun v s' hv => ?_) fun _ _ e => e)))
    obtain ⟨b, rfl, hq⟩ := hv
    exact ⟨b, rfl, wpAny_pure ⟨_, rfl, hq⟩⟩
  unfold richCompare
  simp only [oneThing_ref]
  refine wpAny_holding (wpAny_bind (wpAny_cRoomFor (Nat.lt_of_succ_lt hu) ?_))
  refine wpAny_bind (I.type.here (wpAny_bind (I'.type.here ?_)))
  rw [show (Value.ref C != Value.ref C) = false from by simp]
  simp only [Bool.false_eq_true, if_false]
  refine wpAny_bind (wpAny_pure ?_)
  simp only [Bool.false_eq_true, if_false]
  refine wpAny_bind (wpAny_mono one (fun r s' z => ?_) fun _ _ e => e)
  obtain ⟨v, rfl, hq⟩ := z
  exact wpAny_pure hq
end
end GW
namespace G
open PySem PySem.Spec PyProof.Rows L2
/-- the class c has the special method m that does what F says -/
structure Ks (P : Program) (w : World) (K : PySem.W.Frag) (mg : Str → Option Value) (base : Heap) (g : Gc) (c : Nat) (m : Str) (k np : Nat) (F : Fn) : Prop where
  ex : ∃ (f : Addr) (fd : FuncData) (ps : List Str), ps.length = np ∧ FnG P w K mg base g k f fd ps false F ∧ PySem.W.findIn K (.ref (g.cl c)) m = some (some (.ref f)) ∧ PySem.W.isFn K (.ref f) = true ∧ Binds K fd ps []
def blOf (neg : Bool) : Ro (D × Bool × List D) → DV
  | .ok (.bl b, _, _) => some (.bl (neg != b), false)
  | _ => none
def cmpOD (neg : Bool) (c : Nat) (F : Fn) : D → D → DV
  | .obj c1 n1 d1, .obj c2 n2 d2 => if c1 = c ∧ c2 = c then blOf neg (F [.obj c1 n1 d1, .obj c2 n2 d2]) else none
  | _, _ => none
def inOD (neg : Bool) (c : Nat) (F : Fn) : D → D → DV
  | d, .obj c2 n2 d2 => if c2 = c then blOf neg (F [.obj c2 n2 d2, d]) else none
  | _, _ => none
def lenOD (c : Nat) (F : Fn) : List D → DV
  | [.obj c2 n2 d2] => if c2 = c then (match F [.obj c2 n2 d2] with
    | .ok (.int n, _, _) => if 0 ≤ n ∧ n < 2 ^ 63 then some (.int n, false) else none
    | _ => none) else none
  | _ => none
theorem blOf_eq {neg : Bool} {r : Ro (D × Bool × List D)} {d : D} {fr : Bool} (h : blOf neg r = some (d, fr)) : ∃ b f l, r = .ok (.bl b, f, l) ∧ d = .bl (neg != b) ∧ fr = false := by
  unfold blOf at h
  split at h
  · cases h
    exact ⟨_, _, _, rfl, rfl, rfl⟩
  · cases h
def rCmpO (g : Gc) (neg : Bool) (c : Nat) (F : Fn) : R2 := fun x y H Q => ∃ a b dx dy fs gs, x = .ref a ∧ y = .ref b ∧ H a = some (.ins (g.cl c) dx fs) ∧ H b = some (.ins (g.cl c) dy gs) ∧
  (Sep g H → spD g 2 false F [x, y] H (fun v H' => ∃ bo, v = .bl bo ∧ Q (.bl (neg != bo)) H') E0)
def rInO (g : Gc) (neg : Bool) (c : Nat) (F : Fn) : R2 := fun x y H Q => ∃ b dy gs, y = .ref b ∧ H b = some (.ins (g.cl c) dy gs) ∧
  (Sep g H → spD g 2 false F [y, x] H (fun v H' => ∃ bo, v = .bl bo ∧ Q (.bl (neg != bo)) H') E0)
def rLenO (g : Gc) (c : Nat) (F : Fn) : List V → Hp → VK → Prop := fun xs H Q => ∃ b dy gs, xs = [.ref b] ∧ H b = some (.ins (g.cl c) dy gs) ∧
  (Sep g H → spD g 1 false F xs H (fun v H' => ∃ n : Int, v = .int n ∧ (0 ≤ n ∧ n < 2 ^ 63) ∧ Q v H') E0)
section
variable {X : Cx} {g : Gc} (hg : g.K = X.K)
/-- the call of a special method, below the running body -/
theorem run_spec {k np : Nat} {f : Addr} {fd : FuncData} {ps : List Str} {Fs : Fn} {pins : List (Addr × Obj)} {σ : St} {H : Hp} {s : Shared} {Q : VK} {us : List Value} {vs : List V} {A : Around} (hg : g.K = X.K) (F : FnG X.prog X.w X.K X.mg X.base g k f fd ps false Fs) (hnp : ps.length = np) (hr : Room k A) (hgd : A.guards = some []) (hfr : A.frames = X.A.frames) (hb : Binds X.K fd ps [])
    (I : Inv X pins σ H s) (rv : Vals vs us) (h : Sep g H → spD g np false Fs vs H Q E0) : wpAny (model X.prog X.w) A (call (.ref f) us) (fun u s' => ∃ v H', Inv X pins σ H' s' ∧ RelV v u ∧ Q v H') X.xe s := by
  have h := h (sep_of hg I)
  subst hnp
  have hl : us.length = ps.length := by
    obtain ⟨_, ds, h1, h2, _⟩ := h
    rw [← rv.length, h2.len, h1]
  have bt := hb s us I.kIn (by rw [List.append_nil]; exact hl)
  rw [List.append_nil] at bt
  have e0 : Env0 X.prog X.w X.K X.mg X.base A X.stack s H := by
    have e := I.env0
    exact ⟨by rw [hfr]; exact e.frames, e.mod, e.bs, e.bsz, e.funs, e.frf, e.hok, e.bare⟩
  refine wpAny_call (codeAny_mono (F.run A X.stack s H ⟨us, []⟩ us vs Q hr hgd e0 bt rv h) fun r s' hq => ?_)
  cases r with
  | error e => exact False.elim hq
  | ok fl =>
    cases fl with
    | ret u =>
      obtain ⟨v, H', I', r, q⟩ := I.after hq
      exact ⟨v, H', I', r, q⟩
    | next => exact False.elim hq
    | brk => exact False.elim hq
    | cont => exact False.elim hq
theorem op_eqO {c k : Nat} {F : Fn} (hg : g.K = X.K) (Z : Ks X.prog X.w X.K X.mg X.base g c "__eq__" k 2 F) (hr : Room k X.A) (hgd : X.A.guards = some []) : OpR X (compareOp .Eq) (rCmpO g false c F) := by
  intro pins s σ H x y v u Q I rx ry hq
  obtain ⟨f, fd, ps, hnp, hF, hs, hf, hb⟩ := Z.ex
  obtain ⟨a, b, dx, dy, fs, gs, rfl, rfl, ha, hb', hq⟩ := hq
  cases rx
  cases ry
  obtain ⟨mA, J, _⟩ := ins_get I.hok ha
  obtain ⟨mB, J', _⟩ := ins_get I.hok hb'
  obtain ⟨od, J, _⟩ := J.look
  obtain ⟨od', J', _⟩ := J'.look
  obtain ⟨m, hFr⟩ := I.fr
  show wpAny (model X.prog X.w) X.A (richCompare .Eq _ _) (EP X pins σ Q) X.xe s
  refine PySem.W.cmp_K (op := .Eq) (tb := .ref (g.cl c)) hr.units0 hFr I.ok.mod.kin J J'.type (by simp [PySem.W.notFirst]) hs hf ?_
  refine wpAny_mono (run_spec hg hF hnp hr hgd rfl hb I (us := [.ref a, .ref b]) (vs := [.ref a, .ref b]) (.cons rfl (.cons rfl .nil)) hq) (fun u s' z => ?_) fun _ _ z => z
  obtain ⟨v, H', I', r, bo, ev, q⟩ := z
  subst ev
  cases r
  exact ⟨.bl bo, H', I', rfl, by simpa using q⟩
theorem op_neO {c k : Nat} {F : Fn} (hg : g.K = X.K) (Z : Ks X.prog X.w X.K X.mg X.base g c "__eq__" k 2 F) (hne : PySem.W.findIn X.K (.ref (g.cl c)) "__ne__" = some (some (.builtin "object.__ne__"))) (hm : PySem.W.mroIn X.K (g.cl c) (.type "object") = some true) (hr : Room (k + 1) X.A) (hgd : X.A.guards = some []) : OpR X (compareOp .NotEq) (rCmpO g true c F) := by
  intro pins s σ H x y v u Q I rx ry hq
  obtain ⟨f, fd, ps, hnp, hF, hs, hf, hb⟩ := Z.ex
  obtain ⟨a, b, dx, dy, fs, gs, rfl, rfl, ha, hb', hq⟩ := hq
  cases rx
  cases ry
  obtain ⟨mA, J, _⟩ := ins_get I.hok ha
  obtain ⟨mB, J', _⟩ := ins_get I.hok hb'
  obtain ⟨od, J, _⟩ := J.look
  obtain ⟨od', J', _⟩ := J'.look
  show wpAny (model X.prog X.w) X.A (richCompare .NotEq _ _) (EP X pins σ Q) X.xe s
  refine GW.rc_ne hr.in1.units0 I.kIn J J' hm hne hs hf ?_
  refine wpAny_mono (run_spec hg hF hnp hr.in1 hgd rfl hb I (us := [.ref a, .ref b]) (vs := [.ref a, .ref b]) (.cons rfl (.cons rfl .nil)) hq) (fun u s' z => ?_) fun _ _ z => z
  obtain ⟨v, H', I', r, bo, ev, q⟩ := z
  subst ev
  cases r
  exact ⟨bo, rfl, .bl (!bo), H', I', rfl, by simpa using q⟩
theorem op_inO {c k : Nat} {F : Fn} (hg : g.K = X.K) (Z : Ks X.prog X.w X.K X.mg X.base g c "__contains__" k 2 F) (hr : Room k X.A) (hgd : X.A.guards = some []) : OpR X (compareOp .In) (rInO g false c F) := by
  intro pins s σ H x y v u Q I rx ry hq
  obtain ⟨f, fd, ps, hnp, hF, hs, hf, hb⟩ := Z.ex
  obtain ⟨b, dy, gs, rfl, hb', hq⟩ := hq
  cases ry
  obtain ⟨mB, J', _⟩ := ins_get I.hok hb'
  obtain ⟨od', J', _⟩ := J'.look
  obtain ⟨m, hFr⟩ := I.fr
  refine PySem.W.in_K hFr I.ok.mod.kin J' hs hf ?_
  refine wpAny_mono (run_spec hg hF hnp hr hgd rfl hb I (us := [.ref b, v]) (vs := [.ref b, x]) (.cons rfl (.cons rx .nil)) hq) (fun u s' z => ?_) fun _ _ z => z
  obtain ⟨v, H', I', r, bo, ev, q⟩ := z
  subst ev
  cases r
  exact wpAny_truthy_bool ⟨.bl bo, H', I', rfl, by simpa using q⟩
theorem op_ninO {c k : Nat} {F : Fn} (hg : g.K = X.K) (Z : Ks X.prog X.w X.K X.mg X.base g c "__contains__" k 2 F) (hr : Room k X.A) (hgd : X.A.guards = some []) : OpR X (compareOp .NotIn) (rInO g true c F) := by
  intro pins s σ H x y v u Q I rx ry hq
  obtain ⟨f, fd, ps, hnp, hF, hs, hf, hb⟩ := Z.ex
  obtain ⟨b, dy, gs, rfl, hb', hq⟩ := hq
  cases ry
  obtain ⟨mB, J', _⟩ := ins_get I.hok hb'
  obtain ⟨od', J', _⟩ := J'.look
  obtain ⟨m, hFr⟩ := I.fr
  refine PySem.W.notIn_K hFr I.ok.mod.kin J' hs hf ?_
  refine wpAny_mono (run_spec hg hF hnp hr hgd rfl hb I (us := [.ref b, v]) (vs := [.ref b, x]) (.cons rfl (.cons rx .nil)) hq) (fun u s' z => ?_) fun _ _ z => z
  obtain ⟨v, H', I', r, bo, ev, q⟩ := z
  subst ev
  cases r
  exact wpAny_truthy_bool ⟨.bl (!bo), H', I', rfl, by simpa using q⟩
theorem call_lenO {c k : Nat} {F : Fn} (hg : g.K = X.K) (Z : Ks X.prog X.w X.K X.mg X.base g c "__len__" k 1 F) (hr : Room (k + 1) X.A) (hgd : X.A.guards = some []) : CallR X (.builtin "len") (rLenO g c F) := by
  intro pins s σ H xs us Q I r hq
  obtain ⟨f, fd, ps, hnp, hF, hs, hf, hb⟩ := Z.ex
  obtain ⟨b, dy, gs, rfl, hb', hq⟩ := hq
  cases r with
  | cons r0 r1 =>
    cases r1
    cases r0
    obtain ⟨mB, J', _⟩ := ins_get I.hok hb'
    obtain ⟨od', J', _⟩ := J'.look
    obtain ⟨m, hFr⟩ := I.fr
    refine PySem.W.len_K hFr I.ok.mod.kin J' hs hf ?_
    refine wpAny_mono (run_spec hg hF hnp hr.in1 hgd rfl hb I (us := [.ref b]) (vs := [.ref b]) (.cons rfl .nil) hq) (fun u s' z => ?_) fun _ _ z => z
    obtain ⟨v, H', I', r, n, ev, hn, q⟩ := z
    subst ev
    obtain ⟨t, er⟩ := (show ∃ t, u = Value.int n t from r)
    subst er
    exact ⟨hn, .int n, H', I'.tok _, ⟨_, rfl⟩, q⟩
theorem s_cmpO {neg : Bool} {c : Nat} {F : Fn} : BinS g (rCmpO g neg c F) (cmpOD neg c F) := by
  intro x y dx dy H Xx Q d fr rx ry hx ho q
  cases dx <;> cases dy <;> first | cases ho | skip
  dsimp only [cmpOD] at ho
  split at ho
  · rename_i hc
    obtain ⟨rfl, rfl⟩ := hc
    obtain ⟨b, f, l, e1, rfl, rfl⟩ := blOf_eq ho
    have rx' := rx
    have ry' := ry
    cases rx' with
    | obj nx h1 h2 h3 =>
      cases ry' with
      | obj nx' h1' h2' h3' =>
        refine ⟨_, _, _, _, _, _, rfl, rfl, h1, h1', fun s => ⟨Xx, _, rfl, .inl ⟨rfl, .cons rx (.cons ry .nil)⟩, hx, s, ?_⟩⟩
        rw [e1]
        intro v H' pp
        have r := pp.rep
        cases r
        exact ⟨b, rfl, fun s' => q _ H' (pp.same rfl) s' (.old (.bl _))⟩
  · cases ho
theorem s_inO {neg : Bool} {c : Nat} {F : Fn} : BinS g (rInO g neg c F) (inOD neg c F) := by
  intro x y dx dy H Xx Q d fr rx ry hx ho q
  unfold inOD at ho
  split at ho
  · rename_i d0 c2 n2 d2
    split at ho
    · rename_i hc
      subst hc
      obtain ⟨b, f, l, e1, rfl, rfl⟩ := blOf_eq ho
      have ry' := ry
      cases ry' with
      | obj nx' h1' h2' h3' =>
        refine ⟨_, _, _, rfl, h1', fun s => ⟨Xx, _, rfl, .inl ⟨rfl, .cons ry (.cons rx .nil)⟩, hx, s, ?_⟩⟩
        rw [e1]
        intro v H' pp
        have r := pp.rep
        cases r
        exact ⟨b, rfl, fun s' => q _ H' (pp.same rfl) s' (.old (.bl _))⟩
    · cases ho
  · cases ho
theorem s_lenO {c : Nat} {F : Fn} : CallS g (rLenO g c F) (lenOD c F) := by
  intro xs ds H Xx Q d fr r hx ho q
  unfold lenOD at ho
  split at ho
  · rename_i c2 n2 d2
    split at ho
    · rename_i hc
      subst hc
      split at ho
      · rename_i n f l e1
        split at ho
        · rename_i hn
          cases ho
          have r' := r
          cases r' with
          | cons a b =>
            cases b
            cases a with
            | obj nx' h1' h2' h3' =>
              refine ⟨_, _, _, rfl, h1', fun s => ⟨Xx, _, rfl, .inl ⟨rfl, r⟩, hx, s, ?_⟩⟩
              rw [e1]
              intro v H' pp
              have r := pp.rep
              cases r
              exact ⟨n, rfl, hn, fun s' => q _ H' (pp.same rfl) s' (.old (.int _))⟩
        · cases ho
      · cases ho
    · cases ho
  · cases ho
end
end G

/-! Pairs and triples with lists of one's own; list(range); slices. -/
namespace G
open PySem PySem.Spec PyProof.Rows L2
def evF : List (Bool × Ex) → En → Ro (List (Bool × D) × En)
  | [], e => .ok ([], e)
  | (k, f) :: r, e => (f e).bind fun p => if k = true ∧ p.2.1 = false then .bad else (evF r p.2.2).bind fun q => .ok ((k, p.1) :: q.1, q.2)
def slF (k : Bool) (d : D) : SV := match k, d with
  | true, .lst ds => .own ds
  | _, d => .val d
def setF : List Nat → List (Bool × D) → En → En
  | i :: r, (k, d) :: s, e => setF r s (e.set i (some (slF k d)))
  | _, _, e => e
def sParF (is : List Nat) (fs : List (Bool × Ex)) : Sm := fun e => (evF fs e).so fun p => if p.1.length = is.length then .nx (setF is p.1 p.2) else .bad
inductive ItsF (g : Gc) (H0 H : Hp) (X : Px) (ow : Nat → Addr) (e : En) : List V → List (Bool × D) → Prop
  | nil : ItsF g H0 H X ow e [] []
  | val {v : V} {vs : List V} {d : D} {ks : List (Bool × D)} : Rep g H X v d → ItsF g H0 H X ow e vs ks → ItsF g H0 H X ow e (v :: vs) ((false, d) :: ks)
  | own {a : Addr} {vs ws : List V} {ds : List D} {ks : List (Bool × D)} : X a → H0 a = none → H a = some (.lst ws) → Reps g H X ws ds → (∀ (j : Nat) sv, e[j]? = some (some sv) → sv.mut = true → ow j ≠ a) → V.ref a ∉ vs → ItsF g H0 H X ow e vs ks → ItsF g H0 H X ow e (.ref a :: vs) ((true, .lst ds) :: ks)
section
variable {g : Gc} {H0 H H1 : Hp} {X X1 : Px} {ow : Nat → Addr} {σ : St} {e e1 e0 : En} {X0 : Px} {ow0 : Nat → Addr}
theorem ItsF.len {vs : List V} {ks : List (Bool × D)} (h : ItsF g H0 H X ow e vs ks) : vs.length = ks.length := by
  induction h with
  | nil => rfl
  | val _ _ ih => exact congrArg Nat.succ ih
  | own _ _ _ _ _ _ _ ih => exact congrArg Nat.succ ih
/-- earlier heap at the start -/
theorem ItsF.back {Hs : Hp} {vs : List V} {ks : List (Bool × D)} (h : ItsF g H0 H X ow e vs ks) (k : ∀ a, H0 a = none → Hs a = none) : ItsF g Hs H X ow e vs ks := by
  induction h with
  | nil => exact .nil
  | val r _ ih => exact .val r ih
  | own x n q r m nv _ ih => exact .own x (k _ n) q r m nv ih
/-- the slots change -/
theorem ItsF.env {ow' : Nat → Addr} {e' : En} {vs : List V} {ks : List (Bool × D)} (h : ItsF g H0 H X ow e vs ks) (k : ∀ (j : Nat) sv, e'[j]? = some (some sv) → sv.mut = true → (∃ s0, e[j]? = some (some s0) ∧ s0.mut = true ∧ ow' j = ow j) ∨ V.ref (ow' j) ∉ vs) : ItsF g H0 H X ow' e' vs ks := by
  induction h with
  | nil => exact .nil
  | val r _ ih => exact .val r (ih fun j sv q m => (k j sv q m).imp id fun z y => z (List.mem_cons_of_mem _ y))
  | own x n q r m nv _ ih => exact .own x n q r (fun j sv q2 m2 => by
      rcases k j sv q2 m2 with ⟨s0, h0, m0, e0⟩ | z
      · rw [e0]; exact m j s0 h0 m0
      · exact fun y => z (by rw [y]; exact List.mem_cons_self)) nv (ih fun j sv q m => (k j sv q m).imp id fun z y => z (List.mem_cons_of_mem _ y))
theorem ER.ownG {a : Addr} {vs : List V} {ds : List D} (er : ER g H X ow σ e) (i : Nat) (xa : X a) (ha : H a = some (.lst vs)) (r : Reps g H X vs ds) (hX : ∀ (j : Nat) sv, e[j]? = some (some sv) → sv.mut = true → ow j ≠ a) :
    ER g H X (owSet ow i a) (σ.set i (some (.ref a))) (e.set i (some (.own ds))) := by
  refine ⟨by rw [List.length_set, List.length_set]; exact er.len, er.xs, er.sep, fun j sv q => ?_, fun j k s t q1 q2 m1 m2 z => ?_⟩
  · by_cases hj : i = j
    · subst hj
      have hi : i < e.length := by
        have := (List.getElem?_eq_some_iff.mp q).1
        simpa using this
      rw [List.getElem?_set_self hi] at q
      cases q
      refine ⟨.ref a, List.getElem?_set_self (by rw [← er.len]; exact hi), ?_⟩
      refine ⟨by simp [owSet], by simp [owSet]; exact xa, vs, by simp only [owSet, if_true]; exact ha, r⟩
    · rw [List.getElem?_set_ne hj] at q
      obtain ⟨w, h1, h2⟩ := er.sl j sv q
      refine ⟨w, by rw [List.getElem?_set_ne hj]; exact h1, ?_⟩
      have : owSet ow i a j = ow j := by simp [owSet, Ne.symm hj]
      rw [this]
      exact h2
  · by_cases hj : i = j
    · by_cases hk : i = k
      · exact hj.symm.trans hk
      · rw [List.getElem?_set_ne hk] at q2
        have e1 : owSet ow i a j = a := by simp [owSet, hj]
        have e2 : owSet ow i a k = ow k := by simp [owSet, Ne.symm hk]
        rw [e1, e2] at z
        exact absurd z.symm (hX k t q2 m2)
    · rw [List.getElem?_set_ne hj] at q1
      have e1 : owSet ow i a j = ow j := by simp [owSet, Ne.symm hj]
      by_cases hk : i = k
      · have e2 : owSet ow i a k = a := by simp [owSet, hk]
        rw [e1, e2] at z
        exact absurd z (hX j s q1 m1)
      · rw [List.getElem?_set_ne hk] at q2
        have e2 : owSet ow i a k = ow k := by simp [owSet, Ne.symm hk]
        rw [e1, e2] at z
        exact er.ap j k s t q1 q2 m1 m2 z
/-- all the slots set, one by one -/
theorem par_all {bs : List Nat} : ∀ (is : List Nat) (vs : List V) (ks : List (Bool × D)) (ow : Nat → Addr) (σ : St) (e : En), (∀ i ∈ is, i ∈ bs) → ER g H X ow σ e → Trn g bs H0 X0 ow0 e0 H X ow e → ItsF g H0 H X ow e vs ks →
    ∃ ow', ER g H X ow' (setAllV is vs σ) (setF is ks e) ∧ Trn g bs H0 X0 ow0 e0 H X ow' (setF is ks e)
  | [], vs, ks, ow, σ, e, _, er, t, _ => ⟨ow, er, t⟩
  | i :: r, _, _, ow, σ, e, m, er, t, .nil => ⟨ow, er, t⟩
  | i :: r, _, _, ow, σ, e, m, er, t, .val (v := v) (vs := vs) (d := d) (ks := ks) rd rest => by
    have hi : i ∈ bs := m i (by simp)
    have key : ∀ (j : Nat) sv, (e.set i (some (SV.val d)))[j]? = some (some sv) → sv.mut = true → e[j]? = some (some sv) ∧ i ≠ j := fun j sv q mm => by
      by_cases hj : i = j
      · subst hj
        cases get_set_self q
        cases mm
      · rw [List.getElem?_set_ne hj] at q
        exact ⟨q, hj⟩
    have er1 := er.set i rd
    have t1 : Trn g bs H0 X0 ow0 e0 H X ow (e.set i (some (.val d))) := ⟨t.kp, t.al, t.x1, t.x2, fun j sv q mm => t.o1 j sv (key j sv q mm).1 mm, fun j hj => by
      have n1 : i ≠ j := fun z => hj (by rw [← z]; exact hi)
      rw [List.getElem?_set_ne n1]
      exact t.st j hj⟩
    obtain ⟨ow', a, b⟩ := par_all r vs ks ow (σ.set i (some v)) (e.set i (some (.val d))) (fun i hi => m i (List.mem_cons_of_mem _ hi)) er1 t1 (rest.env fun j sv q mm => .inl ⟨sv, (key j sv q mm).1, mm, rfl⟩)
    exact ⟨ow', a, b⟩
  | i :: r, _, _, ow, σ, e, m, er, t, .own (a := a) (vs := vs) (ws := ws) (ds := ds) (ks := ks) xa n q rr mm nv rest => by
    have hi : i ∈ bs := m i (by simp)
    have er1 := er.ownG i xa q rr mm
    have key : ∀ (j : Nat) sv, (e.set i (some (SV.own ds)))[j]? = some (some sv) → sv.mut = true → (i = j ∧ owSet ow i a j = a) ∨ (e[j]? = some (some sv) ∧ i ≠ j ∧ owSet ow i a j = ow j) := fun j sv q mm => by
      by_cases hj : i = j
      · exact .inl ⟨hj, by simp [owSet, hj]⟩
      · rw [List.getElem?_set_ne hj] at q
        exact .inr ⟨q, hj, by simp [owSet, Ne.symm hj]⟩
    have t1 : Trn g bs H0 X0 ow0 e0 H X (owSet ow i a) (e.set i (some (.own ds))) := ⟨t.kp, t.al, t.x1, t.x2, fun j sv q2 m2 => by
      rcases key j sv q2 m2 with ⟨_, z⟩ | ⟨z1, _, z2⟩
      · exact .inr (by rw [z]; exact n)
      · rw [z2]; exact t.o1 j sv z1 m2, fun j hj => by
      have n1 : i ≠ j := fun z => hj (by rw [← z]; exact hi)
      have z : owSet ow i a j = ow j := by simp [owSet, Ne.symm n1]
      rw [List.getElem?_set_ne n1, z]
      exact t.st j hj⟩
    obtain ⟨ow', a1, b1⟩ := par_all r vs ks (owSet ow i a) (σ.set i (some (.ref a))) (e.set i (some (.own ds))) (fun i hi => m i (List.mem_cons_of_mem _ hi)) er1 t1 (rest.env fun j sv q2 m2 => by
      rcases key j sv q2 m2 with ⟨_, z⟩ | ⟨z1, _, z2⟩
      · exact .inr (by rw [z]; exact nv)
      · exact .inl ⟨sv, z1, m2, z2⟩)
    exact ⟨ow', a1, b1⟩
/-- behind the components -/
structure PoF (g : Gc) (ow : Nat → Addr) (σ : St) (e e' : En) (H : Hp) (X : Px) (H' : Hp) (X' : Px) (vs : List V) (ks : List (Bool × D)) : Prop where
  er : ER g H' X' ow σ e'
  kd : Kind e e'
  kp : Kp ow e H H'
  x1 : ∀ a, X a → X' a
  x2 : ∀ a, Old g H a → X' a → X a
  it : ItsF g H H' X' ow e' vs ks
theorem ItsF.xs {vs : List V} {ks : List (Bool × D)} (h : ItsF g H0 H X ow e vs ks) {a : Addr} (m : V.ref a ∈ vs) : (¬ X a ∧ Old g H a) ∨ H0 a = none := by
  induction h with
  | nil => cases m
  | val r _ ih =>
    rcases List.mem_cons.mp m with z | z
    · subst z
      cases r with
      | lst nx h _ => exact .inl ⟨nx, .inl (by rw [h]; simp)⟩
      | scr nx h => exact .inl ⟨nx, old_l h⟩
      | tup nx h _ => exact .inl ⟨nx, old_t h⟩
      | dct nx h _ _ => exact .inl ⟨nx, .inl (by rw [h]; simp)⟩
      | obj nx h _ _ => exact .inl ⟨nx, .inl (by rw [h]; simp)⟩
    · exact ih z
  | own x n q r mm nv _ ih =>
    rcases List.mem_cons.mp m with z | z
    · cases z
      exact .inr n
    · exact ih z
theorem PoF.trn {bs : List Nat} {vs : List V} {ks : List (Bool × D)} (er : ER g H X ow σ e) (p : PoF g ow σ e e1 H X H1 X1 vs ks) : Trn g bs H X ow e H1 X1 ow e1 where
  kp := p.kp
  al := fun a n => by
    by_cases x : X a
    · exact p.er.xs a (p.x1 a x)
    · cases q : H a with
      | none => exact absurd q n
      | some o => rw [Kp.out er p.kp a o q x]; simp
  x1 := fun a x => .inl (p.x1 a x)
  x2 := p.x2
  o1 := fun i sv q m => by
    obtain ⟨s0, h0, m0, _⟩ := p.kd.b i sv q
    exact .inl ⟨s0, h0, m0.trans m, rfl⟩
  st := fun i _ => ⟨fun sv q => by
    obtain ⟨s0, h0, m0, _⟩ := p.kd.b i sv q
    exact ⟨s0, h0, m0⟩, fun sv q m => by
    obtain ⟨s1, h1⟩ := p.kd.f i sv q
    obtain ⟨s0, h0, m0, _⟩ := p.kd.b i s1 h1
    rw [q] at h0
    cases h0
    exact ⟨rfl, s1, h1, m0 ▸ m⟩⟩
end
def rdF (g : Gc) (fs : List (Bool × Ex)) : TA := fun σ H Q => ∃ (e : En) (X : Px) (ow : Nat → Addr), ER g H X ow σ e ∧
  (evF fs e).all fun p => ∀ vs H' X', PoF g ow σ e p.2 H X H' X' vs p.1 → Q vs H'
structure DF (X : Cx) (g : Gc) (es : List Expr) (fs : List (Bool × Ex)) : Prop where
  pa : PA X es (rdF g fs)
section
variable {X : Cx} {g : Gc} (hg : g.K = X.K)
include hg
theorem df_nil : DF X g [] [] := by
  refine ⟨PA.by hg pa_nil fun σ H Q h => ?_⟩
  obtain ⟨e, Xx, ow, er, h⟩ := h
  exact fun s => h [] H Xx ⟨er, .refl e, .refl, fun _ x => x, fun _ _ x => x, .nil⟩
theorem df_cons {k : Bool} {a : Expr} {es : List Expr} {fa : Ex} {fr : List (Bool × Ex)} (ha : DE X g a fa) (hr : DF X g es fr) (hs : starEach (a :: es) X.env = (false, eval a X.env) :: starEach es X.env := by rfl) : DF X g (a :: es) ((k, fa) :: fr) := by
  refine ⟨PA.by hg (pa_cons ha.pe hr.pa hs) fun σ H Q h => ?_⟩
  obtain ⟨e, Xx, ow, er, h⟩ := h
  refine ⟨e, Xx, ow, er, (Ro.all_bind.mp h).mono fun p h => ?_⟩
  intro v H1 po rv
  have er1 := po.er
  cases k with
  | false =>
    rw [if_neg (by simp)] at h
    refine ⟨p.2.2, Xx, ow, er1, (Ro.all_bind.mp h).mono fun q h => ?_⟩
    intro ws H2 X2 pf s
    refine h (v :: ws) H2 X2 ⟨pf.er, po.kd.trans pf.kd, Kp.trans po.kd po.kp pf.kp, pf.x1, fun b o x => pf.x2 b (Old.to o ?_) x, .val (rep_to (Kp.out er1 pf.kp) pf.x2 rv.1.1) (pf.it.back fun b n => Kp.free er er1 po.kp n)⟩
    exact fun n => (Po.trn (as := []) er po).al b n
  | true =>
    cases hf : p.2.1 with
    | false => rw [hf, if_pos ⟨rfl, rfl⟩] at h; exact False.elim h
    | true =>
      rw [hf, if_neg (by simp)] at h
      obtain ⟨a1, vs1, ds1, ev, ed, n, q1, r1⟩ := rv.1.2 hf
      have er2 := rv.2 hf a1 ev
      subst ev
      refine ⟨p.2.2, _, ow, er2, (Ro.all_bind.mp h).mono fun q h => ?_⟩
      intro ws H2 X2 pf s
      have n1 : ¬ Xx a1 := fun z => er.xs a1 z n
      have nw : ∀ (j : Nat) sv, p.2.2[j]? = some (some sv) → sv.mut = true → a1 ≠ ow j := fun j sv q2 m z => n1 (by rw [z]; exact er1.ownX q2 m)
      have q2 : H2 a1 = some (.lst vs1) := pf.kp a1 _ q1 nw
      have x2 : X2 a1 := pf.x1 a1 (.inr rfl)
      rw [show p.1 = .lst ds1 from ed] at h
      refine h (.ref a1 :: ws) H2 X2 ⟨pf.er, po.kd.trans pf.kd, Kp.trans po.kd po.kp pf.kp, fun b x => pf.x1 b (.inl x), fun b o x => ?_, .own x2 n q2 (reps_to (Kp.out er2 pf.kp) pf.x2 r1) (fun j sv q3 m z => ?_) (fun z => ?_) (pf.it.back fun b n => Kp.free er er1 po.kp n)⟩
      · have o1 : Old g H1 b := Old.to o fun n => (Po.trn (as := []) er po).al b n
        rcases pf.x2 b o1 x with y | y
        · exact y
        · subst y
          rcases o with o | o
          · exact absurd n o
          · exact absurd (s.k b (by rw [q2]; simp)) o
      · obtain ⟨s0, h0, m0, _⟩ := pf.kd.b j sv q3
        exact nw j s0 h0 (m0.trans m) z.symm
      · rcases pf.it.xs z with ⟨y, _⟩ | y
        · exact y x2
        · rw [q1] at y; cases y
where
  Old.to {g : Gc} {H H' : Hp} {b : Addr} (o : Old g H b) (k : H b ≠ none → H' b ≠ none) : Old g H' b := o.imp k id
omit hg in
theorem setAllV2 {i j : Nat} {u v : V} {σ : St} : setAllV [i, j] [u, v] σ = (σ.set i (some u)).set j (some v) := rfl
theorem ds_parF {i j : Nat} {x y : Str} {a b : Expr} {fs : List (Bool × Ex)} {px py pt pos : Pos} {kt k2 pt2} (hc : X.calm = true) (hN : X.N.Nodup) (ha : DF X g [a, b] fs) (hi : X.N[i]? = some x := by rfl) (hj : X.N[j]? = some y := by rfl) (hij : i ≠ j := by decide)
    (hx : X.env.scope.names.lookup x = some .local := by rfl) (hy : X.env.scope.names.lookup y = some .local := by rfl)
    (hw : swappedStores [.Tuple [.Name x px, .Name y py] kt pt] (.Tuple [a, b] k2 pt2) X.env = pure (some [x, y]) := by rfl)
    (hs : swapsWithSole [.Tuple [.Name x px, .Name y py] kt pt] (.Tuple [a, b] k2 pt2) pos.line X.env = pure false := by rfl) : DS X g (.Assign [.Tuple [.Name x px, .Name y py] kt pt] (.Tuple [a, b] k2 pt2) pos) (sParF [i, j] fs) [i, j] := by
  refine ⟨PS.by hg (ps_par hc hN hi hj hij hx hy ha.pa hw hs) fun Dn σ H h => ?_⟩
  obtain ⟨e, Xx, ow, er, h⟩ := h
  refine ⟨e, Xx, ow, er, (Ro.so_all.mp h).mono fun p h => ?_⟩
  intro vs H1 X1 pf
  split at h
  · rename_i hl
    have hv : vs.length = 2 := pf.it.len.trans hl
    obtain ⟨u, v, rfl⟩ : ∃ u v, vs = [u, v] := by
      match vs, hv with
      | [u, v], _ => exact ⟨u, v, rfl⟩
    refine ⟨u, v, rfl, fun s => ?_⟩
    obtain ⟨ow', a1, b1⟩ := par_all (bs := [i, j]) [i, j] [u, v] p.1 ow σ p.2 (fun _ z => z) pf.er (pf.trn er) pf.it
    exact h H1 X1 ow' _ a1 b1
  · exact False.elim h
theorem ds_parF3 {i j l : Nat} {x y z : Str} {a b c : Expr} {fs : List (Bool × Ex)} {px py pz pt pos : Pos} {kt k2 pt2} (hc : X.calm = true) (hN : X.N.Nodup) (ha : DF X g [a, b, c] fs) (hi : X.N[i]? = some x := by rfl) (hj : X.N[j]? = some y := by rfl) (hl : X.N[l]? = some z := by rfl) (hij : i ≠ j := by decide) (hil : i ≠ l := by decide) (hjl : j ≠ l := by decide)
    (hx : X.env.scope.names.lookup x = some .local := by rfl) (hy : X.env.scope.names.lookup y = some .local := by rfl) (hz : X.env.scope.names.lookup z = some .local := by rfl)
    (hw : swappedStores [.Tuple [.Name x px, .Name y py, .Name z pz] kt pt] (.Tuple [a, b, c] k2 pt2) X.env = pure (some [x, y, z]) := by rfl)
    (hs : swapsWithSole [.Tuple [.Name x px, .Name y py, .Name z pz] kt pt] (.Tuple [a, b, c] k2 pt2) pos.line X.env = pure false := by rfl) : DS X g (.Assign [.Tuple [.Name x px, .Name y py, .Name z pz] kt pt] (.Tuple [a, b, c] k2 pt2) pos) (sParF [i, j, l] fs) [i, j, l] := by
  refine ⟨PS.by hg (ps_par3 hc hN hi hj hl hij hil hjl hx hy hz ha.pa hw hs) fun Dn σ H h => ?_⟩
  obtain ⟨e, Xx, ow, er, h⟩ := h
  refine ⟨e, Xx, ow, er, (Ro.so_all.mp h).mono fun p h => ?_⟩
  intro vs H1 X1 pf
  split at h
  · rename_i hl
    have hv : vs.length = 3 := pf.it.len.trans hl
    obtain ⟨u, v, w, rfl⟩ : ∃ u v w, vs = [u, v, w] := by
      match vs, hv with
      | [u, v, w], _ => exact ⟨u, v, w, rfl⟩
    refine ⟨u, v, w, rfl, fun s => ?_⟩
    obtain ⟨ow', a1, b1⟩ := par_all (bs := [i, j, l]) [i, j, l] [u, v, w] p.1 ow σ p.2 (fun _ z => z) pf.er (pf.trn er) pf.it
    exact h H1 X1 ow' _ a1 b1
  · exact False.elim h
/-! ### slices -/
omit hg
def Eo := En → Ro (Option Int × En)
def oNone : Eo := fun e => .ok (none, e)
def oSome (f : Ex) : Eo := fun e => (f e).bind fun p => match p.1 with
  | .int i => .ok (some i, p.2.2)
  | _ => .bad
def eSl (fa : Ex) (lo hi : Eo) : Ex := fun e => (fa e).bind fun p => (lo p.2.2).bind fun l => (hi l.2).bind fun u => up u.2 (slD p.1 l.1 u.1)
def rdO (g : Gc) (f : Eo) : TO := fun σ H Q => ∃ (e : En) (X : Px) (ow : Nat → Addr), ER g H X ow σ e ∧
  (f e).all fun p => ∀ H', Po g X ow σ e p.2 H H' → Q p.1 H'
structure DO (X : Cx) (g : Gc) (e : Option Expr) (f : Eo) : Prop where
  po : PO X e (rdO g f)
theorem do_none : DO X g none oNone := ⟨⟨fun pins s σ H Q I h => by
  obtain ⟨e, Xx, ow, er, h⟩ := h
  exact po_none.run pins s σ H Q I (h H (.refl er))⟩⟩
theorem do_some {a : Expr} {f : Ex} (h : DE X g a f) : DO X g (some a) (oSome f) := ⟨⟨fun pins s σ H Q I hq => by
  refine (po_some h.pe).run pins s σ H Q I ?_
  obtain ⟨e, Xx, ow, er, h⟩ := hq
  refine ⟨e, Xx, ow, er, (Ro.all_bind.mp h).mono fun p h => ?_⟩
  intro v H1 po rv
  split at h
  · rename_i i hi
    have r := rv.1.1
    rw [hi] at r
    cases r
    exact ⟨i, rfl, h H1 po⟩
  · exact False.elim h⟩⟩
def rSlX (K : PySem.W.Frag) : V → Option Int → Option Int → Hp → VK → Prop := fun x lo hi H Q => rSlL K x lo hi H Q ∨ rSlA K x lo hi H Q
theorem sl_x : SlR X (rSlX X.K) := fun pins s σ H x v vl vu lo hi sl Q I rx hs pl pu h => by
  rcases h with h | h
  · exact sl_list pins s σ H x v vl vu lo hi sl Q I rx hs pl pu h
  · exact sl_tupA pins s σ H x v vl vu lo hi sl Q I rx hs pl pu h
theorem Reps.cut {H : Hp} {Xx : Px} {vs : List V} {ds : List D} (r : Reps g H Xx vs ds) (lo hi : Option Int) : Reps g H Xx (cutV vs lo hi) (cutD ds lo hi) := by
  unfold cutV cutD
  rw [r.length]
  exact (r.drop _).take _
include hg
theorem de_sl {a : Expr} {lo hi : Option Expr} {fa : Ex} {fl fu : Eo} {p2 pos : Pos} (ha : DE X g a fa) (hl : DO X g lo fl) (hu : DO X g hi fu) : DE X g (.Subscript a (.Slice lo hi none p2) pos) (eSl fa fl fu) := by
  refine ⟨PE.by hg (pe_slice sl_x ha.pe hl.po hu.po) fun σ H Q h => ?_⟩
  obtain ⟨e, Xx, ow, er, h⟩ := h
  refine ⟨e, Xx, ow, er, (Ro.all_bind.mp h).mono fun p h => ?_⟩
  intro v H1 po rv
  refine ⟨p.2.2, Xx, ow, po.er, (Ro.all_bind.mp h).mono fun l h => ?_⟩
  intro H2 po2
  refine ⟨l.2, Xx, ow, po2.er, (Ro.all_bind.mp h).mono fun u h => ?_⟩
  intro H3 po3
  have p23 := po2.trans po3
  have pall := po.trans p23
  obtain ⟨d, fr, ho, hq⟩ := fin_of hg er pall h
  have r := Kp.rep po.er p23.kp rv.1.1
  have hx := po3.er.xs
  unfold slD at ho
  split at ho
  · rename_i ds lo hi hd
    cases ho
    rw [hd] at r
    cases r with
    | lst nx h1 r1 => exact .inl ⟨_, _, rfl, .of h1, fun q n s => hq _ _ (same_upd hg n) s (fresh_lst hg n hx s (r1.cut _ _))⟩
  · rename_i lo hi ns hd
    cases ho
    rw [hd] at r
    cases r with
    | scr nx h1 =>
      refine .inl ⟨_, _, rfl, by rw [← hg]; exact h1, fun q n s => hq _ _ (same_upd hg n) s (fresh_lst hg n hx s ?_)⟩
      have := (reps_ints (g := g) (H := H3) (X := Xx) (ns := ns)).cut l.1 u.1
      have e : cutD (ns.map D.int) l.1 u.1 = (cutD ns l.1 u.1).map D.int := by
        unfold cutD
        simp only [List.length_map, List.map_take, List.map_drop]
      rw [← e]
      exact this
  · rename_i ds lo hi hd
    split at ho
    · cases ho
    · rename_i hw
      cases ho
      rw [hd] at r
      cases r with
      | tup nx h1 r1 =>
        refine .inr ⟨_, _, rfl, by rw [← hg]; exact h1, fun z => absurd z (by rw [r1.length]; exact hw), fun _ q n s => hq _ _ (same_upd hg n) s (new_tup hg n hx (r1.cut _ _))⟩
  · cases ho
/-! ### list(range(..)) -/
omit hg
theorem rgV_reps {H : Hp} {Xx : Px} {a b : Int} : Reps g H Xx (rgV a b) (rangeL a (b - a).toNat) := by
  have e1 : rgV a b = ((List.range (b - a).toNat).map fun i => a + ((i : Nat) : Int)).map V.int := by
    unfold rgV
    rw [List.map_map]
    rfl
  have e2 : rangeL a (b - a).toNat = ((List.range (b - a).toNat).map fun i => a + ((i : Nat) : Int)).map D.int := by
    unfold rangeL
    rw [List.map_map]
    rfl
  rw [e1, e2]
  exact reps_ints
def eLRg1 (a : Ea) : Ex := fun e => (a e).bind fun p => match p.1 with
  | [.int j] => if -(2 ^ 62) ≤ j ∧ j ≤ 16777216 then .ok (.lst (rangeL 0 j.toNat), true, p.2) else .bad
  | _ => .bad
def eLRg2 (a : Ea) : Ex := fun e => (a e).bind fun p => match p.1 with
  | [.int i, .int j] => if (-(2 ^ 62) ≤ i ∧ i < 2 ^ 62 ∧ -(2 ^ 62) ≤ j ∧ j < 2 ^ 62) ∧ j - i ≤ 16777216 then .ok (.lst (rangeL i (j - i).toNat), true, p.2) else .bad
  | _ => .bad
include hg
theorem de_listRg1 {a : Expr} {fa : Ex} {p1 p2 pos pos2 : Pos} (hc : X.calm = true) (ha : DE X g a fa) (hm : X.mg "list" = none) (hm2 : X.mg "range" = none) (hgl : Gl X "list" := by rfl) (hgl2 : Gl X "range" := by rfl)
    (na : starEach [.Call (.Name "range" p2) [a] [] pos2] X.env = (false, eval (.Call (.Name "range" p2) [a] [] pos2) X.env) :: starEach [] X.env := by rfl) (na2 : starEach [a] X.env = (false, eval a X.env) :: starEach [] X.env := by rfl) :
    DE X g (.Call (.Name "list" p1) [.Call (.Name "range" p2) [a] [] pos2] [] pos) (eLRg1 (aCons fa aNil)) := by
  refine ⟨PE.by hg (pe_listRg hc hgl hm (prg_1 hgl2 hm2 ha.pe na2) na) fun σ H Q h => ?_⟩
  obtain ⟨e, Xx, ow, er, h⟩ := h
  refine ⟨e, Xx, ow, er, (Ro.all_bind.mp (Ro.all_bind.mp h)).mono fun p h => ?_⟩
  intro v H1 po rv
  have h : (match [p.1] with
    | [.int j] => if -(2 ^ 62) ≤ j ∧ j ≤ 16777216 then .ok (.lst (rangeL 0 j.toNat), true, p.2.2) else .bad
    | _ => .bad : Er).all _ := h
  split at h
  · rename_i j hd
    have hd : p.1 = .int j := by injection hd
    split at h
    · rename_i hb
      have r := rv.1.1
      rw [hd] at r
      cases r
      refine ⟨j, rfl, ⟨by omega, by omega, hb.1, by omega, by omega⟩, fun q n s => ?_⟩
      have rr : RV g H1 (upd H1 q (.lst (rgV 0 j))) Xx (.ref q) (.lst (rangeL 0 j.toNat)) true := by
        have := fresh_lst hg n po.er.xs s (rgV_reps (a := 0) (b := j))
        rw [show j - 0 = j by omega] at this
        exact this
      exact h _ _ (po.trans (.of po.er (same_upd hg n) s)) ((RVx.of po.er (same_upd hg n) s rr).back er po.er po.kp)
    · exact False.elim h
  · exact False.elim h
end
end G

/-! repr; calls with keywords. -/
namespace G
open PySem PySem.Spec PyProof.Rows L2
def shapeD : PyData → Bool
  | .none => true
  | .int _ => true
  | .list _ => true
  | .tuple _ => true
  | _ => false
def ReprOk (p : PyData) : Prop := shapeD p = true ∧ p.showable = true ∧ p.leavesShort 1922 = true ∧ p.bulk ≤ 8000 ∧ p.depth ≤ 10
instance (p : PyData) : Decidable (ReprOk p) := by unfold ReprOk; infer_instance
def reprD : List D → DV
  | [d] => match toP d with
    | some p => if ReprOk p then some (.str p.shown, false) else none
    | none => none
  | _ => none
mutual
theorem noDict_toP : ∀ (d : D) (p : PyData), toP d = some p → p.hasDict = false
  | .non, p, h => by cases h; rfl
  | .bl b, p, h => by cases h; rfl
  | .int b, p, h => by cases h; rfl
  | .str b, p, h => by cases h; rfl
  | .lst ds, p, h => by
    obtain ⟨ps, e1, e2⟩ := Option.map_eq_some_iff.mp (show (toPs ds).map PyData.list = some p from h)
    subst e2
    exact noDict_toPs ds ps e1
  | .tup ds, p, h => by
    obtain ⟨ps, e1, e2⟩ := Option.map_eq_some_iff.mp (show (toPs ds).map PyData.tuple = some p from h)
    subst e2
    exact noDict_toPs ds ps e1
  | .scr ns, p, h => by
    cases (show some (PyData.list (ns.map PyData.int)) = some p from h)
    show PyData.hasDictAll _ = false
    induction ns with
    | nil => rfl
    | cons n r ih => exact ih rfl
  | .dct _ _, p, h => by cases (show (none : Option PyData) = some p from h)
  | .obj _ _ _, p, h => by cases (show (none : Option PyData) = some p from h)
theorem noDict_toPs : ∀ (ds : List D) (ps : List PyData), toPs ds = some ps → PyData.hasDictAll ps = false
  | [], ps, h => by cases h; rfl
  | d :: ds, ps, h => by
    obtain ⟨p, qs, e1, e2, e3⟩ := toPs_cons h
    subst e3
    show (p.hasDict || PyData.hasDictAll qs) = false
    rw [noDict_toP d p e1, noDict_toPs ds qs e2]
    rfl
end
def rReprG (K : PySem.W.Frag) : List V → Hp → VK → Prop := fun xs H Q => ∃ (x : V) (p : PyData), xs = [x] ∧ Dp K H x p ∧ ReprOk p ∧ p.hasDict = false ∧ Q (.str p.shown) H
section
variable {X : Cx} {g : Gc} (hg : g.K = X.K)
theorem call_reprG (hgd : X.A.guards = some []) (hu : X.A.units + 64 < cLine) : CallR X (.builtin "repr") (rReprG X.K) := by
  intro pins s σ H xs us Q I r h
  obtain ⟨x, p, rfl, hp, ⟨h1, h2, h3, h4, h5⟩, h6, q⟩ := h
  obtain ⟨u, rfl, r1⟩ := vals1 r
  have hz : p.shown.length ≤ sizeLine := by
    have := PyData.shown_le_bulk 1922 (by decide) p h3
    have : (1922 + 2) * p.bulk ≤ (1922 + 2) * 8000 := Nat.mul_le_mul_left _ h4
    rw [sizeLine_eq]
    omega
  cases p with
  | none =>
    cases hp
    cases r1
    exact PySem.P.repr_of_none ⟨.str _, H, I.tok _, ⟨_, rfl⟩, q⟩
  | int i =>
    cases hp
    obtain ⟨t, rfl⟩ := r1
    exact PySem.P.repr_of_int (by simpa [PyData.showable] using h2) ⟨.str _, H, I.tok _, ⟨_, rfl⟩, q⟩
  | list ds =>
    obtain ⟨as, hr⟩ := Dp.reads I _ x u hp r1
    cases hp
    cases r1
    exact repr_of_reads' hr h2 (PyData.noDict_hsm h6) hgd (by omega) (fun _ _ e => e) (fun h' u tk hk => ⟨.str _, H, I.kept hk, ⟨_, rfl⟩, q⟩) hz
  | tuple ds =>
    obtain ⟨as, hr⟩ := Dp.reads I _ x u hp r1
    cases hp
    cases r1
    exact repr_of_reads' hr h2 (PyData.noDict_hsm h6) hgd (by omega) (fun _ _ e => e) (fun h' u tk hk => ⟨.str _, H, I.kept hk, ⟨_, rfl⟩, q⟩) hz
  | bool b => cases h1
  | str b => cases h1
  | dict b => cases h1
include hg
theorem s_repr : CallS g (rReprG X.K) reprD := by
  intro xs ds H Xx Q d fr r hx ho q
  unfold reprD at ho
  split at ho
  · rename_i d0
    split at ho
    · rename_i p hp
      split at ho
      · rename_i hok
        cases ho
        cases r with
        | cons a b =>
          cases b
          exact ⟨_, p, rfl, by rw [← hg]; exact rep_dp a p hp, hok, noDict_toP _ _ hp, fun s => q _ H (.refl H) s (.old (.str _))⟩
      · cases ho
    · cases ho
  · cases ho
end
end G

/-! The head's facts by addresses of one's own; a law's end for such defs. -/
namespace G
open PySem PySem.Spec PyProof.Rows L2
/-! ### facts -/
structure DefX where
  adr : PySem.W.Frag → Addr
  name : Str
  qual : Str
  params : Arguments
  body : List Stmt
  scope : Scope
def topX (K : PySem.W.Frag) (x : Str) : Addr := He.ga K x
/-- a class's method, special or not -/
def metX (C m : Str) (K : PySem.W.Frag) : Addr := He.ma K (He.ga K C) m
/-- the getter of a class's property -/
def getX (C m : Str) (K : PySem.W.Frag) : Addr := match PySem.W.recIn K (He.ma K (He.ga K C) m) "property" with
  | some (.ref f :: _) => f
  | _ => 0
abbrev FxW : Type := Option (Str × Str × Arguments × FuncBody × Scope × Addr × List (Str × Addr) × Addr)
def fxW (K : PySem.W.Frag) (a : Addr) : FxW := match K.lookup a with
  | some ⟨_, _, .func fd, _⟩ => some (fd.name, fd.qualname, fd.params, fd.body, fd.scope, fd.globals, fd.closure, fd.builtins)
  | _ => none
def DefX.val (d : DefX) : FxW := some (d.name, d.qual, d.params, .stmts d.body, d.scope, mainGlobals, [], builtinsNs)
def DefX.ok (K : PySem.W.Frag) (d : DefX) : Bool := PySem.W.keepIn K (.ref (d.adr K)) && (match K.lookup (d.adr K) with
  | some ⟨_, _, .func fd, _⟩ => PySem.W.codeIn K fd.code d.qual && He.dflB K fd.defaults []
  | _ => false)
theorem DefX.funD {K : PySem.W.Frag} {d : DefX} (e : fxW K (d.adr K) = d.val) (c : d.ok K = true) : ∃ fd, FunD K d.name d.qual d.params d.body d.scope [] [] (d.adr K) fd := by
  obtain ⟨kp, c2⟩ := He.ba c
  unfold fxW at e
  cases q : K.lookup (d.adr K) with
  | none => rw [q] at c2; cases c2
  | some o =>
    obtain ⟨oc, od, dt, osl⟩ := o
    rw [q] at c2 e
    cases dt with
    | func fd =>
      obtain ⟨n1, n2, n3, n4, n5, n6, n7, n8, n9, n10, n11, n12, n13, n14, n15⟩ := fd
      have e2 : (some (n1, n2, n3, n4, n5, n6, n7, n15) : FxW) = some (d.name, d.qual, d.params, .stmts d.body, d.scope, mainGlobals, [], builtinsNs) := e
      simp only [Option.some.injEq, Prod.mk.injEq] at e2
      obtain ⟨z1, z2, z3, z4, z5, z6, z7, z8⟩ := e2
      subst z1 z2 z3 z4 z5 z6 z7 z8
      obtain ⟨k1, k2⟩ := He.ba (show (PySem.W.codeIn K n13 d.qual && He.dflB K n8 []) = true from c2)
      exact ⟨_, ⟨oc, od, n8, n9, n10, n11, n12, n13, n14, osl, rfl, q, k1, He.dflB_ok k2, .inl rfl⟩, kp⟩
    | _ => cases c2
/-- what is asked of the module besides -/
inductive Fx where
  | fa (f : He.Fa)
  | ki (C : Str)
  | prop (C m : Str)
  | spc (C m : Str)
  | ne (C : Str)
  | isb (C : Str)
  | iso (C C' : Str) (b : Bool)
def tyNames : List String := ["int", "bool", "str", "list", "tuple", "dict", "NoneType"]
def Fx.ok (K : PySem.W.Frag) : Fx → Bool
  | .fa f => f.ok K
  | .ki C => (He.Fa.cls C).ok K && (He.eqO (PySem.W.findIn K (.ref (He.ga K C)) "__class__") (some (some (.builtin "object.__class__"))) && (He.eqO (PySem.W.specialIn K (.builtin "object.__class__") "__get__") (some (some (.builtin "getset_descriptor.__get__"))) &&
    (decide (PySem.W.takesIn K (.builtin "object.__class__") = some true) && decide (PySem.W.mroIn K (He.ga K C) (.type "object") = some true))))
  | .prop C m => He.eqO (PySem.W.findIn K (.ref (He.ga K C)) m) (some (some (.ref (He.ma K (He.ga K C) m)))) && (He.eqO (PySem.W.specialIn K (.ref (He.ma K (He.ga K C) m)) "__get__") (some (some (.builtin "property.__get__"))) &&
    (decide (PySem.W.takesIn K (.ref (He.ma K (He.ga K C) m)) = some true) && (match PySem.W.recIn K (He.ma K (He.ga K C) m) "property" with
      | some (.ref _ :: _) => true
      | _ => false)))
  | .spc C m => He.eqO (PySem.W.findIn K (.ref (He.ga K C)) m) (some (some (.ref (He.ma K (He.ga K C) m)))) && PySem.W.isFn K (.ref (He.ma K (He.ga K C) m))
  | .ne C => He.eqO (PySem.W.findIn K (.ref (He.ga K C)) "__ne__") (some (some (.builtin "object.__ne__")))
  | .isb C => tyNames.all fun n => decide (PySem.W.kitOne K (.type n) (.ref (He.ga K C)) = some false)
  | .iso C C' b => decide (PySem.W.kitOne K (.ref (He.ga K C)) (.ref (He.ga K C')) = some b)
abbrev AlX : Type := Bool × List FxW
def obsX (fa : List Fx) (fn : List DefX) (K : PySem.W.Frag) : AlX := ((fa.all fun f => f.ok K) && fn.all fun d => d.ok K, fn.map fun d => fxW K (d.adr K))
def valX (fn : List DefX) : AlX := (true, fn.map DefX.val)
def SaysX (fa : List Fx) (fn : List DefX) (K : PySem.W.Frag) : Prop := obsX fa fn K = valX fn
def obsXG (n : Nat) (fa : List Fx) (fn : List DefX) (g : Addr → Option Obj) : AlX := obsX fa fn (He.frG g (He.asD g n))
def hookX (n : Nat) (fa : List Fx) (fn : List DefX) : PySem.W.Hook where
  α := AlX
  obs := fun s => obsXG n fa fn s.heap.get?
  val := fun _ => valX fn
  says := fun _ h => ∃ K : PySem.W.Frag, K.In h ∧ SaysX fa fn K
  of := fun _ _ e => ⟨_, He.frG_in, e⟩
  keeps := fun _ _ _ ⟨K, hK, c⟩ k => ⟨K, PySem.W.Frag.In.keeps hK k, c⟩
theorem obsXG_eq {n : Nat} {fa : List Fx} {fn : List DefX} {g : Addr → Option Obj} {s : Shared} (h : ∀ a, g a = s.heap.get? a) : obsXG n fa fn g = (hookX n fa fn).obs s := by
  have e : g = s.heap.get? := funext h
  rw [e] <;> rfl
section
variable {fa : List Fx} {fn : List DefX} {K : PySem.W.Frag}
theorem SaysX.facts (c : SaysX fa fn K) {f : Fx} (h : f ∈ fa) : f.ok K = true := by
  have c1 := (He.ba (show ((fa.all fun f => f.ok K) && fn.all fun d => d.ok K) = true from congrArg (fun z : AlX => z.1) c)).1
  exact List.all_eq_true.mp c1 f h
theorem SaysX.fact (c : SaysX fa fn K) (i : Nat) {f : Fx} (h : fa[i]? = some f := by rfl) : f.ok K = true := c.facts (List.mem_of_getElem? h)
theorem SaysX.def_ (c : SaysX fa fn K) (i : Nat) {d : DefX} (h : fn[i]? = some d := by rfl) : ∃ fd, FunD K d.name d.qual d.params d.body d.scope [] [] (d.adr K) fd := by
  have c2 := (He.ba (show ((fa.all fun f => f.ok K) && fn.all fun d => d.ok K) = true from congrArg (fun z : AlX => z.1) c)).2
  have e : fn.map (fun d => fxW K (d.adr K)) = fn.map DefX.val := congrArg (fun z : AlX => z.2) c
  have e2 : (fn.map fun d => fxW K (d.adr K))[i]? = (fn.map DefX.val)[i]? := by rw [e]
  rw [List.getElem?_map, List.getElem?_map, h] at e2
  exact DefX.funD (Option.some.inj e2) (List.all_eq_true.mp c2 d (List.mem_of_getElem? h))
theorem ki_ok {C : Str} (c : (Fx.ki C).ok K = true) : KI K (He.ga K C) := by
  obtain ⟨c1, c⟩ := He.ba c
  obtain ⟨c2, c⟩ := He.ba c
  obtain ⟨c3, c⟩ := He.ba c
  obtain ⟨c4, c5⟩ := He.ba c
  exact ⟨He.cls_ok c1, He.eqO_ok c2, He.eqO_ok c3, of_decide_eq_true c4, of_decide_eq_true c5⟩
theorem prop_ok {C m : Str} (c : (Fx.prop C m).ok K = true) : PropOf K (He.ga K C) m (He.ma K (He.ga K C) m) (getX C m K) := by
  obtain ⟨c1, c⟩ := He.ba c
  obtain ⟨c2, c⟩ := He.ba c
  obtain ⟨c3, c4⟩ := He.ba c
  refine ⟨He.eqO_ok c1, He.eqO_ok c2, of_decide_eq_true c3, ?_⟩
  unfold getX
  cases e : PySem.W.recIn K (He.ma K (He.ga K C) m) "property" with
  | none => rw [e] at c4; cases c4
  | some l =>
    rw [e] at c4
    cases l with
    | nil => cases c4
    | cons v r =>
      cases v with
      | ref f => exact ⟨r, rfl⟩
      | _ => cases c4
theorem spc_ok {C m : Str} (c : (Fx.spc C m).ok K = true) : PySem.W.findIn K (.ref (He.ga K C)) m = some (some (.ref (metX C m K))) ∧ PySem.W.isFn K (.ref (metX C m K)) = true := by
  obtain ⟨c1, c2⟩ := He.ba c
  exact ⟨He.eqO_ok c1, c2⟩
theorem ne_ok {C : Str} (c : (Fx.ne C).ok K = true) : PySem.W.findIn K (.ref (He.ga K C)) "__ne__" = some (some (.builtin "object.__ne__")) := He.eqO_ok c
theorem isb_ok {C : Str} (c : (Fx.isb C).ok K = true) (t : Bty) : PySem.W.kitOne K (.type t.nm) (.ref (He.ga K C)) = some false := by
  have h := List.all_eq_true.mp (show (tyNames.all fun n => decide (PySem.W.kitOne K (.type n) (.ref (He.ga K C)) = some false)) = true from c) t.nm (by cases t <;> decide)
  exact of_decide_eq_true h
theorem iso_ok {C C' : Str} {b : Bool} (c : (Fx.iso C C' b).ok K = true) : PySem.W.kitOne K (.ref (He.ga K C)) (.ref (He.ga K C')) = some b := of_decide_eq_true c
end
/-! ### a def by its datum -/
section
variable {P : Program} {w : World} {K : PySem.W.Frag} {mg : Str → Option Value} {base : Heap} {g : Gc} {k : Nat} {f : Addr} {fd : FuncData} {name qual : Str} {params : Arguments} {body : List Stmt} {scope : Scope} {N ps : List Str} {jp : Bool} {fb : Sm} {c : Nat}
theorem funG (F : FunD K name qual params body scope [] [] f fd) (S : FnScope N ps scope)
    (hbody : ∀ (cdv : Value) (A : Around) (outer : List Env) (s : Shared) (H : Hp), Room k (A.deeper (envOfC qual scope s.heap.objs.size f cdv)) → A.guards = some [] →
      ∃ as, 0 ∉ as ∧ DSs (cxOf CX0 P w K mg base N qual scope f cdv A outer s H E0).nox g body fb as) : FnG P w K mg base g (k + 1) f fd ps jp (runFn ps.length N.length jp fb) := by
  obtain ⟨oc, od, dV, kV, doc, pm, an, cdv, ct, osl, rfl, lk, hcd, _, _⟩ := F.ex
  exact fng_of lk hcd S (hbody cdv)
theorem funGI (F : FunD K name qual params body scope [] [] f fd) (S : FnScope N ps scope)
    (hbody : ∀ (cdv : Value) (A : Around) (outer : List Env) (s : Shared) (H : Hp), Room k (A.deeper (envOfC qual scope s.heap.objs.size f cdv)) → A.guards = some [] →
      ∃ as, 0 ∉ as ∧ DSs (cxOf CX0 P w K mg base N qual scope f cdv A outer s H E0).nox g body fb as) : FnI P w K mg base g (k + 1) f fd ps c (runInit ps.length N.length c fb) := by
  obtain ⟨oc, od, dV, kV, doc, pm, an, cdv, ct, osl, rfl, lk, hcd, _, _⟩ := F.ex
  exact fni_of lk hcd S (hbody cdv)
end
/-! ### the law's end -/
/-- the script alone is tracked, and does not change -/
theorem law_endG {P : Program} {w : World} {kF : PySem.W.Frag} {gl bl : Str → Option Value} {g : Gc} {k : Nat} {fa a : Addr} {fd : FuncData} {x : Str} {F : Fn} {s1 : Shared} {us : List Value} {ns : List Int} (hg : g.K = kF)
    (inK : kF.In s1.heap) (nsG : s1.heap.Ns mainGlobals gl) (nsB : s1.heap.Ns builtinsNs bl) (eB : ∀ y : Str, y ≠ "__name__" → bl y = bootBuiltins y) (lim : s1.heap.NoLimit) (noG : s1.gens = #[])
    (at_a : s1.heap.get? a = some { cls := .type "list", data := .seq us.toArray }) (hi : IntsAre us ns) (sz : ns.length ≤ sizeLine) (room : Room k callerA)
    (hF : ∀ base : Heap, kF.In base → base.Ns mainGlobals gl → FnG P w kF gl base g k fa fd [x] false F) (bindF : ∀ (s : Shared) (u : Value), BindsTo s fd ⟨[u], []⟩ [(x, u)])
    (law : (F [.scr ns]).all fun p => p.1 = .bl true) :
    codeAny (model P w) callerA (.call (.ref fa) ⟨[.ref a], []⟩) (fun r s' => r = .ok (.ret (.bool true)) ∧ OldK s1.heap s'.heap ∧ s'.os = s1.os ∧ AllBare s'.gens) s1 := by
  have rel := vals_ints hi
  have lenU := hi.length
  have core : ∀ H : Hp, Only H → SqL kF H a (ns.map V.int) → HOk P w H s1.heap → (∀ b, H b ≠ none → b = a) → (H a ≠ none → kF.lookup a = none) →
      codeAny (model P w) callerA (.call (.ref fa) ⟨[.ref a], []⟩) (fun r s' => r = .ok (.ret (.bool true)) ∧ OldK s1.heap s'.heap ∧ s'.os = s1.os ∧ AllBare s'.gens) s1 := by
    intro H only sq hok onA notK
    have toBase : ∀ {b : Addr} {o : Obj}, s1.heap.get? b = some o → H b = none → (hidT s1.heap H).get? b = some o := fun e n => hidT_get e n
    have notA : ∀ {b : Addr} {o : Obj} {es : Array DictEntry} {ep : Nat}, s1.heap.get? b = some o → o.data = .dict es ep → H b = none := fun {b o es ep} e d => by
      by_cases q : H b = none
      · exact q
      · have eb := onA b q
        subst eb
        rw [at_a] at e; cases e
        exact nomatch (show Data.seq us.toArray _ = Data.dict es ep from d)
    have toNs : ∀ {b : Addr} {m : Str → Option Value}, s1.heap.Ns b m → (hidT s1.heap H).Ns b m := fun {b m} ⟨o, es, ep, e, d, r⟩ => ⟨o, es, ep, toBase e (notA e d), d, r⟩
    have inB : kF.In (hidT s1.heap H) := fun b o e => toBase (inK b o e) (by
      by_cases q : H b = none
      · exact q
      · have eb := onA b q
        subst eb
        rw [notK q] at e; cases e)
    have modB : Mod kF gl (hidT s1.heap H) := ⟨inB, toNs nsG, ⟨bl, toNs nsB, eB⟩, let ⟨mc, z1, z2⟩ := lim; ⟨mc, toNs z1, z2⟩⟩
    have e0 : Env0 P w kF gl (hidT s1.heap H) callerA [] s1 H :=
      ⟨rfl, modB, fun b o e => of_hidT e, Nat.le_of_eq (hidT_size _ _), trivial, fun b hb => absurd (show b ∈ ([] : List Addr) from hb) (by simp), hok, .of_eq noG⟩
    have sep : Sep g H := by
      refine ⟨fun b n => ?_, fun b vs q => ?_, fun b vs q => ?_⟩
      · rw [hg]
        have eb := onA b n
        subst eb
        exact notK n
      · rw [hg] at q
        rcases q with (q | ⟨o, q⟩) | ⟨o, its, n, q, e1, e2, e3, e4, e5⟩
        · exact (hok b _ q).1
        · exact (hok b _ q).2.1
        · rw [e5.length]
          simpa using e4
      · rw [hg] at q
        rcases q with (q | ⟨o, q⟩) | ⟨o, its, n, q, e1, e2, e3, e4⟩
        · exact (hok b _ q).1
        · exact (hok b _ q).2.1
        · rw [e4.length]
          simpa using e3
    have sp : spD g 1 false F [.ref a] H (fun v _ => v = .bl true) E0 := ⟨fun _ => False, [.scr ns], rfl, .inl ⟨rfl, .cons (.scr (fun z => z) (by rw [hg]; exact sq)) .nil⟩, fun _ z => z.elim, sep, law.mono fun p e v H' pp => by
      have r := pp.rep
      rw [e] at r
      cases r
      rfl⟩
    refine codeAny_mono ((hF _ inB (toNs nsG)).run callerA [] s1 H ⟨[.ref a], []⟩ [.ref a] [.ref a] _ room rfl e0 (bindF s1 (.ref a)) (.cons rfl .nil) sp) fun r s' h => ?_
    cases r with
    | error e => exact False.elim h
    | ok fl =>
      cases fl with
      | next => exact False.elim h
      | brk => exact False.elim h
      | cont => exact False.elim h
      | ret u =>
        obtain ⟨v, H', os, bare, un, hok', r', q⟩ := h
        subst q
        obtain rfl : u = Value.bool true := r'
        refine ⟨rfl, OldK.of_keep fun b o e => ?_, os, bare⟩
        by_cases q : H b = none
        · exact un.keep b o e q (by intro z; exact absurd (show b ∈ ([] : List Addr) from z) (by simp)) (by simp)
        · rcases only b with z | ⟨ob, xs, z⟩
          · exact absurd z q
          · obtain ⟨y1, _⟩ := hok b _ z
            obtain ⟨y2, _⟩ := hok' b _ (un.frzs b ob _ z)
            rw [e] at y1; cases y1
            exact y2
  cases hk : kF.lookup a with
  | some o =>
    have e := inK a o hk
    rw [at_a] at e
    cases e
    exact core (fun _ => none) (fun _ => .inl rfl) (.inr ⟨_, us.toArray, _, hk, rfl, rfl, rfl, by rw [List.size_toArray, lenU]; exact sz, by simpa using rel⟩) (fun b u z => nomatch (show (none : Option HO) = some u from z)) (fun b z => absurd rfl z) fun z => absurd rfl z
  | none =>
    let ob : Obj := { cls := .type "list", data := .seq us.toArray }
    refine core (fun b => if b = a then some (.frz ob (.lst (ns.map V.int))) else none) (fun b => ?_) (.inl (.inr ⟨ob, if_pos rfl⟩)) (fun b u z => ?_) (fun b z => ?_) fun _ => hk
    · by_cases eb : b = a
      · exact .inr ⟨_, _, if_pos eb⟩
      · exact .inl (if_neg eb)
    · by_cases eb : b = a
      · cases (if_pos eb).symm.trans z
        subst eb
        exact ⟨at_a, by rw [List.length_map]; exact sz, us, _, rel, at_a⟩
      · cases (if_neg eb).symm.trans z
    · by_cases eb : b = a
      · exact eb
      · exact absurd (if_neg eb) z
theorem walk_G {l : PySem.W.OpenLaw} {n k : Nat} {q : Program} {loose : List Str} {XP : (Str → Option Value) → Heap → Prop} {YP : World → Heap → Prop} {d : DefRec} {x : Str} (most : l.most = some n) (few : n ≤ sizeLine) (plain : d.params.defaults = []) (room : Room k callerA)
    (give : ∀ (w : World) (gl : Str → Option Value) (fa : Addr) (h : Heap), YP w h → h.Ns mainGlobals gl → gl d.name = some (.ref fa) →
      ∃ (kF : PySem.W.Frag) (fd : FuncData) (g : Gc) (F : Fn), g.K = kF ∧ kF.In h ∧ (∀ (s : Shared) (u : Value), BindsTo s fd ⟨[u], []⟩ [(x, u)]) ∧
        (∀ ns : List Int, ns.length ≤ n → (F [.scr ns]).all fun p => p.1 = .bl true) ∧ ∀ base : Heap, kF.In base → base.Ns mainGlobals gl → FnG l.prog w kF gl base g k fa fd [x] false F) :
    PySem.W.WalkO q loose XP YP l.row.toRowW d [] (fun f vs => PySem.call f vs) := by
  refine Att.attach_call most plain fun w s0 s1 gl bl fa o pm cd doc a us ns G Y ho hd hcd hgl hobj hints hlen noG => ?_
  obtain ⟨kF, fd, g, F, hg, inK, bindF, law, hF⟩ := give w gl fa _ Y G.T.g hgl
  exact law_endG hg inK G.T.g G.T.b G.T.builtins G.T.nolimit noG hobj hints (Nat.le_trans hlen few) room hF bindF (law ns hlen)
end G

/-! Calls by names. -/
namespace G
open PySem PySem.Spec PyProof.Rows L2
def pick {α : Type} (perm : List Nat) (xs : List α) : List α := perm.filterMap fun i => xs[i]?
structure KnK (P : Program) (w : World) (K : PySem.W.Frag) (mg : Str → Option Value) (base : Heap) (g : Gc) (x : Str) (k np n : Nat) (ks : List Str) (perm : List Nat) (F : Fn) : Prop where
  ex : ∃ (f : Addr) (fd : FuncData) (ps : List Str), ps.length = np ∧ FnG P w K mg base g k f fd ps false F ∧ mg x = some (.ref f) ∧ PySem.W.keepIn K (.ref f) = true ∧
    (∀ (s : Shared) (us ws : List Value), us.length = n → ws.length = ks.length → BindsTo s fd ⟨us, ks.zip ws⟩ (ps.zip (pick perm (us ++ ws))))
def eCallK (n m : Nat) (perm : List Nat) (F : Fn) (fa fk : Ea) : Ex := fun e => (fa e).bind fun p => (fk p.2).bind fun q => if p.1.length = n ∧ q.1.length = m then (F (pick perm (p.1 ++ q.1))).bind fun r => .ok (r.1, r.2.1, q.2) else .bad
section
variable {g : Gc} {H : Hp} {Xx : Px}
theorem Reps.pick {vs : List V} {ds : List D} (r : Reps g H Xx vs ds) : ∀ perm : List Nat, Reps g H Xx (G.pick perm vs) (G.pick perm ds)
  | [] => .nil
  | i :: p => by
    unfold G.pick
    rw [List.filterMap_cons, List.filterMap_cons]
    cases q : ds[i]? with
    | none =>
      have : vs[i]? = none := by
        rw [List.getElem?_eq_none_iff] at q ⊢
        rw [r.length]
        exact q
      rw [this]
      exact Reps.pick r p
    | some d =>
      obtain ⟨v, h1, h2⟩ := r.get q
      rw [h1]
      exact .cons h2 (Reps.pick r p)
theorem vals_pick {vs : List V} {us : List Value} (r : Vals vs us) : ∀ perm : List Nat, Vals (G.pick perm vs) (G.pick perm us)
  | [] => .nil
  | i :: p => by
    unfold G.pick
    rw [List.filterMap_cons, List.filterMap_cons]
    cases q : vs[i]? with
    | none =>
      have : us[i]? = none := by
        rw [List.getElem?_eq_none_iff] at q ⊢
        rw [← r.length]
        exact q
      rw [this]
      exact vals_pick r p
    | some d =>
      obtain ⟨v, h1, h2⟩ := r.get q
      rw [h1]
      exact .cons h2 (vals_pick r p)
theorem vals_app {vs ws : List V} {us zs : List Value} (r : Vals vs us) (q : Vals ws zs) : Vals (vs ++ ws) (us ++ zs) := by
  induction r with
  | nil => exact q
  | cons a b ih => exact .cons a ih
end
structure DK (X : Cx) (g : Gc) (kws : List Keyword) (f : Ea) : Prop where
  pk : PK X kws (rdA g f)
section
variable {X : Cx} {g : Gc} (hg : g.K = X.K)
include hg
theorem PK.by {e : List Keyword} {t t' : TA} (h : PK X e t) (i : ∀ σ H Q, t' σ H Q → t σ H (fun v H' => Sep g H' → Q v H')) : PK X e t' := ⟨fun p pins s σ H Q I hq =>
  thn (h.run p pins s σ H _ I (i σ H Q hq)) fun v s1 ⟨x, H1, I1, r, q⟩ => ⟨x, H1, I1, r, q (sep_of hg I1)⟩⟩
theorem dk_nil : DK X g [] aNil := by
  refine ⟨PK.by hg pk_nil fun σ H Q h => ?_⟩
  obtain ⟨e, Xx, ow, er, h⟩ := h
  exact fun s => h [] H (.refl er) .nil
theorem dk_cons {nm : Option Str} {kpos : Pos} {a : Expr} {es : List Keyword} {fa : Ex} {fr : Ea} (ha : DE X g a fa) (hr : DK X g es fr) : DK X g (⟨nm, a, kpos⟩ :: es) (aCons fa fr) := by
  refine ⟨PK.by hg (pk_cons ha.pe hr.pk) fun σ H Q h => ?_⟩
  obtain ⟨e, Xx, ow, er, h⟩ := h
  refine ⟨e, Xx, ow, er, (Ro.all_bind.mp h).mono fun p h => ?_⟩
  intro v H1 po rv
  refine ⟨p.2.2, Xx, ow, po.er, (Ro.all_bind.mp h).mono fun q h => ?_⟩
  intro ws H2 po2 rw2 s
  exact h (v :: ws) H2 (po.trans po2) (.cons (Kp.rep po.er po2.kp rv.1.1) rw2)
omit hg in
theorem run_fngK {k n : Nat} {f : Addr} {fd : FuncData} {ps ks : List Str} {perm : List Nat} {Fs : Fn} {pins : List (Addr × Obj)} {σ : St} {H : Hp} {s : Shared} {Q : VK} {us ws : List Value} {vs zs : List V} (F : FnG X.prog X.w X.K X.mg X.base g k f fd ps false Fs) (hr : Room k X.A) (hgd : X.A.guards = some [])
    (hb : ∀ (s : Shared) (us ws : List Value), us.length = n → ws.length = ks.length → BindsTo s fd ⟨us, ks.zip ws⟩ (ps.zip (G.pick perm (us ++ ws)))) (hu : us.length = n) (hw : ws.length = ks.length)
    (I : Inv X pins σ H s) (r : Vals vs us) (rz : Vals zs ws) (h : spD g ps.length false Fs (G.pick perm (vs ++ zs)) H Q E0) : wpAny (model X.prog X.w) X.A (call (.ref f) us (ks.zip ws)) (EP X pins σ Q) X.xe s := by
  refine wpAny_call (codeAny_mono (F.run X.A X.stack s H ⟨us, ks.zip ws⟩ _ _ Q hr hgd I.env0 (hb s us ws hu hw) (vals_pick (vals_app r rz) perm) h) fun r s' hq => ?_)
  cases r with
  | error e => exact False.elim hq
  | ok fl =>
    cases fl with
    | ret u => exact I.after hq
    | next => exact False.elim hq
    | brk => exact False.elim hq
    | cont => exact False.elim hq
/-- f(k = e, ..), nothing by position -/
theorem de_callK0 {x : Str} {k np : Nat} {ks : List Str} {perm : List Nat} {F : Fn} {p pos : Pos} {kws : List Keyword} {fk : Ea} (Z : KnK X.prog X.w X.K X.mg X.base g x k np 0 ks perm F) (hr : Room k X.A) (hgd : X.A.guards = some []) (hk : DK X g kws fk)
    (hgl : Gl X x := by rfl) (hdb : (x == ("__debug__" : Str)) = false := by decide) (hall : (backToKw pos (keywordEach kws X.env)).all (·.1.isSome) = true := by rfl) (hks : (backToKw pos (keywordEach kws X.env)).filterMap (·.1) = ks := by rfl)
    (hpl : ((backTo pos (starEach [] X.env)).any (·.1) || (backToKw pos (keywordEach kws X.env)).any (·.1.isNone)) = false := by rfl) : DE X g (.Call (.Name x p) [] kws pos) (eCallK 0 ks.length perm F aNil fk) := by
  obtain ⟨f, fd, ps, hnp, hF, hm, hkp, hb⟩ := Z.ex
  refine ⟨⟨fun pins s σ H Q I h => ?_⟩⟩
  refine wpAny_Call_Name_kw (ld_glob I hgl hm ?_ hdb)
  obtain ⟨en, Xx, ow, er, h⟩ := h
  have h : ((fk en).bind fun q => if ([] : List D).length = 0 ∧ q.1.length = ks.length then (F (G.pick perm q.1)).bind fun r => .ok (r.1, r.2.1, q.2) else .bad : Er).all _ := h
  have way := hk.pk.run pos pins s σ H (fun zs H1 => ∃ q : List D × En, Po g Xx ow σ en q.2 H H1 ∧ Reps g H1 Xx zs q.1 ∧ (if ([] : List D).length = 0 ∧ q.1.length = ks.length then (F (G.pick perm q.1)).bind fun r => Ro.ok (r.1, r.2.1, q.2) else .bad : Er).all fun p => ∀ v H', Po g Xx ow σ en p.2.2 H H' → RVx g H H' Xx ow σ p.2.2 v p.1 p.2.1 → Q v H') I
    ⟨en, Xx, ow, er, Ro.all.mono (Ro.all_bind.mp h) fun q h vs H1 po rv => ⟨q, po, rv, h⟩⟩
  refine PySem.W.callWith_KW0 (h₀ := X.base) I.ok.mod.kin hkp hall (thn way fun ws s2 ⟨zs, H2, I2, rz, q, po, rv, h2⟩ => ⟨I2.kIn, ?_⟩) hpl
  rw [hks]
  split at h2
  · rename_i hq
    have h2 := Ro.all_bind.mp h2
    have hl := hF.ar _ _ h2
    have hw : ws.length = ks.length := by rw [← rz.length, rv.length, hq.2]
    have run := run_fngK (vs := []) (us := []) (Q := fun v H' => Sep g H' → Q v H') hF hr hgd hb rfl hw I2 .nil rz ⟨Xx, G.pick perm q.1, hl, .inl ⟨rfl, rv.pick perm⟩, po.er.xs, po.er.sep, h2.mono fun r h v H' pp s => by
      have sm := pp.same rfl
      exact h v H' (po.trans (.of po.er sm s)) ((RVx.of po.er sm s pp.rv).back er po.er po.kp)⟩
    exact thn run fun u s3 ⟨v, H3, I3, r3, q3⟩ => ⟨v, H3, I3, r3, q3 (sep_of hg I3)⟩
  · exact False.elim h2
end
end G

/-! Small helps of the printed texts. -/
namespace G
open PySem PySem.Spec PyProof.Rows L2
theorem room65 {k : Nat} {A : Around} (h : Room k A) : A.units + 65 < cLine := by
  have := h.un
  omega
theorem decV_int (a b : Int) : decide (V.int a = V.int b) = decide (a = b) := decide_eq_decide.mpr ⟨fun h => by cases h; rfl, fun h => by rw [h]⟩
theorem decV_str (a b : Str) : decide (V.str a = V.str b) = decide (a = b) := decide_eq_decide.mpr ⟨fun h => by cases h; rfl, fun h => by rw [h]⟩
def eqX : D → D → DV
  | .int a, .int b => some (.bl (decide (a = b)), false)
  | .str a, .str b => some (.bl (decide (a = b)), false)
  | a, b => eqD a b
def neX : D → D → DV
  | .int a, .int b => some (.bl (!decide (a = b)), false)
  | .str a, .str b => some (.bl (!decide (a = b)), false)
  | a, b => neD a b
def rEqX (K : PySem.W.Frag) : R2 := fun x y H Q => rEq x y H Q ∨ rEqD K x y H Q
def rNeX (K : PySem.W.Frag) : R2 := fun x y H Q => rNe x y H Q ∨ rNeD K x y H Q
theorem o_eqX {X : Cx} (hu : X.A.units + 64 < cLine) : OpR X (compareOp .Eq) (rEqX X.K) := op_eq.or (op_eqD hu)
theorem o_neX {X : Cx} (hu : X.A.units + 64 < cLine) : OpR X (compareOp .NotEq) (rNeX X.K) := op_ne.or (op_neD hu)
theorem s_eqX {X : Cx} {g : Gc} (hg : g.K = X.K) : BinS g (rEqX X.K) eqX := by
  intro x y dx dy H Xx Q d fr rx ry hx ho q
  unfold eqX at ho
  split at ho
  · cases ho
    cases rx
    cases ry
    exact .inl ⟨rfl, fun s => q _ H (.refl H) s (.old (by rw [decV_int]; exact .bl _))⟩
  · cases ho
    cases rx
    cases ry
    exact .inl ⟨rfl, fun s => q _ H (.refl H) s (.old (by rw [decV_str]; exact .bl _))⟩
  · exact .inr (s_eq hg x y _ _ H Xx Q d fr rx ry hx ho q)
theorem s_neX {X : Cx} {g : Gc} (hg : g.K = X.K) : BinS g (rNeX X.K) neX := by
  intro x y dx dy H Xx Q d fr rx ry hx ho q
  unfold neX at ho
  split at ho
  · cases ho
    cases rx
    cases ry
    exact .inl ⟨rfl, fun s => q _ H (.refl H) s (.old (by rw [decV_int]; exact .bl _))⟩
  · cases ho
    cases rx
    cases ry
    exact .inl ⟨rfl, fun s => q _ H (.refl H) s (.old (by rw [decV_str]; exact .bl _))⟩
  · exact .inr (s_ne hg x y _ _ H Xx Q d fr rx ry hx ho q)
def rMulX (_ : Cx) : R2 := rMulD
theorem o_mulX {X : Cx} : OpR X (binaryOp .Mult) (rMulX X) := o_mul
theorem s_mulX {X : Cx} {g : Gc} (hg : g.K = X.K) : BinS g (rMulX X) mulD := s_mul hg
def blkB (N : List Str) (sc scope : Scope) (own : List (Str × Nat)) : Bool :=
  decide (scope.kind = .function) && (scope.names.all (fun y => decide (scope.names.lookup y.1 = some y.2)) && (own.all (fun p => decide (N[p.2]? = some p.1)) &&
    (scope.names.all (fun y => decide (y.2 = .free → sc.names.lookup y.1 = some .cell ∨ sc.names.lookup y.1 = some .free)) &&
      scope.names.all (fun y => decide (y.2 = .local ∨ y.2 = .cell → y.1 ∈ own.map (·.1) ∨ y.1 ∉ N)))))
theorem blkOk {N : List Str} {sc scope : Scope} {own : List (Str × Nat)} (h : blkB N sc scope own = true) : BlkOk N sc scope own := by
  obtain ⟨h1, h⟩ := He.ba h
  obtain ⟨h2, h⟩ := He.ba h
  obtain ⟨h3, h⟩ := He.ba h
  obtain ⟨h4, h5⟩ := He.ba h
  exact ⟨of_decide_eq_true h1, fun y hy => of_decide_eq_true (List.all_eq_true.mp h2 y hy), fun y hy => of_decide_eq_true (List.all_eq_true.mp h3 y hy), fun y hy => of_decide_eq_true (List.all_eq_true.mp h4 y hy), fun y hy => of_decide_eq_true (List.all_eq_true.mp h5 y hy)⟩
theorem bindsK {K : PySem.W.Frag} {x qual : Str} {params : Arguments} {body : List Stmt} {scope : Scope} {f : Addr} {fd : FuncData} {ps ks : List Str} {n : Nat} {perm : List Nat} (F : FunD K x qual params body scope [] [] f fd)
    (h : ∀ (kV doc pm : Value) (an : Option Addr) (cdv ct : Value) (us ws : List Value), us.length = n → ws.length = ks.length → bindArgs (PySem.W.fnOf x qual params body scope .none kV doc pm an cdv ct) ⟨us, ks.zip ws⟩ = pure (ps.zip (pick perm (us ++ ws))))
    (s : Shared) (us ws : List Value) (hu : us.length = n) (hw : ws.length = ks.length) : BindsTo s fd ⟨us, ks.zip ws⟩ (ps.zip (pick perm (us ++ ws))) := by
  obtain ⟨oc, od, dV, kV, doc, pm, an, cdv, ct, osl, rfl, lk, hcd, hD, hK⟩ := F.ex
  rcases hD with ⟨_, rfl⟩ | ⟨e, _⟩
  · exact .of_eq (h kV doc pm an cdv ct us ws hu hw)
  · exact absurd rfl e
theorem FunD.one {K : PySem.W.Frag} {x qual : Str} {params : Arguments} {body : List Stmt} {scope : Scope} {f : Addr} {fd fd' : FuncData} (F : FunD K x qual params body scope [] [] f fd) (F' : FunD K x qual params body scope [] [] f fd') : fd = fd' := by
  obtain ⟨_, _, _, _, _, _, _, _, _, _, _, lk, _⟩ := F.ex
  obtain ⟨_, _, _, _, _, _, _, _, _, _, _, lk', _⟩ := F'.ex
  rw [lk] at lk'
  cases lk'
  rfl
end G

/-! sorted(set(xs)) of a list of ints. -/
namespace G
open PySem PySem.Spec PyProof.Rows L2
section
variable {P : Program} {w : World} {A : Around} {E : Value → Shared → Prop} {s : Shared}
def emptySet (w : World) : Obj := { cls := .type "set", dict := none, data := .set #[] 0 (.fresh 0 0 (!w.params.followText "set-order")) }
theorem set_ofL {l : Addr} {items : Array Value} (ns : List Int) {Q : Value → Shared → Prop} (hh : A.handled = none) (hl : s.heap.IsList l items) (hit : IntsAre items.toList ns) (hb : ns.length + 1 < scanBound)
    (h : ∀ (h' : Heap) (tk c : Nat), SetR w h' s.heap.objs.size (fun j => decide (j ∈ ns)) c → c ≤ ns.length → (∀ b o, s.heap.get? b = some o → h'.get? b = some o) → Q (.ref s.heap.objs.size) { s with heap := h', toks := tk }) :
    wpAny (model P w) A (call (.type "set") [.ref l]) Q E s := by
  have hisz : items.size = ns.length := by
    have q := IntsAre.length hit
    rw [Array.length_toList] at q
    exact q
  obtain ⟨c, tl, hmro⟩ := F.called_set.mro
  have hmade := F.called_set.made
  have hsub := F.called_set.sub
  refine wpAny_call (codeAny_of_tree ?_)
  show wpAny _ _ (callAny (.type "set") _) _ _ _
  refine wpAny_pure ⟨Code.quiet_builtin _ (by decide +kernel), codeAny_builtin F.entry_type_call ?_⟩
  rw [Around.under_plain (weight_type_call_type "set" [.ref l] []) rfl]
  have h1 := F.called_set.notType
  have h2 := F.called_set.canCreate
  have hct := F.typeCall_set_1 (.ref l)
  repeat (any_goals (first | assumption | wp_step))
  refine codeAny_mono (code_set_led1 (.ref l) (E := E) (Q₁ := fun obj s₁ => obj = .ref s.heap.objs.size ∧ s₁ = { s with heap := s.heap.push (emptySet w) }) ⟨rfl, rfl⟩) fun r s₁ hr => ?_
  cases r with
  | error e => exact hr
  | ok fl =>
    cases fl with
    | ret obj =>
      obtain ⟨rfl, rfl⟩ := hr
      have hS : (s.heap.push (emptySet w)).get? s.heap.objs.size = some (emptySet w) := Heap.get?_push_size _ rfl
      have hT : Shared.TypeIs { s with heap := s.heap.push (emptySet w) } (.ref s.heap.objs.size) "set" := ⟨_, hS, rfl⟩
      have hli := F.called_set.init.lookup
      have hbi := F.called_set.init.bind (.ref s.heap.objs.size)
      repeat (any_goals (first | assumption | wp_step))
      refine codeAny_mono (codeAny_call_builtin (R := wants (fun r s₂ => r = .none ∧ ∃ h' tk c, s₂ = { s with heap := h', toks := tk } ∧ SetR w h' s.heap.objs.size (fun j => decide (j ∈ ns)) c ∧ c ≤ ns.length ∧
          (∀ b o, s.heap.get? b = some o → h'.get? b = some o)) E) F.called_set.init.plain F.entry_set_init (check_set_init_1 hT ?_)) fun r₂ s₂ hr₂ => ?_
      · obtain ⟨ol, hol, hcl, nl, hdl⟩ := hl
        obtain ⟨ocls, odict, odata, oslots⟩ := ol
        simp only at hcl hdl
        subst hcl; subst hdl
        have hol' : (s.heap.push (emptySet w)).get? l = some { cls := .type "list", dict := odict, data := .seq items nl, slots := oslots } := Heap.get?_push_of_some _ hol
        have hsls := F.sub_list_set
        have hslf := F.sub_list_frozenset
        have hne : (Value.type "list" == Value.type "dict") = false := by decide
        have hl1 : (s.heap.push (emptySet w)).IsList l items := ⟨_, hol', rfl, nl, rfl⟩
        unfold Builtin.«set.__init__» noKeywords Builtin.Frozenset.updateFrom
        generalize hPI : pyIter = PI
        wp_walk
        subst hPI
        refine wpAny_pyIter_list hl1 ?_
        refine wpAny_bind (wpAny_runValue ?_)
        have hlS : l < s.heap.objs.size := Heap.lt_size hol
        have hh3 : A.in1.in1.in1.handled = none := by simp [hh]
        have hneI : l ≠ (s.heap.push (emptySet w)).objs.size := by
          rw [Heap.size_push]; exact Nat.ne_of_lt (Nat.lt_succ_of_lt hlS)
        have hSf : s.heap.objs.size ∉ [(s.heap.push (emptySet w)).objs.size, l] := by
          rw [Heap.size_push]; simp only [List.mem_cons, List.mem_singleton, List.not_mem_nil, or_false, not_or]
          exact ⟨Nat.ne_of_lt (Nat.lt_succ_self _), Nat.ne_of_gt hlS⟩
        have hval : ∀ (i : Nat) (v : Value), items[i]? = some v → ∃ k t, ns[i]? = some k ∧ v = .int k t := fun i v hv => by
          have hi : i < ns.length := by rw [← hisz]; exact (Array.getElem?_eq_some_iff.mp hv).1
          obtain ⟨t, e⟩ := PyProof.Rows.IntsAre.int_at hit i v (by rw [Array.getElem?_toList]; exact hv)
          refine ⟨ns[i], t, List.getElem?_eq_getElem hi, ?_⟩
          rw [e, List.getD_eq_getElem?_getD, List.getElem?_eq_getElem hi] <;> rfl
        refine set_update_ints ((Walks.list hh3 _ l hneI items).toS) s.heap.objs.size
          hSf ns hisz hb hval (items.size - 0) 0 _ (by omega) (Nat.zero_le _)
          ⟨⟨_, Heap.get?_push_size _ rfl, rfl, rfl⟩, (hl1.push _)⟩ ?hS0 ?hR
        case hS0 =>
          have hget : ((s.heap.push (emptySet w)).push { cls := .type "list_iterator", data := .fields #[.ref l, .int 0 0] }).get? s.heap.objs.size = some (emptySet w) := Heap.get?_push_of_some _ hS
          exact ⟨0, Nat.le_refl 0, setR_new_at hget⟩
        case hR =>
          intro s' c' hm hc' hS'
          obtain ⟨h', g2, d', tk', os'⟩ := s'
          have eg : g2 = s.gens := hm.gens
          have ed : d' = s.drawn := hm.drawn
          have eo : os' = s.os := hm.os
          subst eg; subst ed; subst eo
          show wpAny _ _ _ _ _ _
          refine wpAny_pure ?_
          show wpAny _ _ (ret Value.none) _ _ _
          rw [hisz] at hc'
          refine wpAny_pure ⟨rfl, h', tk', c', rfl, hS', hc', fun b o e => ?_⟩
          have hb0 : b < s.heap.objs.size := Heap.lt_size e
          have hb1 : b ≠ s.heap.objs.size := Nat.ne_of_lt hb0
          have hb2 : b ≠ (s.heap.push (emptySet w)).objs.size := by
            rw [Heap.size_push]; exact Nat.ne_of_lt (Nat.lt_succ_of_lt hb0)
          exact hm.heap b o (by simp only [List.mem_cons, List.mem_singleton, List.not_mem_nil, or_false, not_or]; exact ⟨hb1, hb2⟩) (Heap.get?_push_of_some _ (Heap.get?_push_of_some _ e))
      · cases r₂ with
        | error e => exact hr₂
        | ok fl₂ =>
          cases fl₂ with
          | ret r =>
            obtain ⟨rfl, h', tk, c', rfl, hS', hc', hk'⟩ := hr₂
            repeat (any_goals (first | assumption | wp_step))
            exact h _ _ _ hS' hc' hk'
          | _ => exact hr₂.elim
    | _ => exact hr.elim
theorem sorted_setN {a : Addr} {S : Int → Bool} {n : Nat} {Q : Value → Shared → Prop} (R : SetR w s.heap a S n) (hh : A.handled = none)
    (hQ : ∀ s' p (out : Array Value) (c : Nat) (ns : List Int), (∀ b o, s.heap.get? b = some o → s'.heap.get? b = some o) → s'.gens = s.gens → s'.os = s.os → s.heap.objs.size ≤ p →
      s'.heap.get? p = some (seqObj "list" out c) → IntsAre out.toList ns → ns.Pairwise (· < ·) → (∀ k, k ∈ ns ↔ S k = true) → ns.length = n → Q (.ref p) s') :
    wpAny (model P w) A (call (.builtin "sorted") [.ref a]) Q E s := by
  obtain ⟨o, es, ep, t, ho, hex, hd, g, nd, hm, hb, hf, hn, hr, hl⟩ := R
  refine Calls.call_function_entry kind_sorted plain_sorted entry_sorted (args_sorted1 _) ?_
  unfold Builtin.«sorted»
  refine wpAny_bind (m := checkCount "sorted" 1 1 _) (wpAny_pure ?_)
  refine wpAny_bind (collect_set (A := A.in1) hh ⟨o, ho, hex.1, hd⟩ hf hb hr hl fun s1 vs k1 hz g1 o1 pm => ?_)
  have hvl : vs.length = n := by rw [pm.length_eq, List.length_map, Array.length_toList]; exact hn
  have hn2 : n < scanBound := by rw [← hn]; exact hb
  have hls : vs.length ≤ sizeLine := by
    rw [hvl]
    exact fits_of_scanBound hn2
  have gi : ∀ v ∈ vs, ∃ k tk, v = Value.int k tk := fun v hv => by
    obtain ⟨e, he, q⟩ := List.mem_map.mp (pm.mem_iff.mp hv)
    obtain ⟨k, tk, h1, _⟩ := g e he
    exact ⟨k, tk, by rw [← q]; exact h1⟩
  have hI : IntsAre vs (vs.map SrtO.iv) := SrtO.ints_iv gi
  have pk : (vs.map SrtO.iv).Perm (es.toList.map keyOf) := by
    have q := pm.map SrtO.iv
    rw [List.map_map] at q
    refine q.trans (List.Perm.of_eq (List.map_congr_left fun e he => ?_))
    obtain ⟨k, tk, h1, _⟩ := g e he
    show SrtO.iv e.2 = keyOf e
    unfold keyOf
    rw [h1]
    rfl
  refine wpAny_bind (wpAny_newList ?_ hls)
  have hoL : (s1.heap.push (seqObj "list" vs.toArray 0)).get? s1.heap.objs.size = some (seqObj "list" vs.toArray 0) := Heap.get?_push_size _ rfl
  refine wpAny_bind (wpAny_holding (wpAny_call_entry slot_list_sort ⟨_, hoL, rfl⟩ entry_list_sort (SrtO.list_sort_ord SrtO.swo_int hoL hls (fun h2 => SrtO.ints_sortable hI h2) fun out h1 h2 => ⟨_, rfl, ?_⟩) (args_list_sort _)))
  obtain ⟨a1, a2, a3⟩ := SrtO.ints_out hI h1 h2
  obtain ⟨c, hc⟩ := sortedHeap_at (vs := vs) (out := out.toArray) hoL
  have pn : (out.map SrtO.iv).Perm (es.toList.map keyOf) := a2.trans pk
  refine wpAny_pure ⟨_, rfl, hQ _ s1.heap.objs.size out.toArray c (out.map SrtO.iv) (fun b u e => ?_) g1 o1 hz hc (by simpa using a1) (lt_of_le_nodup _ a3 (pn.nodup_iff.mpr nd)) (fun k => by rw [pn.mem_iff, ← hm k]) ?_⟩
  · have q := k1 b u e
    have hlt := Heap.lt_size q
    show (sortedHeap (s1.heap.push (seqObj "list" vs.toArray 0)) s1.heap.objs.size vs out.toArray).get? b = some u
    rw [sortedHeap_old (Nat.ne_of_lt hlt) (by rw [size_push']; exact Nat.lt_succ_of_lt hlt)]
    exact Heap.get?_push_of_some _ q
  · rw [pn.length_eq, List.length_map, Array.length_toList]; exact hn
end
section
variable {X : Cx}
/-- sorted(set(xs)), a list of ints -/
def rSortSet (K : PySem.W.Frag) : V → Hp → VK → Prop := fun x H Q => ∃ (l : Addr) (ns : List Int), x = .ref l ∧ SqL K H l (ns.map V.int) ∧ ns.length + 1 < 4096 ∧
  ∀ (ns' : List Int) (p : Addr), ns'.Pairwise (· < ·) → (∀ k, k ∈ ns' ↔ k ∈ ns) → H p = none → Q (.ref p) (upd H p (.lst (ns'.map V.int)))
def tSortSet (K : PySem.W.Frag) (ta : TE) : TE := fun σ H Q => ta σ H fun x H1 => rSortSet K x H1 Q
theorem sortSet_fin {pins : List (Addr × Obj)} {σ : St} {H1 : Hp} {s : Shared} {a : Addr} {ns : List Int} {c : Nat} {Q : VK} (hc : X.calm = true) (I2 : Inv X pins σ H1 s) (hS : SetR X.w s.heap a (fun j => decide (j ∈ ns)) c) (hcl : c ≤ ns.length) (hl : ns.length + 1 < 4096)
    (q1 : ∀ (ns' : List Int) (p : Addr), ns'.Pairwise (· < ·) → (∀ k, k ∈ ns' ↔ k ∈ ns) → H1 p = none → Q (.ref p) (upd H1 p (.lst (ns'.map V.int)))) :
    wpAny (model X.prog X.w) X.A (call (.builtin "sorted") [.ref a]) (EP X pins σ Q) X.xe s := by
  refine sorted_setN hS (I2.ok.hd hc) fun s' p out c' ns' k g o hp hg hi hs hm hln => ?_
  have hlen : (ns'.map V.int).length ≤ sizeLine := by rw [List.length_map, hln, sizeLine_eq]; omega
  have hn : H1 p = none := I2.hok.fresh hp
  have J : Inv X pins σ (upd H1 p (.lst (ns'.map V.int))) { s with heap := s'.heap, gens := s'.gens, drawn := s'.drawn, toks := s'.toks } :=
    I2.call (ch := []) (Un.laid k hp hn) (I2.hok.laid k hp ⟨hlen, out.toList, c', vals_of_ints hi, hg⟩) (by rw [g]; exact I2.bare) (fun _ z => nomatch z)
  have e : s' = { s with heap := s'.heap, gens := s'.gens, drawn := s'.drawn, toks := s'.toks } := by
    cases s'
    cases s
    cases o
    rfl
  rw [e]
  exact ⟨.ref p, _, J, rfl, q1 ns' p hs (fun k => (hm k).trans decide_eq_true_iff) hn⟩
theorem pe_sortSet {a : Expr} {ta : TE} {p p2 q pos : Pos} (hc : X.calm = true) (hm : X.mg "sorted" = none) (hm2 : X.mg "set" = none) (ha : PE X a ta) (hg : Gl X "sorted" := by rfl) (hg2 : Gl X "set" := by rfl)
    (na : starEach [a] X.env = (false, eval a X.env) :: starEach [] X.env := by rfl) : PE X (.Call (.Name "sorted" p) [.Call (.Name "set" p2) [a] [] q] [] pos) (tSortSet X.K ta) := by
  refine ⟨fun pins s σ H Q I h => ?_⟩
  refine Call_ (ld_blt I hg hm boot_sorted ?_)
  refine PyProof.Rows.callWith_builtin1 (PyProof.Rows.args_cons ?_ rfl) rfl rfl
  refine Call_ (ld_blt I hg2 hm2 boot_set ?_)
  refine PyProof.Rows.callWith_type1 (PyProof.Rows.args_cons (thn (ha.run pins s σ H _ I h) fun v s1 ⟨x, H1, I1, r1, q1⟩ => PyProof.Rows.args_nil ?_) na) na rfl
  obtain ⟨l, ns, rfl, hq, hl, q1⟩ := q1
  cases r1
  obtain ⟨its, r, pl, hz⟩ := I1.list hq
  refine set_ofL ns (I1.ok.hd hc) pl.isList (by simpa using RZ.intsAre_vals r) (by unfold scanBound; omega) fun h' tk c hS hcl hk => ?_
  refine PyProof.Rows.args_nil ?_
  have I2 : Inv X pins σ H1 { s1 with heap := h', toks := tk } := I1.kept hk
  exact sortSet_fin hc I2 hS hcl hl q1
end
/-! the values -/
def insI (x : Int) : List Int → List Int
  | [] => [x]
  | y :: r => if x < y then x :: y :: r else if x = y then y :: r else y :: insI x r
def ascI : List Int → List Int
  | [] => []
  | x :: r => insI x (ascI r)
theorem insI_mem {x k : Int} : ∀ {r : List Int}, k ∈ insI x r ↔ k = x ∨ k ∈ r
  | [] => by simp [insI]
  | y :: r => by
    unfold insI
    split
    · simp
    · split
      · rename_i h
        subst h
        simp
      · rw [List.mem_cons, insI_mem, List.mem_cons]
        constructor
        · rintro (h | h | h) <;> simp [h]
        · rintro (h | h | h) <;> simp [h]
theorem insI_asc {x : Int} : ∀ {r : List Int}, r.Pairwise (· < ·) → (insI x r).Pairwise (· < ·)
  | [], _ => List.pairwise_singleton _ _
  | y :: r, h => by
    obtain ⟨h1, h2⟩ := List.pairwise_cons.mp h
    unfold insI
    split
    · rename_i c
      exact List.pairwise_cons.mpr ⟨fun z hz => by
        rcases List.mem_cons.mp hz with rfl | hz
        · exact c
        · exact Int.lt_trans c (h1 z hz), h⟩
    · split
      · exact h
      · exact List.pairwise_cons.mpr ⟨fun z hz => by
          rcases insI_mem.mp hz with rfl | hz
          · omega
          · exact h1 z hz, insI_asc h2⟩
theorem ascI_mem {k : Int} : ∀ {r : List Int}, k ∈ ascI r ↔ k ∈ r
  | [] => Iff.rfl
  | y :: r => by
    unfold ascI
    rw [insI_mem, ascI_mem, List.mem_cons]
theorem ascI_asc : ∀ r : List Int, (ascI r).Pairwise (· < ·)
  | [] => List.Pairwise.nil
  | y :: r => insI_asc (ascI_asc r)
theorem asc_one : ∀ {a b : List Int}, a.Pairwise (· < ·) → b.Pairwise (· < ·) → (∀ k, k ∈ a ↔ k ∈ b) → a = b
  | [], [], _, _, _ => rfl
  | [], y :: b, _, _, h => absurd ((h y).mpr List.mem_cons_self) (by simp)
  | x :: a, [], _, _, h => absurd ((h x).mp List.mem_cons_self) (by simp)
  | x :: a, y :: b, ha, hb, h => by
    obtain ⟨a1, a2⟩ := List.pairwise_cons.mp ha
    obtain ⟨b1, b2⟩ := List.pairwise_cons.mp hb
    have e : x = y := by
      rcases List.mem_cons.mp ((h x).mp List.mem_cons_self) with q | q
      · exact q
      · rcases List.mem_cons.mp ((h y).mpr List.mem_cons_self) with z | z
        · exact z.symm
        · have := b1 x q
          have := a1 y z
          omega
    subst e
    rw [asc_one a2 b2 fun k => ?_]
    constructor
    · intro hk
      rcases List.mem_cons.mp ((h k).mp (List.mem_cons_of_mem _ hk)) with q | q
      · subst q
        have := a1 k hk
        omega
      · exact q
    · intro hk
      rcases List.mem_cons.mp ((h k).mpr (List.mem_cons_of_mem _ hk)) with q | q
      · subst q
        have := b1 k hk
        omega
      · exact q
def setD : D → DV
  | .lst ds => (intsOf ds).bind fun ns => if ns.length + 1 < 4096 then some (.lst ((ascI ns).map D.int), true) else none
  | _ => none
section
variable {X : Cx} {g : Gc} (hg : g.K = X.K)
include hg
theorem s_sortSet : UnS g (rSortSet X.K) setD := by
  intro x dx H Xx Q d fr r hx ho q
  unfold setD at ho
  split at ho
  · obtain ⟨bs, e1, e2⟩ := Option.bind_eq_some_iff.mp ho
    split at e2
    · rename_i hl
      cases e2
      have e := intsOf_eq e1
      cases r with
      | lst nx h1 r1 =>
        rw [e] at r1
        have e2 := reps_ints_inv r1
        refine ⟨_, bs, rfl, by rw [← hg]; exact .of (by rw [h1, e2]), hl, fun ns' p hs hm n s => ?_⟩
        have : ns' = ascI bs := asc_one hs (ascI_asc bs) fun k => (hm k).trans ascI_mem.symm
        subst this
        exact q _ _ (same_upd hg n) s (fresh_lst hg n hx s reps_ints)
    · cases e2
  · cases ho
theorem de_sortSet {a : Expr} {fa : Ex} {p p2 q pos : Pos} (hc : X.calm = true) (ha : DE X g a fa) (hm : X.mg "sorted" = none) (hm2 : X.mg "set" = none) (hgl : Gl X "sorted" := by rfl) (hgl2 : Gl X "set" := by rfl)
    (na : starEach [a] X.env = (false, eval a X.env) :: starEach [] X.env := by rfl) : DE X g (.Call (.Name "sorted" p) [.Call (.Name "set" p2) [a] [] q] [] pos) (eUn setD fa) := by
  refine ⟨PE.by hg (pe_sortSet hc hm hm2 ha.pe hgl hgl2 na) fun σ H Q h => ?_⟩
  obtain ⟨e, Xx, ow, er, h⟩ := h
  refine ⟨e, Xx, ow, er, (Ro.all_bind.mp h).mono fun p h => ?_⟩
  intro v H1 po rv
  obtain ⟨d, fr, ho, hq⟩ := fin_of hg er po h
  exact s_sortSet hg v p.1 H1 Xx Q d fr rv.1.1 po.er.xs ho hq
end
theorem dt_empEq {X : Cx} {g : Gc} (hg : g.K = X.K) {i : Nat} {x : Str} {p1 p2 pos : Pos} (hu : X.A.units + 64 < cLine) (hN : X.N[i]? = some x := by rfl) (hv : Vis X.env.scope x := by first | exact Or.inl rfl | exact Or.inr (Or.inl rfl) | exact Or.inr (Or.inr rfl))
    (hd : (x == ("__debug__" : Str)) = false := by decide) (hcd : (x == ("__classdict__" : Str)) = false := by decide) : DT X g (.Compare (.Name x p1) [.Eq] [.List [] p2] pos) (tVal (eEmpO false i)) := by
  refine ⟨PT.by hg (pt_cmp (PC.by hg (t' := rd g (eEmpO false i)) (pc_of hg (op_eqD hu) (pe_var hN hv hd hcd) (pe_lst pa_nil)) fun σ H Q h => ?_) (nomark _)) fun σ H Q h => ?_⟩
  · obtain ⟨e, Xx, ow, er, h⟩ := h
    unfold eEmpO at h
    split at h
    · rename_i ds hi
      split at h
      · rename_i p hp
        split at h
        · rename_i hs
          obtain ⟨h1, h2, vs, h3, r⟩ := er.at hi
          refine ⟨_, h1, by show 0 ≤ sizeLine; exact Nat.zero_le _, fun q n => ?_⟩
          obtain ⟨ps, e1, e2⟩ := Option.map_eq_some_iff.mp (show (toPs ds).map PyData.list = some p from hp)
          subst e2
          refine ⟨_, _, by rw [← hg]; exact rep_dp ((er.look hi).same (same_upd hg n)) _ hp, .lst (.of upd_same) .nil, hs, shaped_nil, fun s => ?_⟩
          have e3 : (PyData.eqv (.list ps) (.list [])) = (false != ds.isEmpty) := by
            rw [eqv_nil]
            have := toPs_len e1
            cases ps <;> cases ds <;> first | rfl | (simp at this)
          rw [e3]
          exact h _ _ (.of er (same_upd hg n) s) (.old (.bl _))
        · exact False.elim h
      · exact False.elim h
    · exact False.elim h
  · have z := rd_val hg σ H (fun b H' => Sep g H' → Q b H') (f := eEmpO false i) (by
      obtain ⟨e, Xx, ow, er, h⟩ := h
      exact ⟨e, Xx, ow, er, h.mono fun p h H' po _ => h H' po⟩)
    exact z
theorem dt_empNe {X : Cx} {g : Gc} (hg : g.K = X.K) {i : Nat} {x : Str} {p1 p2 pos : Pos} (hu : X.A.units + 64 < cLine) (hN : X.N[i]? = some x := by rfl) (hv : Vis X.env.scope x := by first | exact Or.inl rfl | exact Or.inr (Or.inl rfl) | exact Or.inr (Or.inr rfl))
    (hd : (x == ("__debug__" : Str)) = false := by decide) (hcd : (x == ("__classdict__" : Str)) = false := by decide) : DT X g (.Compare (.Name x p1) [.NotEq] [.List [] p2] pos) (tVal (eEmpO true i)) := by
  refine ⟨PT.by hg (pt_cmp (PC.by hg (t' := rd g (eEmpO true i)) (pc_of hg (op_neD hu) (pe_var hN hv hd hcd) (pe_lst pa_nil)) fun σ H Q h => ?_) (nomark _)) fun σ H Q h => ?_⟩
  · obtain ⟨e, Xx, ow, er, h⟩ := h
    unfold eEmpO at h
    split at h
    · rename_i ds hi
      split at h
      · rename_i p hp
        split at h
        · rename_i hs
          obtain ⟨h1, h2, vs, h3, r⟩ := er.at hi
          refine ⟨_, h1, by show 0 ≤ sizeLine; exact Nat.zero_le _, fun q n => ?_⟩
          obtain ⟨ps, e1, e2⟩ := Option.map_eq_some_iff.mp (show (toPs ds).map PyData.list = some p from hp)
          subst e2
          refine ⟨_, _, by rw [← hg]; exact rep_dp ((er.look hi).same (same_upd hg n)) _ hp, .lst (.of upd_same) .nil, hs, shaped_nil, fun s => ?_⟩
          have e3 : (!PyData.eqv (.list ps) (.list [])) = (true != ds.isEmpty) := by
            rw [eqv_nil]
            have := toPs_len e1
            cases ps <;> cases ds <;> first | rfl | (simp at this)
          rw [e3]
          exact h _ _ (.of er (same_upd hg n) s) (.old (.bl _))
        · exact False.elim h
      · exact False.elim h
    · exact False.elim h
  · have z := rd_val hg σ H (fun b H' => Sep g H' → Q b H') (f := eEmpO true i) (by
      obtain ⟨e, Xx, ow, er, h⟩ := h
      exact ⟨e, Xx, ow, er, h.mono fun p h H' po _ => h H' po⟩)
    exact z
/-- a, b = a list -/
def tgLst (is : List Nat) : Tg := fun d e => match d with
  | .lst ds => if ds.length = is.length then .ok (setAll is ds e) else .bad
  | _ => .bad
@[simp] theorem x_tgLst (is : List Nat) (ds : List D) (e : En) : tgLst is (.lst ds) e = if ds.length = is.length then .ok (setAll is ds e) else .bad := rfl
theorem dg_lst {X : Cx} {g : Gc} (hg : g.K = X.K) {is : List Nat} {es : List Expr} {k : Nat} {pos : Pos} (hc : X.calm = true) (h : PGs X es (gNames is)) (hn : (assignEach es X.env).length = is.length := by rfl) (hst : (assignEach es X.env).findIdx? (·.1) = none := by rfl) : DG X g (.Tuple es k pos) (tgLst is) is := by
  refine ⟨PG.by hg (pg_unl (n := is.length) hc h hn hst) fun v σ H Q s h => ?_⟩
  obtain ⟨e, Xx, ow, d, er, rp, h⟩ := h
  cases d with
  | lst ds =>
    dsimp only [tgLst] at h
    split at h
    · rename_i hl
      cases rp s with
      | lst nx h1 r1 =>
        refine ⟨_, _, rfl, by rw [← hg]; exact .of h1, by rw [r1.length]; exact hl, ?_⟩
        exact ⟨by rw [r1.length]; exact hl, h _ ((er s).setAll r1) (Chg.all _ _ _ _ _ r1.length hl)⟩
    · exact False.elim h
  | _ => exact False.elim h
end G

/-! a op b op c as a value. -/
namespace G
open PySem PySem.Spec PyProof.Rows L2
section
variable {X : Cx} {g : Gc} (hg : g.K = X.K)
include hg
theorem de_chain {op op' : CmpOp} {r r' : R2} {o o' : D → D → Option (D × Bool)} {a b c : Expr} {fa fb fc : Ex} {pos : Pos} (ho : OpR X (compareOp op) r) (ho' : OpR X (compareOp op') r') (hs : BinS g r o) (hs' : BinS g r' o') (ha : DE X g a fa) (hb : DE X g b fb) (hc : DE X g c fc)
    (hm : lastMarks [op, op'] [b, c] = false := by with_unfolding_all rfl) : DE X g (.Compare a [op, op'] [b, c] pos) (eChain o o' fa fb fc) := by
  refine ⟨PE.by hg (pe_chain (r := fun x y H Q => r x y H fun v H' => Sep g H' → Q v H') (fun pins s σ H x y v u Q I rx ry q => ?_) ho' ha.pe hb.pe hc.pe hm) fun σ H Q h => ?_⟩
  · exact thn (ho pins s σ H x y v u _ I rx ry q) fun w s3 ⟨x, H1, I1, r, q⟩ => ⟨x, H1, I1, r, q (sep_of hg I1)⟩
  · obtain ⟨e, Xx, ow, er, h⟩ := h
    refine ⟨e, Xx, ow, er, (Ro.all_bind.mp h).mono fun p h => ?_⟩
    intro v H1 po rv
    refine ⟨p.2.2, Xx, ow, po.er, (Ro.all_bind.mp h).mono fun q h => ?_⟩
    intro w H2 po2 rw2
    have po12 := po.trans po2
    cases hk : o p.1 q.1 with
    | none => rw [hk] at h; exact False.elim h
    | some k =>
      obtain ⟨kd, kfr⟩ := k
      rw [hk] at h
      refine hs v w p.1 q.1 H2 Xx _ kd kfr (Kp.rep po.er po2.kp rv.1.1) rw2.1.1 po2.er.xs hk fun z H3 k3 s3 r3 => ?_
      have po3 := po12.trans (.of po12.er k3 s3)
      cases kd with
      | bl b =>
        cases r3.1
        refine ⟨b, rfl, ?_⟩
        cases b with
        | false =>
          rw [if_neg Bool.false_ne_true]
          exact fun s => h (.bl false) H3 po3 (.old (.bl false))
        | true =>
          rw [if_pos rfl]
          refine ⟨q.2.2, Xx, ow, po3.er, (Ro.all_bind.mp h).mono fun t h => ?_⟩
          intro z H4 po4 rv4
          obtain ⟨d2, fr2, ho2, hq2⟩ := fin_of hg er (po3.trans po4) h
          exact hs' w z q.1 t.1 H4 Xx Q d2 fr2 (Kp.rep po3.er po4.kp (rw2.1.1.same k3)) rv4.1.1 po4.er.xs ho2 hq2
      | _ => exact False.elim h
end
end G

/-! Methods called by names; texts in a tuple. -/
namespace G
open PySem PySem.Spec PyProof.Rows L2
structure KmK (P : Program) (w : World) (K : PySem.W.Frag) (mg : Str → Option Value) (base : Heap) (g : Gc) (c : Nat) (m : Str) (k np : Nat) (ks : List Str) (perm : List Nat) (F : Fn) : Prop where
  ex : ∃ (f : Addr) (fd : FuncData) (ps : List Str), ps.length = np ∧ FnG P w K mg base g k f fd ps false F ∧ Cls K (g.cl c) ∧ Meth K (g.cl c) m f ∧
    (∀ (s : Shared) (us ws : List Value), us.length = 1 → ws.length = ks.length → BindsTo s fd ⟨us, ks.zip ws⟩ (ps.zip (pick perm (us ++ ws))))
def eMethK (c : Nat) (m : Str) (nk : Nat) (perm : List Nat) (F : Fn) (fo : Ex) (fk : Ea) : Ex := fun e => (fo e).bind fun o => match o.1 with
  | .obj c' ns ds => if c' = c ∧ m ∉ ns then (fk o.2.2).bind fun q => if q.1.length = nk then (F (pick perm (.obj c' ns ds :: q.1))).bind fun r => .ok (r.1, r.2.1, q.2) else .bad else .bad
  | _ => .bad
section
variable {X : Cx} {g : Gc} (hg : g.K = X.K)
include hg
theorem pe_methK {c : Nat} {m : Str} {k np : Nat} {ks : List Str} {perm : List Nat} {F : Fn} {o : Expr} {kws : List Keyword} {to : TE} {tk : TA} {apos pos : Pos} {pl : Sem Bool} (Z : KmK X.prog X.w X.K X.mg X.base g c m k np ks perm F) (hr : Room k X.A) (hgd : X.A.guards = some []) (ho : PE X o to) (hk : PK X kws tk)
    (hall : (backToKw pos (keywordEach kws X.env)).all (·.1.isSome) = true) (hks : (backToKw pos (keywordEach kws X.env)).filterMap (·.1) = ks)
    (hpl : ((backTo pos (starEach [] X.env)).any (·.1) || (backToKw pos (keywordEach kws X.env)).any (·.1.isNone)) = false)
    (ht : eval (.Call (.Attribute o m apos) [] kws pos) X.env = (do
      let ov ← eval o X.env
      standAt apos.atName
      let (f, first) ← holding [ov] (getMethod ov m pl)
      callWith pos f first (backTo pos (starEach [] X.env)) (backToKw pos (keywordEach kws X.env)))) :
    PE X (.Call (.Attribute o m apos) [] kws pos) (fun σ H Q => to σ H fun x H1 => ∃ a dx fs, x = .ref a ∧ H1 a = some (.ins (g.cl c) dx fs) ∧ fs.lookup m = none ∧ tk σ H1 fun zs H2 => zs.length = ks.length ∧ spD g np false F (pick perm (x :: zs)) H2 Q E0) := by
  obtain ⟨f, fd, ps, rfl, hF, hcl, hm, hb⟩ := Z.ex
  refine ⟨fun pins s σ H Q I h => ?_⟩
  refine PySem.W.methodCall_KW (pl := pl) (thn (ho.run pins s σ H _ I h) fun u s1 ⟨x, H1, I1, rx, a, dx, fs, ex, ea, l, q⟩ => ?_) ht
  subst ex
  cases (show u = Value.ref a from rx)
  refine getmeth_ok I1 ea hcl hm l ?_
  refine PySem.W.callWith_KW0 (first := [.ref a]) (h₀ := X.base) I.ok.mod.kin hm.kp hall (thn (hk.run pos pins s1 σ H1 _ I1 q) fun ws s2 ⟨zs, H2, I2, rz, hz, q2⟩ => ⟨I2.kIn, ?_⟩) hpl
  rw [hks]
  exact run_fngK (n := 1) (us := [.ref a]) (vs := [.ref a]) hF hr hgd hb rfl (by rw [← rz.length, hz]) I2 (.cons rfl .nil) rz q2
theorem de_methK {c : Nat} {m : Str} {k np : Nat} {ks : List Str} {perm : List Nat} {F : Fn} {o : Expr} {kws : List Keyword} {fo : Ex} {fk : Ea} {apos pos : Pos} {pl : Sem Bool} (Z : KmK X.prog X.w X.K X.mg X.base g c m k np ks perm F) (hr : Room k X.A) (hgd : X.A.guards = some []) (ho : DE X g o fo) (hk : DK X g kws fk)
    (hall : (backToKw pos (keywordEach kws X.env)).all (·.1.isSome) = true := by rfl) (hks : (backToKw pos (keywordEach kws X.env)).filterMap (·.1) = ks := by rfl)
    (hpl : ((backTo pos (starEach [] X.env)).any (·.1) || (backToKw pos (keywordEach kws X.env)).any (·.1.isNone)) = false := by rfl)
    (ht : eval (.Call (.Attribute o m apos) [] kws pos) X.env = (do
      let ov ← eval o X.env
      standAt apos.atName
      let (f, first) ← holding [ov] (getMethod ov m pl)
      callWith pos f first (backTo pos (starEach [] X.env)) (backToKw pos (keywordEach kws X.env))) := by rfl) : DE X g (.Call (.Attribute o m apos) [] kws pos) (eMethK c m ks.length perm F fo fk) := by
  refine ⟨PE.by hg (pe_methK hg Z hr hgd ho.pe hk.pk hall hks hpl ht) fun σ H Q h => ?_⟩
  obtain ⟨e, Xx, ow, er, h⟩ := h
  obtain ⟨f, fd, ps, hnp, hF, _⟩ := Z.ex
  have h0 := Ro.all_bind.mp h
  clear h
  refine ⟨e, Xx, ow, er, h0.mono fun o h => ?_⟩
  intro v H1 po rv
  split at h
  · rename_i c' ns ds hd
    split at h
    · rename_i hc
      obtain ⟨hc, hm⟩ := hc
      subst hc
      have r := rv.1.1
      rw [hd] at r
      cases r with
      | obj nx hH hnl r1 =>
        refine ⟨_, _, _, rfl, hH, lookup_not hm, o.2.2, Xx, ow, po.er, (Ro.all_bind.mp h).mono fun p h => ?_⟩
        intro vs H2 po2 rv2
        split at h
        · rename_i hl2
          have po12 := po.trans po2
          have h := Ro.all_bind.mp h
          have ro := Kp.rep po.er po2.kp (Rep.obj nx hH hnl r1)
          refine ⟨by rw [rv2.length, hl2], Xx, pick perm (.obj c' ns ds :: p.1), (hF.ar _ _ h).trans hnp, .inl ⟨rfl, Reps.pick (.cons ro rv2) perm⟩, po12.er.xs, po12.er.sep, h.mono fun r h => ?_⟩
          intro v H' pp s
          have sm := pp.same rfl
          exact h v H' (po12.trans (.of po12.er sm s)) ((RVx.of po12.er sm s pp.rv).back er po12.er po12.kp)
        · exact False.elim h
    · exact False.elim h
  · exact False.elim h
end
/-! texts in a tuple of texts -/
def strsOf : List D → Option (List Str)
  | [] => some []
  | .str x :: r => (strsOf r).map (x :: ·)
  | _ => none
theorem strsOf_eq : ∀ {ds : List D} {ss : List Str}, strsOf ds = some ss → ds = ss.map D.str
  | [], ss, h => by cases h; rfl
  | d :: r, ss, h => by
    cases d with
    | str x =>
      obtain ⟨ts, e1, e2⟩ := Option.map_eq_some_iff.mp (show (strsOf r).map (x :: ·) = some ss from h)
      subst e2
      rw [strsOf_eq e1]
      rfl
    | _ => cases h
theorem reps_strs_inv {g : Gc} {H : Hp} {Xx : Px} : ∀ {ss : List Str} {vs : List V}, Reps g H Xx vs (ss.map D.str) → vs = ss.map V.str
  | [], _, .nil => rfl
  | s :: r, _, .cons h t => by
    cases h
    rw [reps_strs_inv t]
    rfl
def inTS (neg : Bool) : D → D → DV
  | .str x, .tup ds => (strsOf ds).map fun ss => (.bl (if neg then !decide (x ∈ ss) else decide (x ∈ ss)), false)
  | _, _ => none
theorem inV_strs (x : Str) : ∀ ss : List Str, inV (.str x) (ss.map V.str) = decide (x ∈ ss)
  | [] => by simp [inV]
  | s :: r => by
    have ih := inV_strs x r
    unfold inV at ih ⊢
    rw [List.map_cons, List.any_cons, ih]
    show (s == x || decide (x ∈ r)) = decide (x ∈ s :: r)
    by_cases h : s = x
    · subst h
      simp
    · have h2 : ¬ x = s := fun z => h z.symm
      simp [h, h2]
theorem flat_strs (ss : List Str) : (ss.map V.str).all flatV = true := by
  rw [List.all_eq_true]
  intro v hv
  obtain ⟨s, _, rfl⟩ := List.mem_map.mp hv
  rfl
theorem s_inTS {X : Cx} {g : Gc} (hg : g.K = X.K) (neg : Bool) : BinS g (rIn X.K neg) (inTS neg) := by
  intro x y dx dy H Xx Q d fr rx ry _ ho q
  unfold inTS at ho
  split at ho
  · obtain ⟨ss, e1, e2⟩ := Option.map_eq_some_iff.mp ho
    cases e2
    have e := strsOf_eq e1
    cases rx
    cases ry with
    | tup nx h1 r1 =>
      rw [e] at r1
      have e2 := reps_strs_inv r1
      subst e2
      refine ⟨_, _, rfl, .inr (by rw [← hg]; exact h1), rfl, flat_strs ss, fun s => ?_⟩
      rw [inV_strs]
      exact q _ H (.refl H) s (.old (.bl _))
  · cases ho
end G

/-! sorted(xs) of a list of pairs of ints. -/
namespace G
open PySem PySem.Spec PyProof.Rows L2
inductive PairsAt (K : PySem.W.Frag) (H : Hp) : List V → List (Int × Int) → Prop
  | nil : PairsAt K H [] []
  | cons {t : Addr} {i j : Int} {xs : List V} {ps : List (Int × Int)} : SqT K H t [V.int i, V.int j] → PairsAt K H xs ps → PairsAt K H (V.ref t :: xs) ((i, j) :: ps)
def pairAt (h : Heap) : Value → Int × Int
  | .ref t => match h.get? t with
    | some o => match o.data with
      | .seq a _ => match a.toList with
        | [.int x _, .int y _] => (x, y)
        | _ => (0, 0)
      | _ => (0, 0)
    | none => (0, 0)
  | _ => (0, 0)
/-- the relation of sorted -/
def rSortPr (K : PySem.W.Frag) : List V → Hp → VK → Prop := fun vs H Q => ∃ (a : Addr) (xs : List V) (ps : List (Int × Int)), vs = [V.ref a] ∧ SqL K H a xs ∧ PairsAt K H xs ps ∧
  ∀ (zs : List (V × (Int × Int))) (p : Addr), zs.Perm (xs.zip ps) → zs.Pairwise (fun a b => SrtO.lexB b.2 a.2 = false) → H p = none → Q (.ref p) (upd H p (.lst (zs.map (·.1))))
section
variable {X : Cx}
theorem pairs_at {pins : List (Addr × Obj)} {σ : St} {H : Hp} {s : Shared} (I : Inv X pins σ H s) {xs : List V} {ps : List (Int × Int)} (h : PairsAt X.K H xs ps) : ∀ {its : List Value}, Vals xs its →
    (∀ u ∈ its, ∃ t, u = Value.ref t) ∧ (∀ u ∈ its, Srt.IsPair s.heap u (pairAt s.heap u).1 (pairAt s.heap u).2) ∧ xs.zip ps = its.map fun u => (backV u, pairAt s.heap u) := by
  induction h with
  | nil =>
    intro its r
    cases r
    exact ⟨fun _ z => (nomatch z), fun _ z => (nomatch z), rfl⟩
  | cons ht _ ih =>
    intro its r
    cases r with
    | cons r1 r2 =>
      rename_i u us
      obtain ⟨q1, q2, q3⟩ := ih r2
      cases r1
      obtain ⟨its2, rv, ⟨o, ho, hc, n, hd⟩, hz⟩ := I.tuple ht
      obtain ⟨u1, u2, rfl, ri, rj⟩ := vals2 rv
      obtain ⟨t1, rfl⟩ := ri
      obtain ⟨t2, rfl⟩ := rj
      rename_i t i j _ _ _
      have e : pairAt s.heap (.ref t) = (i, j) := by
        simp only [pairAt, ho, hd]
      refine ⟨fun v hv => ?_, fun v hv => ?_, ?_⟩
      · rcases List.mem_cons.mp hv with rfl | hv
        · exact ⟨_, rfl⟩
        · exact q1 v hv
      · rcases List.mem_cons.mp hv with rfl | hv
        · rw [e]
          exact ⟨_, o, t1, t2, n, rfl, ho, hc, hd⟩
        · exact q2 v hv
      · rw [List.zip_cons_cons, q3, List.map_cons, e]
        rfl
theorem cr_sortPr : CallR X (.builtin "sorted") (rSortPr X.K) := by
  intro pins s σ H vs us Q I r h
  obtain ⟨a, xs, ps, rfl, hs, hx, q⟩ := h
  obtain ⟨its, rv, hl, hz⟩ := I.list hs
  rw [Vals.ref1 r]
  obtain ⟨q1, q2, q3⟩ := pairs_at I hx rv
  refine SrtO.sorted_pairsO (k := pairAt s.heap) hl.isList (by rw [← rv.length]; exact hz) q2 fun h' d out h1 h2 kp hd hn => ?_
  have h3 : ∀ u ∈ out, ∃ a, u = Value.ref a := fun u hu => q1 u (h2.perm.mem_iff.mp hu)
  obtain ⟨n, hn⟩ := hn
  have e1 : (out.map fun u => (backV u, pairAt s.heap u)).map (·.1) = out.map backV := by
    rw [List.map_map]
    rfl
  have z := q (out.map fun u => (backV u, pairAt s.heap u)) d (by rw [q3]; exact h2.perm.map _) (List.pairwise_map.mpr (h1.imp fun {x y} h => h)) (I.hok.fresh hd)
  rw [e1] at z
  refine ⟨.ref d, upd H d (.lst (out.map backV)), I.laid (t' := s.toks) kp hd ⟨?_, out, n, vals_back h3, hn⟩, rfl, z⟩
  rw [List.length_map, h2.perm.length_eq, ← rv.length]
  exact hz
end
/-! the values -/
def prsOf : List D → Option (List (Int × Int))
  | [] => some []
  | .tup [.int i, .int j] :: r => (prsOf r).map ((i, j) :: ·)
  | _ => none
def dPair (p : Int × Int) : D := .tup [.int p.1, .int p.2]
theorem prsOf_eq : ∀ {ds : List D} {ps : List (Int × Int)}, prsOf ds = some ps → ds = ps.map dPair
  | [], ps, h => by cases h; rfl
  | d :: r, ps, h => by
    unfold prsOf at h
    split at h
    · rename_i he
      cases he
    · rename_i i j r' he
      cases he
      obtain ⟨ts, e1, e2⟩ := Option.map_eq_some_iff.mp h
      subst e2
      rw [prsOf_eq e1]
      rfl
    · cases h
theorem prsOf_map : ∀ ps : List (Int × Int), prsOf (ps.map dPair) = some ps
  | [] => rfl
  | p :: r => by
    show (prsOf (r.map dPair)).map ((p.1, p.2) :: ·) = _
    rw [prsOf_map r]
    rfl
def lexLe (a b : Int × Int) : Bool := !SrtO.lexB b a
def sortPs (ps : List (Int × Int)) : List (Int × Int) := ps.mergeSort lexLe
theorem lexLe_iff {a b : Int × Int} : lexLe a b = true ↔ (a.1 < b.1 ∨ (a.1 = b.1 ∧ a.2 ≤ b.2)) := by
  unfold lexLe
  rw [Bool.not_eq_true', SrtO.lexB_no]
  omega
theorem sortPs_perm (ps : List (Int × Int)) : (sortPs ps).Perm ps := List.mergeSort_perm _ _
theorem sortPs_sorted (ps : List (Int × Int)) : (sortPs ps).Pairwise fun a b => lexLe a b = true :=
  List.pairwise_mergeSort (le := lexLe) (fun a b c h1 h2 => by rw [lexLe_iff] at *; omega) (fun a b => by
    rw [Bool.or_eq_true, lexLe_iff, lexLe_iff]
    omega) ps
theorem ps_one {a b : List (Int × Int)} (hp : a.Perm b) (ha : a.Pairwise fun a b => lexLe a b = true) (hb : b.Pairwise fun a b => lexLe a b = true) : a = b :=
  hp.eq_of_pairwise (fun x y _ _ h1 h2 => by
    rw [lexLe_iff] at h1 h2
    exact Prod.ext (by omega) (by omega)) ha hb
def sortPD : List D → DV
  | [.lst ds] => (prsOf ds).map fun ps => (.lst ((sortPs ps).map dPair), true)
  | _ => none
theorem pairs_of {g : Gc} {H : Hp} {Xx : Px} : ∀ {ps : List (Int × Int)} {vs : List V}, Reps g H Xx vs (ps.map dPair) → PairsAt g.K H vs ps
  | [], _, .nil => .nil
  | p :: r, _, .cons h t => by
    cases h with
    | tup nx h1 r1 =>
      cases r1 with
      | cons a b =>
        cases a
        cases b with
        | cons c d =>
          cases c
          cases d
          exact .cons h1 (pairs_of t)
theorem zip_reps {g : Gc} {H : Hp} {Xx : Px} : ∀ {ps : List (Int × Int)} {vs : List V}, Reps g H Xx vs (ps.map dPair) → ∀ z ∈ vs.zip ps, Rep g H Xx z.1 (dPair z.2)
  | [], _, .nil, z, hz => by simp at hz
  | p :: r, _, .cons h t, z, hz => by
    rw [List.zip_cons_cons] at hz
    rcases List.mem_cons.mp hz with rfl | hz
    · exact h
    · exact zip_reps t z hz
theorem reps_zip {g : Gc} {H : Hp} {Xx : Px} : ∀ {zs : List (V × (Int × Int))}, (∀ z ∈ zs, Rep g H Xx z.1 (dPair z.2)) → Reps g H Xx (zs.map (·.1)) ((zs.map (·.2)).map dPair)
  | [], _ => .nil
  | z :: r, h => .cons (h z List.mem_cons_self) (reps_zip fun y hy => h y (List.mem_cons_of_mem _ hy))
theorem zip_snd : ∀ {vs : List V} {ps : List (Int × Int)}, vs.length = ps.length → (vs.zip ps).map (·.2) = ps
  | [], [], _ => rfl
  | v :: vs, p :: ps, h => by
    rw [List.zip_cons_cons, List.map_cons, zip_snd (by simpa using h)]
theorem s_sortPr {X : Cx} {g : Gc} (hg : g.K = X.K) : CallS g (rSortPr X.K) sortPD := by
  intro xs ds H Xx Q d fr r hx ho q
  unfold sortPD at ho
  split at ho
  · obtain ⟨ps, e1, e2⟩ := Option.map_eq_some_iff.mp ho
    cases e2
    have e := prsOf_eq e1
    cases r with
    | cons a b =>
      cases b
      cases a with
      | lst nx h1 r1 =>
        rename_i vs
        rw [e] at r1
        have hl : vs.length = ps.length := by
          have := r1.length
          rw [List.length_map] at this
          exact this
        refine ⟨_, vs, ps, rfl, by rw [← hg]; exact .of h1, by rw [← hg]; exact pairs_of r1, fun zs p hp hs n s => ?_⟩
        have z2 : zs.map (·.2) = sortPs ps := by
          refine ps_one ?_ ?_ (sortPs_sorted ps)
          · have := hp.map (·.2)
            rw [zip_snd hl] at this
            exact this.trans (sortPs_perm ps).symm
          · refine List.pairwise_map.mpr (hs.imp fun {a b} h => ?_)
            unfold lexLe
            rw [h]
            rfl
        have rz := reps_zip (g := g) (H := H) (Xx := Xx) (zs := zs) fun z hz => zip_reps r1 z (hp.mem_iff.mp hz)
        rw [z2] at rz
        exact q _ _ (same_upd hg n) s (fresh_lst hg n hx s rz)
  · cases ho
end G

/-! What the functions on data give: unfoldings for simp; walks over loops. -/
namespace G
open PySem PySem.Spec PyProof.Rows L2
@[simp] theorem Ro.bind_ok {α β : Type} (a : α) (f : α → Ro β) : (Ro.ok a).bind f = f a := rfl
@[simp] theorem Ro.bind_bad {α β : Type} (f : α → Ro β) : (Ro.bad).bind f = .bad := rfl
@[simp] theorem Ro.so_ok {α : Type} (a : α) (f : α → So) : (Ro.ok a).so f = f a := rfl
@[simp] theorem Ro.so_bad {α : Type} (f : α → So) : (Ro.bad : Ro α).so f = .bad := rfl
@[simp] theorem Ro.all_ok {α : Type} (a : α) (P : α → Prop) : (Ro.ok a).all P = P a := rfl
@[simp] theorem up_some (e : En) (r : D × Bool) : up e (some r) = .ok (r.1, r.2, e) := rfl
@[simp] theorem x_eVar (i : Nat) (e : En) : eVar i e = (match e[i]? with
  | some (some (.val d)) => .ok (d, false, e)
  | _ => .bad) := rfl
@[simp] theorem x_eC (d : D) (e : En) : eC d e = .ok (d, false, e) := rfl
@[simp] theorem x_eBin (o : D → D → DV) (a b : Ex) (e : En) : eBin o a b e = (a e).bind fun p => (b p.2.2).bind fun q => up q.2.2 (o p.1 q.1) := rfl
@[simp] theorem x_eUn (o : D → DV) (a : Ex) (e : En) : eUn o a e = (a e).bind fun p => up p.2.2 (o p.1) := rfl
@[simp] theorem x_aNil (e : En) : aNil e = .ok ([], e) := rfl
@[simp] theorem x_aCons (a : Ex) (r : Ea) (e : En) : aCons a r e = (a e).bind fun p => (r p.2.2).bind fun q => .ok (p.1 :: q.1, q.2) := rfl
@[simp] theorem x_eBlt (o : List D → DV) (a : Ea) (e : En) : eBlt o a e = (a e).bind fun p => up p.2 (o p.1) := rfl
@[simp] theorem x_eLst (a : Ea) (e : En) : eLst a e = (a e).bind fun p => if p.1.length ≤ sizeLine then .ok (.lst p.1, true, p.2) else .bad := rfl
@[simp] theorem x_eTup (a : Ea) (e : En) : eTup a e = (a e).bind fun p => if p.1.length ≤ sizeLine then .ok (.tup p.1, false, p.2) else .bad := rfl
@[simp] theorem x_tVal (a : Ex) (e : En) : tVal a e = (a e).bind fun p => match p.1 with
  | .bl b => .ok (b, p.2.2)
  | _ => .bad := rfl
@[simp] theorem x_tCmp2 (o : D → D → DV) (a b : Ex) (e : En) : tCmp2 o a b e = tVal (eBin o a b) e := rfl
@[simp] theorem x_tAnd2 (a b : Et) (e : En) : tAnd2 a b e = (a e).bind fun p => if p.1 = true then b p.2 else .ok (false, p.2) := rfl
@[simp] theorem x_tOr2 (a b : Et) (e : En) : tOr2 a b e = (a e).bind fun p => if p.1 = true then .ok (true, p.2) else b p.2 := rfl
@[simp] theorem x_tNot1 (a : Et) (e : En) : tNot1 a e = (a e).bind fun p => .ok (!p.1, p.2) := rfl
@[simp] theorem x_tTrue (e : En) : tTrue e = .ok (true, e) := rfl
@[simp] theorem x_eIf (t : Et) (a b : Ex) (e : En) : eIf t a b e = (t e).bind fun p => if p.1 = true then a p.2 else b p.2 := rfl
@[simp] theorem x_eChain (o u : D → D → DV) (a b c : Ex) (e : En) : eChain o u a b c e = (a e).bind fun p => (b p.2.2).bind fun q => match o p.1 q.1 with
  | some (.bl true, _) => (c q.2.2).bind fun r => up r.2.2 (u q.1 r.1)
  | some (.bl false, _) => .ok (.bl false, false, q.2.2)
  | _ => .bad := rfl
@[simp] theorem x_eAnd (a b : Ex) (e : En) : eAnd a b e = (a e).bind fun p => match p.1 with
  | .bl true => b p.2.2
  | .bl false => .ok (.bl false, false, p.2.2)
  | _ => .bad := rfl
@[simp] theorem x_eOr (a b : Ex) (e : En) : eOr a b e = (a e).bind fun p => match p.1 with
  | .bl false => b p.2.2
  | .bl true => .ok (.bl true, false, p.2.2)
  | _ => .bad := rfl
@[simp] theorem x_eNot (a : Ex) (e : En) : eNot a e = (a e).bind fun p => match p.1 with
  | .bl b => .ok (.bl (!b), false, p.2.2)
  | _ => .bad := rfl
@[simp] theorem x_eIsB (t : Bty) (a : Ex) (e : En) : eIsB t a e = (a e).bind fun p => match isB t p.1 with
  | some b => .ok (.bl b, false, p.2.2)
  | none => .bad := rfl
@[simp] theorem x_eIsO (tab : Nat → Option Bool) (a : Ex) (e : En) : eIsO tab a e = (a e).bind fun p => match p.1 with
  | .obj c _ _ => (match tab c with
    | some b => .ok (.bl b, false, p.2.2)
    | none => .bad)
  | _ => .ok (.bl false, false, p.2.2) := rfl
@[simp] theorem x_eCall (F : Fn) (fa : Ea) (e : En) : eCall F fa e = (fa e).bind fun p => (F p.1).bind fun r => .ok (r.1, r.2.1, p.2) := rfl
@[simp] theorem x_eCallJ (i : Nat) (F : Fn) (fa : Ea) (e : En) : eCallJ i F fa e = (match getOwn i e with
  | some _ => (fa e).bind fun p => match getOwn i p.2 with
    | some jc => (F (.lst jc :: p.1)).bind fun r => .ok (r.1, r.2.1, p.2.set i (some (.own r.2.2)))
    | none => .bad
  | none => .bad) := rfl
@[simp] theorem x_eMeth (c : Nat) (m : Str) (F : Fn) (fo : Ex) (fa : Ea) (e : En) : eMeth c m F fo fa e = (fo e).bind fun o => match o.1 with
  | .obj c' ns ds => if c' = c ∧ m ∉ ns then (fa o.2.2).bind fun p => (F (.obj c' ns ds :: p.1)).bind fun r => .ok (r.1, r.2.1, p.2) else .bad
  | _ => .bad := rfl
@[simp] theorem x_eFld (c : Nat) (f : Str) (fo : Ex) (e : En) : eFld c f fo e = (fo e).bind fun o => match o.1 with
  | .obj c' ns ds => if c' = c then (match (ns.zip ds).lookup f with
    | some d => .ok (d, false, o.2.2)
    | none => .bad) else .bad
  | _ => .bad := rfl
@[simp] theorem x_eProp (c : Nat) (F : Fn) (fo : Ex) (e : En) : eProp c F fo e = (fo e).bind fun o => match o.1 with
  | .obj c' ns ds => if c' = c then (F [.obj c' ns ds]).bind fun r => .ok (r.1, r.2.1, o.2.2) else .bad
  | _ => .bad := rfl
@[simp] theorem x_eMake (c : Nat) (F : FnN) (fa : Ea) (e : En) : eMake c F fa e = (fa e).bind fun p => (F p.1).bind fun r => .ok (.obj c r.1 r.2, false, p.2) := rfl
@[simp] theorem x_getOwn (i : Nat) (e : En) : getOwn i e = (match e[i]? with
  | some (some (.own ds)) => some ds
  | _ => none) := rfl
@[simp] theorem x_eIxO (i : Nat) (fk : Ex) (e : En) : eIxO i fk e = (match getOwn i e with
  | some _ => (fk e).bind fun q => match getOwn i q.2.2, q.1 with
    | some ds, .int k => (match atI ds k with
      | some d => .ok (d, false, q.2.2)
      | none => .bad)
    | _, _ => .bad
  | _ => .bad) := rfl
@[simp] theorem x_eLenO (i : Nat) (e : En) : eLenO i e = (match getOwn i e with
  | some ds => .ok (.int ds.length, false, e)
  | _ => .bad) := rfl
@[simp] theorem x_fz (i : Nat) (e : En) : fz i e = (match e[i]? with
  | some (some (.own ds)) => e.set i (some (.val (.lst ds)))
  | _ => e) := rfl
@[simp] theorem x_sFz (i : Nat) (f : Sm) (e : En) : sFz i f e = f (fz i e) := rfl
@[simp] theorem x_sApp (i : Nat) (f : Ea) (e : En) : sApp i f e = (match getOwn i e with
  | some _ => (f e).so fun p => match getOwn i p.2, p.1 with
    | some ds, [d] => if ds.length < sizeLine then .nx (p.2.set i (some (.own (ds ++ [d])))) else .bad
    | _, _ => .bad
  | _ => .bad) := rfl
@[simp] theorem x_sPut (i : Nat) (fv fk : Ex) (e : En) : sPut i fv fk e = (fv e).so fun p => match getOwn i p.2.2 with
  | some _ => (fk p.2.2).so fun q => match getOwn i q.2.2, q.1 with
    | some ds, .int k => (match ixN ds.length k with
      | some j => .nx (q.2.2.set i (some (.own (ds.set j p.1))))
      | none => .bad)
    | _, _ => .bad
  | _ => .bad := rfl
@[simp] theorem x_sRetO (i : Nat) (e : En) : sRetO i e = (match getOwn i e with
  | some ds => .ret (.lst ds) true (e.set i none)
  | _ => .bad) := rfl
@[simp] theorem x_sPar (i j : Nat) (f : Ea) (e : En) : sPar i j f e = (f e).so fun p => match p.1 with
  | [a, b] => .nx ((p.2.set i (some (.val a))).set j (some (.val b)))
  | _ => .bad := rfl
@[simp] theorem x_sSkip (e : En) : sSkip e = .nx e := rfl
@[simp] theorem x_sBad (e : En) : sBad e = .bad := rfl
@[simp] theorem x_sSeq (a b : Sm) (e : En) : sSeq a b e = (match a e with
  | .nx e1 => b e1
  | o => o) := rfl
@[simp] theorem x_sSet (i : Nat) (f : Ex) (e : En) : sSet i f e = (f e).so fun p => .nx (p.2.2.set i (some (.val p.1))) := rfl
@[simp] theorem x_sOwn (i : Nat) (f : Ex) (e : En) : sOwn i f e = (f e).so fun p => match p.1, p.2.1 with
  | .lst ds, true => .nx (p.2.2.set i (some (.own ds)))
  | _, _ => .bad := rfl
@[simp] theorem x_sTg (T : Tg) (f : Ex) (e : En) : sTg T f e = (f e).so fun p => (T p.1 p.2.2).so .nx := rfl
@[simp] theorem x_sExpr (f : Ex) (e : En) : sExpr f e = (f e).so fun p => .nx p.2.2 := rfl
@[simp] theorem x_sRet (f : Ex) (e : En) : sRet f e = (f e).so fun p => .ret p.1 p.2.1 p.2.2 := rfl
@[simp] theorem x_sRetN (e : En) : sRetN e = .ret .non false e := rfl
@[simp] theorem x_sIf (t : Et) (a b : Sm) (e : En) : sIf t a b e = (t e).so fun p => if p.1 = true then a p.2 else b p.2 := rfl
@[simp] theorem x_tgName (i : Nat) (d : D) (e : En) : tgName i d e = .ok (e.set i (some (.val d))) := rfl
@[simp] theorem x_tgTup (is : List Nat) (ds : List D) (e : En) : tgTup is (.tup ds) e = if ds.length = is.length then .ok (setAll is ds e) else .bad := rfl
@[simp] theorem x_setAll_c (i : Nat) (r : List Nat) (d : D) (ds : List D) (e : En) : setAll (i :: r) (d :: ds) e = setAll r ds (e.set i (some (.val d))) := rfl
@[simp] theorem x_setAll_n (ds : List D) (e : En) : setAll [] ds e = e := by cases ds <;> rfl
@[simp] theorem x_sFor (it : Ei) (T : Tg) (b : Sm) (e : En) : sFor it T b e = (it e).so fun p => forL T b p.1 p.2 := rfl
@[simp] theorem x_forL_n (T : Tg) (b : Sm) (e : En) : forL T b [] e = .nx e := rfl
@[simp] theorem x_iSeq (f : Ex) (e : En) : iSeq f e = (f e).bind fun p => match itemsD p.1 with
  | some ds => .ok (ds, p.2.2)
  | none => .bad := rfl
@[simp] theorem x_iRange1 (a : Ea) (e : En) : iRange1 a e = (a e).bind fun p => match p.1 with
  | [.int j] => if -(2 ^ 62) ≤ j ∧ j ≤ 16777216 then .ok (rangeL 0 j.toNat, p.2) else .bad
  | _ => .bad := rfl
@[simp] theorem x_iRange2 (a : Ea) (e : En) : iRange2 a e = (a e).bind fun p => match p.1 with
  | [.int i, .int j] => if (-(2 ^ 62) ≤ i ∧ i < 2 ^ 62 ∧ -(2 ^ 62) ≤ j ∧ j < 2 ^ 62) ∧ j - i ≤ 16777216 then .ok (rangeL i (j - i).toNat, p.2) else .bad
  | _ => .bad := rfl
@[simp] theorem x_iZipD (a : Ea) (e : En) : iZipD a e = (a e).bind fun p => match p.1 with
  | [.lst xs, .lst ys] => .ok (zipL xs ys, p.2)
  | _ => .bad := rfl
@[simp] theorem x_eComp (it : Ei) (T : Tg) (c : Et) (el : Ex) (vs : List Nat) (e : En) : eComp it T c el vs e = (it e).bind fun p =>
  (compLoop T c el vs p.1 [] (wipeE p.2 vs)).bind fun q => .ok (.lst q.1, true, backE p.2 q.2 vs) := rfl
@[simp] theorem x_oNone (e : En) : oNone e = .ok (none, e) := rfl
@[simp] theorem x_oSome (f : Ex) (e : En) : oSome f e = (f e).bind fun p => match p.1 with
  | .int i => .ok (some i, p.2.2)
  | _ => .bad := rfl
@[simp] theorem x_eSl (fa : Ex) (lo hi : Eo) (e : En) : eSl fa lo hi e = (fa e).bind fun p => (lo p.2.2).bind fun l => (hi l.2).bind fun u => up u.2 (slD p.1 l.1 u.1) := rfl
@[simp] theorem x_addI (i j : Int) : addD (.int i) (.int j) = some (.int (i + j), false) := rfl
@[simp] theorem x_subI (i j : Int) : subD (.int i) (.int j) = some (.int (i - j), false) := rfl
@[simp] theorem x_mulI (i j : Int) : mulD (.int i) (.int j) = if i.natAbs.log2 + j.natAbs.log2 < 1000000 then some (.int (i * j), false) else none := rfl
@[simp] theorem x_divI (i j : Int) : divD (.int i) (.int j) = if 0 < j ∧ j.natAbs.log2 < 9000 then some (.int (i / j), false) else none := rfl
@[simp] theorem x_modI (i j : Int) : modD (.int i) (.int j) = if 0 < j then some (.int (i % j), false) else none := rfl
@[simp] theorem x_powI (i j : Int) : powD (.int i) (.int j) = if 0 ≤ j ∧ (i.natAbs.log2 + 1) * j.toNat ≤ 134217728 then some (.int (i ^ j.toNat), false) else none := rfl
@[simp] theorem x_negI (i : Int) : negD (.int i) = some (.int (-i), false) := rfl
@[simp] theorem x_ltI (i j : Int) : ltD (.int i) (.int j) = some (.bl (decide (i < j)), false) := rfl
@[simp] theorem x_leI (i j : Int) : leD (.int i) (.int j) = some (.bl (decide (i ≤ j)), false) := rfl
@[simp] theorem x_gtI (i j : Int) : gtD (.int i) (.int j) = some (.bl (decide (j < i)), false) := rfl
@[simp] theorem x_geI (i j : Int) : geD (.int i) (.int j) = some (.bl (decide (j ≤ i)), false) := rfl
@[simp] theorem x_isNn : isND .non .non = some (.bl true, false) := rfl
@[simp] theorem x_isNi (i : Int) : isND (.int i) .non = some (.bl false, false) := rfl
@[simp] theorem x_isNnn : isnotND .non .non = some (.bl false, false) := rfl
@[simp] theorem x_isNni (i : Int) : isnotND (.int i) .non = some (.bl true, false) := rfl
@[simp] theorem x_eqI (i j : Int) : eqX (.int i) (.int j) = some (.bl (decide (i = j)), false) := rfl
@[simp] theorem x_neI (i j : Int) : neX (.int i) (.int j) = some (.bl (!decide (i = j)), false) := rfl
@[simp] theorem x_eqS (i j : Str) : eqX (.str i) (.str j) = some (.bl (decide (i = j)), false) := rfl
@[simp] theorem x_neS (i j : Str) : neX (.str i) (.str j) = some (.bl (!decide (i = j)), false) := rfl
mutual
/-- data of numbers, bools, None, lists and tuples, of such a depth -/
def okD : Nat → D → Bool
  | _, .non => true
  | _, .bl _ => true
  | _, .int _ => true
  | k + 1, .lst ds => okDs k ds
  | k + 1, .tup ds => okDs k ds
  | _, _ => false
def okDs : Nat → List D → Bool
  | _, [] => true
  | k, d :: ds => okD k d && okDs k ds
end
mutual
theorem okD_toP : ∀ (k : Nat) (d : D), okD k d = true → ∃ p, toP d = some p ∧ p.canLay0 = true ∧ p.depth ≤ k
  | _, .non, _ => ⟨_, rfl, rfl, Nat.zero_le _⟩
  | _, .bl _, _ => ⟨_, rfl, rfl, Nat.zero_le _⟩
  | _, .int _, _ => ⟨_, rfl, rfl, Nat.zero_le _⟩
  | k + 1, .lst ds, h => by
    obtain ⟨ps, e, h1, h2⟩ := okDs_toP k ds h
    exact ⟨.list ps, by show (toPs ds).map PyData.list = _; rw [e]; rfl, h1, Nat.succ_le_succ h2⟩
  | k + 1, .tup ds, h => by
    obtain ⟨ps, e, h1, h2⟩ := okDs_toP k ds h
    exact ⟨.tuple ps, by show (toPs ds).map PyData.tuple = _; rw [e]; rfl, h1, Nat.succ_le_succ h2⟩
  | 0, .lst _, h => nomatch h
  | 0, .tup _, h => nomatch h
  | k, .str _, h => by cases k <;> exact nomatch h
  | k, .scr _, h => by cases k <;> exact nomatch h
  | k, .dct _ _, h => by cases k <;> exact nomatch h
  | k, .obj _ _ _, h => by cases k <;> exact nomatch h
theorem okDs_toP : ∀ (k : Nat) (ds : List D), okDs k ds = true → ∃ ps, toPs ds = some ps ∧ PyData.canLayAll0 ps = true ∧ PyData.depthAll ps ≤ k
  | _, [], _ => ⟨[], rfl, rfl, Nat.zero_le _⟩
  | k, d :: ds, h => by
    obtain ⟨h1, h2⟩ := Bool.and_eq_true_iff.mp (show (okD k d && okDs k ds) = true from h)
    obtain ⟨p, e1, a1, b1⟩ := okD_toP k d h1
    obtain ⟨ps, e2, a2, b2⟩ := okDs_toP k ds h2
    refine ⟨p :: ps, ?_, ?_, ?_⟩
    · unfold toPs
      rw [e1, e2]
    · show (p.canLay0 && PyData.canLayAll0 ps) = true
      rw [a1, a2]
      rfl
    · exact Nat.max_le.mpr ⟨b1, b2⟩
end
theorem okD_shaped {k : Nat} (hk : k ≤ 60) {d : D} (h : okD k d = true) : ∃ p, toP d = some p ∧ SeqAt.shaped p = true ∧ p.canLay0 = true := by
  obtain ⟨p, e, h1, h2⟩ := okD_toP k d h
  refine ⟨p, e, ?_, h1⟩
  unfold SeqAt.shaped
  rw [h1, decide_eq_true (show p.depth ≤ 64 by omega)]
  rfl
theorem eqD_refl {k : Nat} (hk : k ≤ 60) {d : D} (h : okD k d = true) : eqD d d = some (.bl true, false) := by
  obtain ⟨p, e, h1, h2⟩ := okD_shaped hk h
  unfold eqD
  rw [e]
  dsimp only
  rw [if_pos ⟨h1, h1⟩, SeqAt.eqv_refl p h2]
theorem neD_refl {k : Nat} (hk : k ≤ 60) {d : D} (h : okD k d = true) : neD d d = some (.bl false, false) := by
  obtain ⟨p, e, h1, h2⟩ := okD_shaped hk h
  unfold neD
  rw [e]
  dsimp only
  rw [if_pos ⟨h1, h1⟩, SeqAt.eqv_refl p h2]
  rfl
theorem eqX_refl {k : Nat} (hk : k ≤ 60) {d : D} (h : okD k d = true) : eqX d d = some (.bl true, false) := by
  unfold eqX
  split
  · simp
  · simp
  · exact eqD_refl hk h
theorem neX_refl {k : Nat} (hk : k ≤ 60) {d : D} (h : okD k d = true) : neX d d = some (.bl false, false) := by
  unfold neX
  split
  · simp
  · simp
  · exact neD_refl hk h
theorem okDs_ints (k : Nat) (ns : List Int) : okDs k (ns.map D.int) = true := by
  induction ns with
  | nil => rfl
  | cons n r ih =>
    show (okD k (.int n) && okDs k (r.map D.int)) = true
    rw [ih]
    cases k <;> rfl
def pr (p : Int × Int) : D := .tup [.int p.1, .int p.2]
theorem okDs_prs (k : Nat) (ns : List (Int × Int)) : okDs (k + 1) (ns.map pr) = true := by
  induction ns with
  | nil => rfl
  | cons n r ih =>
    show (okD (k + 1) (pr n) && okDs (k + 1) (r.map pr)) = true
    rw [ih]
    cases k <;> rfl
theorem toPs_ints (ns : List Int) : toPs (ns.map D.int) = some (ns.map PyData.int) := by
  induction ns with
  | nil => rfl
  | cons n r ih =>
    show toPs (.int n :: r.map D.int) = _
    unfold toPs
    rw [ih]
    rfl
theorem toPs_prs (ns : List (Int × Int)) : toPs (ns.map pr) = some (ns.map fun p => PyData.tuple [.int p.1, .int p.2]) := by
  induction ns with
  | nil => rfl
  | cons n r ih =>
    show toPs (pr n :: r.map pr) = _
    unfold toPs
    rw [ih]
    rfl
/-- a pair among pairs -/
theorem inD_pr (a b : Int) (ms : List (Int × Int)) : inD (.tup [.int a, .int b]) (.lst (ms.map pr)) = some (.bl (decide ((a, b) ∈ ms)), false) := by
  have e1 : toP (.tup [.int a, .int b]) = some (.tuple [.int a, .int b]) := rfl
  have e2 : toP (.lst (ms.map pr)) = some (.list (ms.map fun p => PyData.tuple [.int p.1, .int p.2])) := by
    show (toPs (ms.map pr)).map PyData.list = _
    rw [toPs_prs]
    rfl
  obtain ⟨q, f1, f2, f3⟩ := okD_shaped (k := 3) (by decide) (d := .lst (ms.map pr)) (okDs_prs 1 ms)
  rw [e2] at f1
  cases f1
  unfold inD
  rw [e1, e2]
  dsimp only
  rw [if_pos ⟨by obtain ⟨q, g1, g2, g3⟩ := okD_shaped (k := 3) (by decide) (d := .tup [.int a, .int b]) rfl; rw [e1] at g1; cases g1; exact g2, f2⟩]
  congr 2
  rw [List.any_map]
  congr 1
  rw [Bool.eq_iff_iff, List.any_eq_true, decide_eq_true_eq]
  constructor
  · rintro ⟨⟨x, y⟩, h1, h2⟩
    simp [PyData.eqv, PyData.eqvAll] at h2
    rw [← h2.1, ← h2.2]
    exact h1
  · intro h
    exact ⟨(a, b), h, by simp [PyData.eqv, PyData.eqvAll]⟩
theorem atI_pos {α : Type} (xs : List α) (i : Int) (h0 : 0 ≤ i) (h1 : i < xs.length) : atI xs i = xs[i.toNat]? := by
  unfold atI ixN
  rw [if_pos h0, if_pos h1]
  rfl
@[simp] theorem atI_0 {α : Type} (a : α) (r : List α) : atI (a :: r) 0 = some a := by
  rw [atI_pos _ _ (by decide) (by simp only [List.length_cons]; omega)]
  rfl
@[simp] theorem atI_1 {α : Type} (a b : α) (r : List α) : atI (a :: b :: r) 1 = some b := by
  rw [atI_pos _ _ (by decide) (by simp only [List.length_cons]; omega)]
  rfl
@[simp] theorem atI_2 {α : Type} (a b c : α) (r : List α) : atI (a :: b :: c :: r) 2 = some c := by
  rw [atI_pos _ _ (by decide) (by simp only [List.length_cons]; omega)]
  rfl
@[simp] theorem x_ixL (ds : List D) (i : Int) : ixD (.lst ds) (.int i) = (atI ds i).map fun d => (d, false) := rfl
@[simp] theorem x_ixT (ds : List D) (i : Int) : ixD (.tup ds) (.int i) = (atI ds i).map fun d => (d, false) := rfl
@[simp] theorem x_ixS (ds : List Int) (i : Int) : ixD (.scr ds) (.int i) = (atI ds i).map fun d => (.int d, false) := rfl
@[simp] theorem x_ixN_0 (n : Nat) : ixN (n + 1) 0 = some 0 := by unfold ixN; rw [if_pos (by decide), if_pos (by omega)]; rfl
@[simp] theorem x_ixN_1 (n : Nat) : ixN (n + 1 + 1) 1 = some 1 := by unfold ixN; rw [if_pos (by decide), if_pos (by omega)]; rfl
@[simp] theorem x_ixN_2 (n : Nat) : ixN (n + 1 + 1 + 1) 2 = some 2 := by unfold ixN; rw [if_pos (by decide), if_pos (by omega)]; rfl
/-! ### loops -/
theorem So.all_nx {e : En} {P : En → Prop} {R : D → Bool → En → Prop} {B C : En → Prop} : (So.nx e).all P R B C = P e := rfl
theorem So.all_ret {d : D} {fr : Bool} {e : En} {P : En → Prop} {R : D → Bool → En → Prop} {B C : En → Prop} : (So.ret d fr e).all P R B C = R d fr e := rfl
/-- a comprehension that hands each item on, filtered: f tells the item's result -/
theorem comp_pure {T : Tg} {c : Et} {el : Ex} {vs : List Nat} {e : En} (f : D → Option D) : ∀ (ds acc : List D), (∀ d ∈ ds, ∀ acc' rest, compLoop T c el vs (d :: rest) acc' e = compLoop T c el vs rest (match f d with | some x => acc' ++ [x] | none => acc') e) →
    compLoop T c el vs ds acc e = .ok (acc ++ ds.filterMap f, e)
  | [], acc, _ => by simp [compLoop]
  | d :: ds, acc, h => by
    rw [h d (by simp) acc ds, comp_pure f ds _ fun d hd => h d (by simp [hd])]
    rw [List.filterMap_cons]
    cases f d <;> simp
theorem compLoop_c (T : Tg) (c : Et) (el : Ex) (vs : List Nat) (d : D) (ds acc : List D) (e : En) : compLoop T c el vs (d :: ds) acc e = (T d e).bind fun e1 => (c e1).bind fun p =>
      if p.1 = true then (el p.2).bind fun q => compLoop T c el vs ds (acc ++ [q.1]) (wipeE q.2.2 vs) else compLoop T c el vs ds acc (wipeE p.2 vs) := rfl
@[simp] theorem x_wipeE_n (e : En) : wipeE e [] = e := rfl
@[simp] theorem x_wipeE_c (e : En) (v : Nat) (vs : List Nat) : wipeE e (v :: vs) = (wipeE e vs).set v none := rfl
@[simp] theorem x_backE_n (e e' : En) : backE e e' [] = e' := rfl
@[simp] theorem x_backE_c (e e' : En) (v : Nat) (vs : List Nat) : backE e e' (v :: vs) = (backE e e' vs).set v ((e[v]?).join) := rfl
/-! ### the weakest precondition -/
theorem w_bind {α β : Type} {P : β → Prop} (x : Ro α) (f : α → Ro β) : (x.bind f).all P = x.all fun a => (f a).all P := propext Ro.all_bind
theorem w_so {α : Type} {P : En → Prop} {R : D → Bool → En → Prop} {B C : En → Prop} (x : Ro α) (f : α → So) : (x.so f).all P R B C = x.all fun a => (f a).all P R B C := propext Ro.so_all
theorem w_seq {P : En → Prop} {R : D → Bool → En → Prop} {B C : En → Prop} (a b : Sm) (e : En) : (sSeq a b e).all P R B C = (a e).all (fun e1 => (b e1).all P R B C) R B C := by
  rw [x_sSeq]
  cases a e <;> rfl
@[simp] theorem w_nx {P : En → Prop} {R : D → Bool → En → Prop} {B C : En → Prop} (e : En) : (So.nx e).all P R B C = P e := rfl
@[simp] theorem w_ret {P : En → Prop} {R : D → Bool → En → Prop} {B C : En → Prop} (d : D) (fr : Bool) (e : En) : (So.ret d fr e).all P R B C = R d fr e := rfl
@[simp] theorem w_sbad {P : En → Prop} {R : D → Bool → En → Prop} {B C : En → Prop} : (So.bad).all P R B C = False := rfl
@[simp] theorem w_bad {α : Type} {P : α → Prop} : (Ro.bad : Ro α).all P = False := rfl
theorem w_ite {α : Type} {P : α → Prop} {c : Prop} [Decidable c] {x y : Ro α} (h1 : c → x.all P) (h2 : ¬ c → y.all P) : (if c then x else y).all P := by
  split
  · exact h1 ‹_›
  · exact h2 ‹_›
theorem w_sif {c : Prop} [Decidable c] {x y : So} {P : En → Prop} {R : D → Bool → En → Prop} {B C : En → Prop} (h1 : c → x.all P R B C) (h2 : ¬ c → y.all P R B C) : (if c then x else y).all P R B C := by
  split
  · exact h1 ‹_›
  · exact h2 ‹_›
theorem w_run {np n : Nat} {jp : Bool} {f : Sm} {ds : List D} {Q : D × Bool × List D → Prop} {e : En} (he : initE np n jp ds = some e)
    (h : (f e).all (fun e' => (finE jp .non false e').all Q) (fun d fr e' => (finE jp d fr e').all Q) (fun _ => False) (fun _ => False)) : (runFn np n jp f ds).all Q := by
  unfold runFn
  rw [he]
  dsimp only
  cases hf : f e <;> rw [hf] at h <;> first | exact h | exact False.elim h
/-- a for loop by an invariant -/
theorem w_for {T : Tg} {b : Sm} {P : En → Prop} {R : D → Bool → En → Prop} {B C : En → Prop} (I : Nat → En → Prop) : ∀ (ds : List D) (i : Nat) (e : En), I i e →
    (∀ k d e, ds[k]? = some d → I (i + k) e → ((T d e).so b).all (I (i + k + 1)) R P (I (i + k + 1))) → (∀ e, I (i + ds.length) e → P e) → (forL T b ds e).all P R B C
  | [], i, e, h0, _, hf => hf e h0
  | d :: ds, i, e, h0, hs, hf => by
    have h1 := hs 0 d e rfl h0
    have hs' : ∀ k d' e', ds[k]? = some d' → I (i + 1 + k) e' → ((T d' e').so b).all (I (i + 1 + k + 1)) R P (I (i + 1 + k + 1)) := fun k d' e' hk hI => by
      have z := hs (k + 1) d' e' (by simpa using hk) (by rw [show i + (k + 1) = i + 1 + k by omega]; exact hI)
      rw [show i + (k + 1) + 1 = i + 1 + k + 1 by omega] at z
      exact z
    have hf' : ∀ e, I (i + 1 + ds.length) e → P e := fun e h => hf e (by rw [List.length_cons, show i + (ds.length + 1) = i + 1 + ds.length by omega]; exact h)
    show ((T d e).so fun e1 => match b e1 with
      | .nx e2 => forL T b ds e2
      | .cnt e2 => forL T b ds e2
      | .brk e2 => .nx e2
      | o => o).all P R B C
    rw [w_so]
    rw [w_so] at h1
    refine h1.mono fun e1 h1 => ?_
    cases hb : b e1 with
    | nx e2 => rw [hb] at h1; exact w_for I ds (i + 1) e2 h1 hs' hf'
    | cnt e2 => rw [hb] at h1; exact w_for I ds (i + 1) e2 h1 hs' hf'
    | brk e2 => rw [hb] at h1; exact h1
    | ret d fr e2 => rw [hb] at h1; exact h1
    | exc c e2 => rw [hb] at h1; exact False.elim h1
    | bad => rw [hb] at h1; exact False.elim h1
/-- a while loop by an invariant and a measure -/
theorem w_while {t : Et} {b : Sm} {P : En → Prop} {R : D → Bool → En → Prop} {B C : En → Prop} (I : Nat → En → Prop)
    (hs : ∀ m e, I m e → (t e).all fun p => if p.1 = true then (b p.2).all (fun e => ∃ m', m' < m ∧ I m' e) R P (fun e => ∃ m', m' < m ∧ I m' e) else P p.2) : ∀ (n m : Nat) (e : En), m < n → I m e → (whileL t b n e).all P R B C
  | 0, m, e, h, _ => absurd h (Nat.not_lt_zero _)
  | n + 1, m, e, h, hI => by
    have h1 := hs m e hI
    show ((t e).so fun p => if p.1 = true then (match b p.2 with
      | .nx e2 => whileL t b n e2
      | .cnt e2 => whileL t b n e2
      | .brk e2 => .nx e2
      | o => o) else .nx p.2).all P R B C
    rw [w_so]
    refine h1.mono fun p h1 => ?_
    split at h1
    · rename_i hp
      rw [if_pos hp]
      cases hb : b p.2 with
      | nx e2 => rw [hb] at h1; obtain ⟨m', h2, h3⟩ := h1; exact w_while I hs n m' e2 (by omega) h3
      | cnt e2 => rw [hb] at h1; obtain ⟨m', h2, h3⟩ := h1; exact w_while I hs n m' e2 (by omega) h3
      | brk e2 => rw [hb] at h1; exact h1
      | ret d fr e2 => rw [hb] at h1; exact h1
      | exc c e2 => rw [hb] at h1; exact False.elim h1
      | bad => rw [hb] at h1; exact False.elim h1
    · rename_i hp
      rw [if_neg hp]
      exact h1
/-- what all says of a known answer -/
theorem eq_of_all {r : Ro (D × Bool × List D)} {z : D × Bool × List D} (h : r.all fun p => p = z) : r = .ok z := by
  cases r with
  | ok a => exact congrArg Ro.ok h
  | exc c e => exact False.elim h
  | bad => exact False.elim h
/-! ### backward steps -/
section
variable {P : En → Prop} {R : D → Bool → En → Prop} {B C : En → Prop} {e : En}
theorem k_seq {a b : Sm} (h : (a e).all (fun e1 => (b e1).all P R B C) R B C) : (sSeq a b e).all P R B C := by rw [w_seq]; exact h
theorem k_step {a b : Sm} {e1 : En} (h : a e = .nx e1) (h2 : (b e1).all P R B C) : (sSeq a b e).all P R B C := by
  rw [w_seq, h]
  exact h2
theorem k_set {i : Nat} {f : Ex} (h : (f e).all fun p => P (p.2.2.set i (some (.val p.1)))) : (sSet i f e).all P R B C := by
  unfold sSet
  rw [w_so]
  exact h
theorem k_own {i : Nat} {f : Ex} (h : (f e).all fun p => ∃ ds, p.1 = .lst ds ∧ p.2.1 = true ∧ P (p.2.2.set i (some (.own ds)))) : (sOwn i f e).all P R B C := by
  unfold sOwn
  rw [w_so]
  refine h.mono fun p ⟨ds, h1, h2, h3⟩ => ?_
  rw [h1, h2]
  exact h3
theorem k_ret {f : Ex} (h : (f e).all fun p => R p.1 p.2.1 p.2.2) : (sRet f e).all P R B C := by
  unfold sRet
  rw [w_so]
  exact h
theorem k_retO {i : Nat} {ds : List D} (q : e[i]? = some (some (.own ds))) (h : R (.lst ds) true (e.set i none)) : (sRetO i e).all P R B C := by
  rw [x_sRetO, x_getOwn, q]
  exact h
theorem k_skip (h : P e) : (sSkip e).all P R B C := h
theorem k_expr {f : Ex} (h : (f e).all fun p => P p.2.2) : (sExpr f e).all P R B C := by
  unfold sExpr
  rw [w_so]
  exact h
theorem k_tg {T : Tg} {f : Ex} (h : (f e).all fun p => (T p.1 p.2.2).all P) : (sTg T f e).all P R B C := by
  unfold sTg
  rw [w_so]
  refine h.mono fun p h => ?_
  rw [w_so]
  exact h
theorem k_if {t : Et} {a b : Sm} (h : (t e).all fun p => (p.1 = true → (a p.2).all P R B C) ∧ (p.1 = false → (b p.2).all P R B C)) : (sIf t a b e).all P R B C := by
  unfold sIf
  rw [w_so]
  refine h.mono fun p h => ?_
  cases hp : p.1 with
  | true => exact h.1 hp
  | false => exact h.2 hp
theorem k_fz {i : Nat} {f : Sm} {e' : En} (q : fz i e = e') (h : (f e').all P R B C) : (sFz i f e).all P R B C := by
  unfold sFz
  rw [q]
  exact h
theorem k_for {it : Ei} {T : Tg} {b : Sm} (h : (it e).all fun p => (forL T b p.1 p.2).all P R B C) : (sFor it T b e).all P R B C := by
  unfold sFor
  rw [w_so]
  exact h
theorem k_app {i : Nat} {f : Ea} (h0 : (getOwn i e).isSome = true) (h : (f e).all fun p => ∃ ds d, getOwn i p.2 = some ds ∧ p.1 = [d] ∧ ds.length < sizeLine ∧ P (p.2.set i (some (.own (ds ++ [d]))))) : (sApp i f e).all P R B C := by
  unfold sApp
  obtain ⟨z, hz⟩ := Option.isSome_iff_exists.mp h0
  rw [hz]
  dsimp only
  rw [w_so]
  refine h.mono fun p ⟨ds, d, h1, h2, h3, h4⟩ => ?_
  rw [h1, h2]
  dsimp only
  rw [if_pos h3]
  exact h4
theorem k_put {i : Nat} {fv fk : Ex} (h : (fv e).all fun p => (getOwn i p.2.2).isSome = true ∧ (fk p.2.2).all fun q => ∃ ds k j, getOwn i q.2.2 = some ds ∧ q.1 = .int k ∧ ixN ds.length k = some j ∧ P (q.2.2.set i (some (.own (ds.set j p.1))))) : (sPut i fv fk e).all P R B C := by
  unfold sPut
  rw [w_so]
  refine h.mono fun p ⟨h0, h⟩ => ?_
  obtain ⟨z, hz⟩ := Option.isSome_iff_exists.mp h0
  rw [hz]
  dsimp only
  rw [w_so]
  refine h.mono fun q ⟨ds, k, j, h1, h2, h3, h4⟩ => ?_
  rw [h1, h2]
  dsimp only
  rw [h3]
  exact h4
theorem k_par {i j : Nat} {f : Ea} (h : (f e).all fun p => ∃ a b, p.1 = [a, b] ∧ P ((p.2.set i (some (.val a))).set j (some (.val b)))) : (sPar i j f e).all P R B C := by
  unfold sPar
  rw [w_so]
  refine h.mono fun p ⟨a, b, h1, h2⟩ => ?_
  rw [h1]
  exact h2
end
section
variable {P : D × Bool × En → Prop} {e : En}
theorem k_var {i : Nat} {d : D} (q : e[i]? = some (some (.val d))) (h : P (d, false, e)) : (eVar i e).all P := by
  unfold eVar
  rw [q]
  exact h
theorem k_c {d : D} (h : P (d, false, e)) : (eC d e).all P := h
theorem k_bin {o : D → D → DV} {a b : Ex} (h : (a e).all fun p => (b p.2.2).all fun q => ∃ d fr, o p.1 q.1 = some (d, fr) ∧ P (d, fr, q.2.2)) : (eBin o a b e).all P := by
  unfold eBin
  rw [w_bind]
  refine h.mono fun p h => ?_
  rw [w_bind]
  refine h.mono fun q ⟨d, fr, h1, h2⟩ => ?_
  rw [h1]
  exact h2
theorem k_un {o : D → DV} {a : Ex} (h : (a e).all fun p => ∃ d fr, o p.1 = some (d, fr) ∧ P (d, fr, p.2.2)) : (eUn o a e).all P := by
  unfold eUn
  rw [w_bind]
  refine h.mono fun q ⟨d, fr, h1, h2⟩ => ?_
  rw [h1]
  exact h2
theorem k_blt {o : List D → DV} {a : Ea} (h : (a e).all fun p => ∃ d fr, o p.1 = some (d, fr) ∧ P (d, fr, p.2)) : (eBlt o a e).all P := by
  unfold eBlt
  rw [w_bind]
  refine h.mono fun q ⟨d, fr, h1, h2⟩ => ?_
  rw [h1]
  exact h2
theorem k_lst {a : Ea} (h : (a e).all fun p => p.1.length ≤ 1000 ∧ P (.lst p.1, true, p.2)) : (eLst a e).all P := by
  unfold eLst
  rw [w_bind]
  refine h.mono fun q ⟨h1, h2⟩ => ?_
  rw [if_pos (by rw [sizeLine_eq]; omega)]
  exact h2
theorem k_tup {a : Ea} (h : (a e).all fun p => p.1.length ≤ 1000 ∧ P (.tup p.1, false, p.2)) : (eTup a e).all P := by
  unfold eTup
  rw [w_bind]
  refine h.mono fun q ⟨h1, h2⟩ => ?_
  rw [if_pos (by rw [sizeLine_eq]; omega)]
  exact h2
theorem k_ifx {t : Et} {a b : Ex} (h : (t e).all fun p => (p.1 = true → (a p.2).all P) ∧ (p.1 = false → (b p.2).all P)) : (eIf t a b e).all P := by
  unfold eIf
  rw [w_bind]
  refine h.mono fun p h => ?_
  cases hp : p.1 with
  | true => exact h.1 hp
  | false => exact h.2 hp
theorem k_call {F : Fn} {fa : Ea} (h : (fa e).all fun p => (F p.1).all fun r => P (r.1, r.2.1, p.2)) : (eCall F fa e).all P := by
  unfold eCall
  rw [w_bind]
  refine h.mono fun p h => ?_
  rw [w_bind]
  exact h
theorem k_callJ {i : Nat} {F : Fn} {fa : Ea} (h0 : (getOwn i e).isSome = true) (h : (fa e).all fun p => ∃ jc, getOwn i p.2 = some jc ∧ (F (.lst jc :: p.1)).all fun r => P (r.1, r.2.1, p.2.set i (some (.own r.2.2)))) : (eCallJ i F fa e).all P := by
  unfold eCallJ
  obtain ⟨z, hz⟩ := Option.isSome_iff_exists.mp h0
  rw [hz]
  dsimp only
  rw [w_bind]
  refine h.mono fun p ⟨jc, h1, h2⟩ => ?_
  rw [h1]
  dsimp only
  rw [w_bind]
  exact h2
theorem k_ixO {i : Nat} {fk : Ex} (h0 : (getOwn i e).isSome = true) (h : (fk e).all fun q => ∃ ds k d, getOwn i q.2.2 = some ds ∧ q.1 = .int k ∧ atI ds k = some d ∧ P (d, false, q.2.2)) : (eIxO i fk e).all P := by
  unfold eIxO
  obtain ⟨z, hz⟩ := Option.isSome_iff_exists.mp h0
  rw [hz]
  dsimp only
  rw [w_bind]
  refine h.mono fun p ⟨ds, k, d, h1, h2, h3, h4⟩ => ?_
  rw [h1, h2]
  dsimp only
  rw [h3]
  exact h4
theorem k_make {c : Nat} {F : FnN} {fa : Ea} (h : (fa e).all fun p => (F p.1).all fun r => P (.obj c r.1 r.2, false, p.2)) : (eMake c F fa e).all P := by
  unfold eMake
  rw [w_bind]
  refine h.mono fun p h => ?_
  rw [w_bind]
  exact h
theorem k_fld {c : Nat} {f : Str} {fo : Ex} (h : (fo e).all fun o => ∃ ns ds d, o.1 = .obj c ns ds ∧ (ns.zip ds).lookup f = some d ∧ P (d, false, o.2.2)) : (eFld c f fo e).all P := by
  unfold eFld
  rw [w_bind]
  refine h.mono fun p ⟨ns, ds, d, h1, h2, h3⟩ => ?_
  rw [h1]
  dsimp only
  rw [if_pos rfl, h2]
  exact h3
theorem k_prop {c : Nat} {F : Fn} {fo : Ex} (h : (fo e).all fun o => ∃ ns ds, o.1 = .obj c ns ds ∧ (F [.obj c ns ds]).all fun r => P (r.1, r.2.1, o.2.2)) : (eProp c F fo e).all P := by
  unfold eProp
  rw [w_bind]
  refine h.mono fun p ⟨ns, ds, h1, h2⟩ => ?_
  rw [h1]
  dsimp only
  rw [if_pos rfl, w_bind]
  exact h2
theorem k_meth {c : Nat} {m : Str} {F : Fn} {fo : Ex} {fa : Ea} (h : (fo e).all fun o => ∃ ns ds, o.1 = .obj c ns ds ∧ m ∉ ns ∧ (fa o.2.2).all fun p => (F (.obj c ns ds :: p.1)).all fun r => P (r.1, r.2.1, p.2)) : (eMeth c m F fo fa e).all P := by
  unfold eMeth
  rw [w_bind]
  refine h.mono fun p ⟨ns, ds, h1, hm, h2⟩ => ?_
  rw [h1]
  dsimp only
  rw [if_pos ⟨rfl, hm⟩, w_bind]
  refine h2.mono fun q h => ?_
  rw [w_bind]
  exact h
theorem k_and {a b : Ex} (h : (a e).all fun p => ∃ x, p.1 = .bl x ∧ (x = true → (b p.2.2).all P) ∧ (x = false → P (.bl false, false, p.2.2))) : (eAnd a b e).all P := by
  unfold eAnd
  rw [w_bind]
  refine h.mono fun p ⟨x, h1, h2, h3⟩ => ?_
  rw [h1]
  cases x with
  | true => exact h2 rfl
  | false => exact h3 rfl
theorem k_comp {it : Ei} {T : Tg} {c : Et} {el : Ex} {vs : List Nat} (h : (it e).all fun p => (compLoop T c el vs p.1 [] (wipeE p.2 vs)).all fun q => P (.lst q.1, true, backE p.2 q.2 vs)) : (eComp it T c el vs e).all P := by
  unfold eComp
  rw [w_bind]
  refine h.mono fun p h => ?_
  rw [w_bind]
  exact h
end
section
variable {P : List D × En → Prop} {e : En}
theorem k_nil (h : P ([], e)) : (aNil e).all P := h
theorem k_cons {a : Ex} {r : Ea} (h : (a e).all fun p => (r p.2.2).all fun q => P (p.1 :: q.1, q.2)) : (aCons a r e).all P := by
  unfold aCons
  rw [w_bind]
  refine h.mono fun p h => ?_
  rw [w_bind]
  exact h
theorem k_seqI {f : Ex} (h : (f e).all fun p => ∃ ds, itemsD p.1 = some ds ∧ P (ds, p.2.2)) : (iSeq f e).all P := by
  unfold iSeq
  rw [w_bind]
  refine h.mono fun p ⟨ds, h1, h2⟩ => ?_
  rw [h1]
  exact h2
theorem k_rg1 {a : Ea} (h : (a e).all fun p => ∃ j : Int, p.1 = [.int j] ∧ (-(2 ^ 62) ≤ j ∧ j ≤ 16777216) ∧ P (rangeL 0 j.toNat, p.2)) : (iRange1 a e).all P := by
  unfold iRange1
  rw [w_bind]
  refine h.mono fun p ⟨j, h1, h2, h3⟩ => ?_
  rw [h1]
  dsimp only
  rw [if_pos h2]
  exact h3
theorem k_rg2 {a : Ea} (h : (a e).all fun p => ∃ i j : Int, p.1 = [.int i, .int j] ∧ ((-(2 ^ 62) ≤ i ∧ i < 2 ^ 62 ∧ -(2 ^ 62) ≤ j ∧ j < 2 ^ 62) ∧ j - i ≤ 16777216) ∧ P (rangeL i (j - i).toNat, p.2)) : (iRange2 a e).all P := by
  unfold iRange2
  rw [w_bind]
  refine h.mono fun p ⟨i, j, h1, h2, h3⟩ => ?_
  rw [h1]
  dsimp only
  rw [if_pos h2]
  exact h3
end
section
variable {P : Bool × En → Prop} {e : En}
theorem k_val {a : Ex} (h : (a e).all fun p => ∃ b, p.1 = .bl b ∧ P (b, p.2.2)) : (tVal a e).all P := by
  unfold tVal
  rw [w_bind]
  refine h.mono fun p ⟨b, h1, h2⟩ => ?_
  rw [h1]
  exact h2
theorem k_cmp {o : D → D → DV} {a b : Ex} (h : (a e).all fun p => (b p.2.2).all fun q => ∃ x fr, o p.1 q.1 = some (.bl x, fr) ∧ P (x, q.2.2)) : (tCmp2 o a b e).all P := by
  refine k_val (k_bin (h.mono fun p h => h.mono fun q ⟨x, fr, h1, h2⟩ => ⟨_, fr, h1, x, rfl, h2⟩))
theorem k_and2 {a b : Et} (h : (a e).all fun p => (p.1 = true → (b p.2).all P) ∧ (p.1 = false → P (false, p.2))) : (tAnd2 a b e).all P := by
  unfold tAnd2
  rw [w_bind]
  refine h.mono fun p h => ?_
  cases hp : p.1 with
  | true => exact h.1 hp
  | false => exact h.2 hp
theorem k_or2 {a b : Et} (h : (a e).all fun p => (p.1 = true → P (true, p.2)) ∧ (p.1 = false → (b p.2).all P)) : (tOr2 a b e).all P := by
  unfold tOr2
  rw [w_bind]
  refine h.mono fun p h => ?_
  cases hp : p.1 with
  | true => exact h.1 hp
  | false => exact h.2 hp
theorem k_not1 {a : Et} (h : (a e).all fun p => P (!p.1, p.2)) : (tNot1 a e).all P := by
  unfold tNot1
  rw [w_bind]
  exact h
theorem k_eq {α : Type} {x : Ro α} {z : α} {P : α → Prop} (h : x = .ok z) (hp : P z) : x.all P := by
  rw [h]
  exact hp
end
end G

/-! the defs of law_k20_meetings_of_walks, printed by gen.py -/
namespace G
open PySem PySem.Spec PyProof.Rows L2
def topS (i : Nat) : Stmt := PySem.Challenge.pw_cutwalks_k20_meetings_of_walks.main.body.getD i (.Pass ⟨0, 0, 0, 0⟩)
def clsS (i j : Nat) : Stmt := match topS i with
  | .ClassDef _ _ _ b _ _ _ _ _ _ _ => b.getD j (.Pass ⟨0, 0, 0, 0⟩)
  | s => s
abbrev t__law_jar : Stmt := topS 26
def n__law_jar : List Str := ["script", "k", "cell_here"]
theorem sc__law_jar : FnScope n__law_jar ["script", "k"] (defScope t__law_jar) := ⟨by rfl, by rfl, by rfl, by decide +kernel, by rfl, by decide +kernel, by decide +kernel⟩
abbrev t__law_dip : Stmt := topS 27
def n__law_dip : List Str := ["jar", "many", "digit", "mixed"]
theorem sc__law_dip : FnScope n__law_dip ["jar", "many"] (defScope t__law_dip) := ⟨by rfl, by rfl, by rfl, by decide +kernel, by rfl, by decide +kernel, by decide +kernel⟩
abbrev t__law_three : Stmt := topS 28
def n__law_three : List Str := ["jar", "wide", "least", "normal"]
theorem sc__law_three : FnScope n__law_three ["jar", "wide"] (defScope t__law_three) := ⟨by rfl, by rfl, by rfl, by decide +kernel, by rfl, by decide +kernel, by decide +kernel⟩
abbrev t__law_small : Stmt := topS 29
def n__law_small : List Str := ["jar", "most", "length", "way", "found", "spot", "kind"]
theorem sc__law_small : FnScope n__law_small ["jar", "most"] (defScope t__law_small) := ⟨by rfl, by rfl, by rfl, by decide +kernel, by rfl, by decide +kernel, by decide +kernel⟩
abbrev t_is_between : Stmt := topS 9
def n_is_between : List Str := ["value", "low", "high"]
theorem sc_is_between : FnScope n_is_between ["value", "low", "high"] (defScope t_is_between) := ⟨by rfl, by rfl, by rfl, by decide +kernel, by rfl, by decide +kernel, by decide +kernel⟩
abbrev t_are_ascending : Stmt := topS 10
def n_are_ascending : List Str := ["value", "low", "high", "one", "other"]
theorem sc_are_ascending : FnScope n_are_ascending ["value", "low", "high"] (defScope t_are_ascending) := ⟨by rfl, by rfl, by rfl, by decide +kernel, by rfl, by decide +kernel, by decide +kernel⟩
abbrev t_first_at : Stmt := topS 11
def n_first_at : List Str := ["places", "least", "low", "high", "middle"]
theorem sc_first_at : FnScope n_first_at ["places", "least"] (defScope t_first_at) := ⟨by rfl, by rfl, by rfl, by decide +kernel, by rfl, by decide +kernel, by decide +kernel⟩
abbrev t_has_place : Stmt := topS 12
def n_has_place : List Str := ["places", "place", "at"]
theorem sc_has_place : FnScope n_has_place ["places", "place"] (defScope t_has_place) := ⟨by rfl, by rfl, by rfl, by decide +kernel, by rfl, by decide +kernel, by decide +kernel⟩
abbrev t_are_marks : Stmt := topS 13
def n_are_marks : List Str := ["value", "chosen", "low", "high", "place"]
theorem sc_are_marks : FnScope n_are_marks ["value", "chosen", "low", "high"] (defScope t_are_marks) := ⟨by rfl, by rfl, by rfl, by decide +kernel, by rfl, by decide +kernel, by decide +kernel⟩
abbrev t_Rowd__initd_ : Stmt := clsS 15 0
def n_Rowd__initd_ : List Str := ["self", "length", "marks", "strict"]
theorem sc_Rowd__initd_ : FnScope n_Rowd__initd_ ["self", "length", "marks", "strict"] (defScope t_Rowd__initd_) := ⟨by rfl, by rfl, by rfl, by decide +kernel, by rfl, by decide +kernel, by decide +kernel⟩
abbrev t__law_heap : Stmt := topS 31
def n__law_heap : List Str := ["raw", "spot", "kind"]
theorem sc__law_heap : FnScope n__law_heap ["raw"] (defScope t__law_heap) := ⟨by rfl, by rfl, by rfl, by decide +kernel, by rfl, by decide +kernel, by decide +kernel⟩
abbrev t__law_others : Stmt := topS 37
def n__law_others : List Str := ["jar", "raw", "least", "normal", "greatest", "some", "three"]
theorem sc__law_others : FnScope n__law_others ["jar", "raw"] (defScope t__law_others) := ⟨by rfl, by rfl, by rfl, by decide +kernel, by rfl, by decide +kernel, by decide +kernel⟩
abbrev t__law_slow : Stmt := topS 32
def n__law_slow : List Str := ["raw", "spot", "length", "marked", "three", "goal"]
theorem sc__law_slow : FnScope n__law_slow ["raw", "spot"] (defScope t__law_slow) := ⟨by rfl, by rfl, by rfl, by decide +kernel, by rfl, by decide +kernel, by decide +kernel⟩
abbrev t__law_slow_walk : Stmt := topS 33
def n__law_slow_walk : List Str := ["raw", "begin", "found"]
theorem sc__law_slow_walk : FnScope n__law_slow_walk ["raw", "begin"] (defScope t__law_slow_walk) := ⟨by rfl, by rfl, by rfl, by decide +kernel, by rfl, by decide +kernel, by decide +kernel⟩
abbrev t__law_first : Stmt := topS 38
def n__law_first : List Str := ["walk_here", "other", "cut"]
theorem sc__law_first : FnScope n__law_first ["walk_here", "other"] (defScope t__law_first) := ⟨by rfl, by rfl, by rfl, by decide +kernel, by rfl, by decide +kernel, by decide +kernel⟩
abbrev t_are_settings : Stmt := topS 18
def n_are_settings : List Str := ["value"]
theorem sc_are_settings : FnScope n_are_settings ["value"] (defScope t_are_settings) := ⟨by rfl, by rfl, by rfl, by decide +kernel, by rfl, by decide +kernel, by decide +kernel⟩
abbrev t_need_settings : Stmt := topS 19
def n_need_settings : List Str := ["settings"]
theorem sc_need_settings : FnScope n_need_settings ["settings"] (defScope t_need_settings) := ⟨by rfl, by rfl, by rfl, by decide +kernel, by rfl, by decide +kernel, by decide +kernel⟩
abbrev t_need_place : Stmt := topS 14
def n_need_place : List Str := ["place", "low", "high"]
theorem sc_need_place : FnScope n_need_place ["place", "low", "high"] (defScope t_need_place) := ⟨by rfl, by rfl, by rfl, by decide +kernel, by rfl, by decide +kernel, by decide +kernel⟩
abbrev t_Row_length : Stmt := clsS 15 1
def n_Row_length : List Str := ["self"]
theorem sc_Row_length : FnScope n_Row_length ["self"] (defScope t_Row_length) := ⟨by rfl, by rfl, by rfl, by decide +kernel, by rfl, by decide +kernel, by decide +kernel⟩
abbrev t_need_short : Stmt := topS 20
def n_need_short : List Str := ["length", "settings"]
theorem sc_need_short : FnScope n_need_short ["length", "settings"] (defScope t_need_short) := ⟨by rfl, by rfl, by rfl, by decide +kernel, by rfl, by decide +kernel, by decide +kernel⟩
abbrev t_Trackd__initd_ : Stmt := clsS 21 0
def n_Trackd__initd_ : List Str := ["self", "last", "marked", "chosen", "settings"]
theorem sc_Trackd__initd_ : FnScope n_Trackd__initd_ ["self", "last", "marked", "chosen", "settings"] (defScope t_Trackd__initd_) := ⟨by rfl, by rfl, by rfl, by decide +kernel, by rfl, by decide +kernel, by decide +kernel⟩
abbrev t_Row_marks : Stmt := clsS 15 2
def n_Row_marks : List Str := ["self"]
theorem sc_Row_marks : FnScope n_Row_marks ["self"] (defScope t_Row_marks) := ⟨by rfl, by rfl, by rfl, by decide +kernel, by rfl, by decide +kernel, by decide +kernel⟩
abbrev t_Row_strict : Stmt := clsS 15 3
def n_Row_strict : List Str := ["self"]
theorem sc_Row_strict : FnScope n_Row_strict ["self"] (defScope t_Row_strict) := ⟨by rfl, by rfl, by rfl, by decide +kernel, by rfl, by decide +kernel, by decide +kernel⟩
abbrev t_track_of : Stmt := topS 22
def n_track_of : List Str := ["row", "settings"]
theorem sc_track_of : FnScope n_track_of ["row", "settings"] (defScope t_track_of) := ⟨by rfl, by rfl, by rfl, by decide +kernel, by rfl, by decide +kernel, by decide +kernel⟩
abbrev t_Track_next_of : Stmt := clsS 21 1
def n_Track_next_of : List Str := ["self", "place", "farthest", "found", "at"]
theorem sc_Track_next_of : FnScope n_Track_next_of ["self", "place"] (defScope t_Track_next_of) := ⟨by rfl, by rfl, by rfl, by decide +kernel, by rfl, by decide +kernel, by decide +kernel⟩
abbrev t_meeting : Stmt := topS 24
def n_meeting : List Str := ["row", "settings", "first", "second", "track"]
theorem sc_meeting : FnScope n_meeting ["row", "settings", "first", "second"] (defScope t_meeting) := ⟨by rfl, by rfl, by rfl, by decide +kernel, by rfl, by decide +kernel, by decide +kernel⟩
abbrev t_Rowd__eqd_ : Stmt := clsS 15 6
def n_Rowd__eqd_ : List Str := ["self", "other", "here"]
theorem sc_Rowd__eqd_ : FnScope n_Rowd__eqd_ ["self", "other"] (defScope t_Rowd__eqd_) := ⟨by rfl, by rfl, by rfl, by decide +kernel, by rfl, by decide +kernel, by decide +kernel⟩
abbrev t__law_small_right : Stmt := topS 39
def n__law_small_right : List Str := ["made", "raw", "length", "walks_here", "spot", "one", "two", "due"]
theorem sc__law_small_right : FnScope n__law_small_right ["made", "raw"] (defScope t__law_small_right) := ⟨by rfl, by rfl, by rfl, by decide +kernel, by rfl, by decide +kernel, by decide +kernel⟩
abbrev t__law_great : Stmt := topS 30
def n__law_great : List Str := ["jar", "most", "three", "length", "spots", "spot", "turn", "gap", "inner", "one"]
theorem sc__law_great : FnScope n__law_great ["jar", "most"] (defScope t__law_great) := ⟨by rfl, by rfl, by rfl, by decide +kernel, by rfl, by decide +kernel, by decide +kernel⟩
abbrev t__law_far : Stmt := topS 34
def n__law_far : List Str := ["raw", "spot", "goal", "kind"]
theorem sc__law_far : FnScope n__law_far ["raw", "spot"] (defScope t__law_far) := ⟨by rfl, by rfl, by rfl, by decide +kernel, by rfl, by decide +kernel, by decide +kernel⟩
abbrev t__law_far_walk : Stmt := topS 35
def n__law_far_walk : List Str := ["raw", "begin", "found"]
theorem sc__law_far_walk : FnScope n__law_far_walk ["raw", "begin"] (defScope t__law_far_walk) := ⟨by rfl, by rfl, by rfl, by decide +kernel, by rfl, by decide +kernel, by decide +kernel⟩
abbrev t__law_great_right : Stmt := topS 40
def n__law_great_right : List Str := ["jar", "made", "raw", "near", "spot", "kind", "turn", "one", "walk_here", "two", "due"]
theorem sc__law_great_right : FnScope n__law_great_right ["jar", "made", "raw"] (defScope t__law_great_right) := ⟨by rfl, by rfl, by rfl, by decide +kernel, by rfl, by decide +kernel, by decide +kernel⟩
abbrev t__law_other : Stmt := topS 36
def n__law_other : List Str := ["jar", "raw", "least", "normal"]
theorem sc__law_other : FnScope n__law_other ["jar", "raw"] (defScope t__law_other) := ⟨by rfl, by rfl, by rfl, by decide +kernel, by rfl, by decide +kernel, by decide +kernel⟩
abbrev t_law : Stmt := topS 41
def n_law : List Str := ["script", "k", "jar", "turn", "raw", "made", "one", "told"]
theorem sc_law : FnScope n_law ["script"] (defScope t_law) := ⟨by rfl, by rfl, by rfl, by decide +kernel, by rfl, by decide +kernel, by decide +kernel⟩
def clN : Nat → Str
  | 0 => "Row"
  | _ => "Track"
def gOf (K : PySem.W.Frag) : Gc := ⟨K, fun c => He.ga K (clN c)⟩
def tab_Row : Nat → Option Bool
  | 0 => some true
  | 1 => some false
  | _ => none
def b__law_jar : Sm := (sSeq (sSet 2 (eIf (tCmp2 ltD (eVar 1) (eBlt lenD (aCons (eVar 0) aNil))) (eBlt absD (aCons (eBin ixD (eVar 0) (eVar 1)) aNil)) (eC (.int 0)))) (sRet (eLst (aCons (eBlt maxD (aCons (eC (.int 0)) (aCons (eBin subD (eVar 2) (eBin powD (eC (.int 10)) (eC (.int 18)))) aNil))) (aCons (eBin addD (eBin mulD (eBin modD (eBlt intD (aCons (eVar 2) aNil)) (eBin addD (eBin powD (eC (.int 10)) (eC (.int 43))) (eC (.int 57)))) (eC (.int 101))) (eBin mulD (eC (.int 70001)) (eVar 1))) (aCons (eC (.int 0)) aNil))))))
def s__law_jar : Fn := runFn 2 3 false b__law_jar
def b__law_dip : Sm := (sSeq (sIf (tCmp2 gtD (eIxO 0 (eC (.int 0))) (eC (.int 0))) (sSeq (sSet 2 (eBin modD (eBlt intD (aCons (eIxO 0 (eC (.int 0))) aNil)) (eVar 1))) (sSeq (sPut 0 (eBin divD (eIxO 0 (eC (.int 0))) (eVar 1)) (eC (.int 0))) (sRet (eVar 2)))) sSkip) (sSeq (sPut 0 (eBin addD (eIxO 0 (eC (.int 2))) (eC (.int 1))) (eC (.int 2))) (sSeq (sSet 3 (eBin modD (eBlt intD (aCons (eBin powD (eBin addD (eIxO 0 (eC (.int 1))) (eBin mulD (eC (.int 60000049)) (eIxO 0 (eC (.int 2))))) (eC (.int 3))) aNil)) (eBin addD (eBin powD (eC (.int 10)) (eC (.int 47))) (eC (.int 91))))) (sSeq (sSet 3 (eBin modD (eBlt intD (aCons (eBin powD (eBin addD (eVar 3) (eBin mulD (eC (.int 35000021)) (eIxO 0 (eC (.int 2))))) (eC (.int 3))) aNil)) (eBin addD (eBin powD (eC (.int 10)) (eC (.int 46))) (eC (.int 79))))) (sRet (eBin modD (eBlt intD (aCons (eBin divD (eVar 3) (eC (.int 1073741827))) aNil)) (eVar 1)))))))
def s__law_dip : Fn := runFn 2 4 true b__law_dip
def b__law_three : Sm := (sSeq (sSet 2 (eBin addD (eC (.int 1)) (eCallJ 0 s__law_dip (aCons (eVar 1) aNil)))) (sSeq (sSet 3 (eBin addD (eVar 2) (eBin ixD (eLst (aCons (eC (.int 0)) (aCons (eCallJ 0 s__law_dip (aCons (eVar 1) aNil)) (aCons (eCallJ 0 s__law_dip (aCons (eC (.int 3)) aNil)) aNil)))) (eCallJ 0 s__law_dip (aCons (eC (.int 3)) aNil))))) (sRet (eTup (aCons (eVar 2) (aCons (eVar 3) (aCons (eBin addD (eVar 3) (eBin ixD (eLst (aCons (eC (.int 0)) (aCons (eCallJ 0 s__law_dip (aCons (eVar 1) aNil)) (aCons (eBin addD (eC (.int 1)) (eCallJ 0 s__law_dip (aCons (eC (.int 3)) aNil))) aNil)))) (eCallJ 0 s__law_dip (aCons (eC (.int 3)) aNil)))) aNil)))))))
def s__law_three : Fn := runFn 2 4 true b__law_three
def b__law_small : Sm := (sSeq (sParF [2, 3, 4] [(false, (eBin addD (eC (.int 1)) (eCallJ 0 s__law_dip (aCons (eVar 1) aNil)))), (false, (eCallJ 0 s__law_dip (aCons (eC (.int 5)) aNil))), (true, (eLst aNil))]) (sSeq (sFor (iRange2 (aCons (eC (.int 1)) (aCons (eVar 2) aNil))) (tgName 5) (sSeq (sSet 6 (eIf (tCmp2 eqX (eVar 3) (eC (.int 0))) (eBin addD (eC (.int 1)) (eCallJ 0 s__law_dip (aCons (eC (.int 2)) aNil))) (eBlt maxD (aCons (eC (.int 0)) (aCons (eBin subD (eCallJ 0 s__law_dip (aCons (eC (.int 5)) aNil)) (eC (.int 2))) aNil))))) (sIf (tAnd2 (tCmp2 gtD (eVar 6) (eC (.int 0))) (tCmp2 neX (eVar 3) (eC (.int 1)))) (sApp 4 (aCons (eTup (aCons (eVar 5) (aCons (eVar 6) aNil))) aNil)) sSkip))) (sFz 4 (sRet (eTup (aCons (eVar 2) (aCons (eVar 4) (aCons (eCallJ 0 s__law_three (aCons (eC (.int 4)) aNil)) aNil))))))))
def s__law_small : Fn := runFn 2 7 true b__law_small
def b_is_between : Sm := (sSeq (sIf (tOr2 (tNot1 (tVal (eIsB .int (eVar 0)))) (tVal (eIsB .bool (eVar 0)))) (sRet (eC (.bl false))) sSkip) (sRet (eAnd (eBin leD (eVar 1) (eVar 0)) (eOr (eBin isND (eVar 2) (eC .non)) (eBin leD (eVar 0) (eVar 2))))))
def s_is_between : Fn := runFn 3 3 false b_is_between
def b_are_ascending : Sm := (sSeq (sIf (tOr2 (tNot1 (tVal (eIsB .list (eVar 0)))) (tNot1 (tVal (eBlt allD (aCons (eComp (iSeq (eVar 0)) (tgName 3) tTrue (eCall s_is_between (aCons (eVar 3) (aCons (eVar 1) (aCons (eVar 2) aNil)))) [3]) aNil))))) (sRet (eC (.bl false))) sSkip) (sRet (eBlt allD (aCons (eComp (iZipD (aCons (eVar 0) (aCons (eSl (eVar 0) (oSome (eC (.int 1))) oNone) aNil))) (tgTup [3, 4]) tTrue (eBin ltD (eVar 3) (eVar 4)) [3, 4]) aNil))))
def s_are_ascending : Fn := runFn 3 5 false b_are_ascending
def b_first_at : Sm := (sSeq (sPar 2 3 (aCons (eC (.int 0)) (aCons (eBlt lenD (aCons (eVar 0) aNil)) aNil))) (sSeq (sWhile (tCmp2 ltD (eVar 2) (eVar 3)) (sSeq (sSet 4 (eBin divD (eBin addD (eVar 2) (eVar 3)) (eC (.int 2)))) (sIf (tCmp2 ltD (eBin ixD (eVar 0) (eVar 4)) (eVar 1)) (sSet 2 (eBin addD (eVar 4) (eC (.int 1)))) (sSet 3 (eVar 4))))) (sRet (eVar 2))))
def s_first_at : Fn := runFn 2 5 false b_first_at
def b_has_place : Sm := (sSeq (sSet 2 (eCall s_first_at (aCons (eVar 0) (aCons (eVar 1) aNil)))) (sRet (eAnd (eBin ltD (eVar 2) (eBlt lenD (aCons (eVar 0) aNil))) (eBin eqX (eBin ixD (eVar 0) (eVar 2)) (eVar 1)))))
def s_has_place : Fn := runFn 2 3 false b_has_place
def b_are_marks : Sm := (sSeq (sIf (tOr2 (tNot1 (tVal (eCall s_are_ascending (aCons (eVar 0) (aCons (eVar 2) (aCons (eVar 3) aNil)))))) (tOr2 (tCmp2 gtD (eBlt lenD (aCons (eVar 0) aNil)) (eC (.int 400))) (tNot1 (tVal (eCall s_are_ascending (aCons (eVar 1) (aCons (eVar 2) (aCons (eVar 3) aNil)))))))) (sRet (eC (.bl false))) sSkip) (sRet (eBlt allD (aCons (eComp (iSeq (eVar 1)) (tgName 4) tTrue (eCall s_has_place (aCons (eVar 0) (aCons (eVar 4) aNil))) [4]) aNil))))
def s_are_marks : Fn := runFn 4 5 false b_are_marks
def b_Rowd__initd_ : Sm := (sSeq (sIf (tOr2 (tNot1 (tVal (eCall s_is_between (aCons (eVar 1) (aCons (eC (.int 1)) (aCons (eC .non) aNil)))))) (tNot1 (tVal (eCall s_are_marks (aCons (eVar 2) (aCons (eVar 3) (aCons (eC (.int 1)) (aCons (eBin subD (eVar 1) (eC (.int 1))) aNil)))))))) sBad sSkip) (sSeq (sFld1 0 0 "kept_length" (eVar 1)) (sSeq (sFld1 0 0 "kept_marks" (eBlt tupD (aCons (eVar 2) aNil))) (sFld1 0 0 "kept_strict" (eBlt tupD (aCons (eVar 3) aNil))))))
def s_Rowd__initd_ : FnN := runInit 4 4 0 b_Rowd__initd_
def b__law_heap : Sm := (sRet (eMake 0 s_Rowd__initd_ (aCons (eBin ixD (eVar 0) (eC (.int 0))) (aCons (eComp (iSeq (eBin ixD (eVar 0) (eC (.int 1)))) (tgTup [1, 2]) tTrue (eVar 1) [1, 2]) (aCons (eComp (iSeq (eBin ixD (eVar 0) (eC (.int 1)))) (tgTup [1, 2]) (tCmp2 eqX (eVar 2) (eC (.int 2))) (eVar 1) [1, 2]) aNil)))))
def s__law_heap : Fn := runFn 1 3 false b__law_heap
def b__law_others : Sm := (sSeq (sTg (tgTup [2, 3, 4]) (eBin ixD (eVar 1) (eC (.int 2)))) (sSeq (sSet 5 (eLst (aCons (eTup (aCons (eVar 2) (aCons (eBin addD (eVar 2) (eCallJ 0 s__law_dip (aCons (eBin addD (eBin subD (eVar 4) (eVar 2)) (eC (.int 1))) aNil))) (aCons (eVar 4) aNil)))) aNil))) (sSeq (sSet 5 (eBin addD (eVar 5) (eLst (aCons (eTup (aCons (eBin addD (eC (.int 1)) (eCallJ 0 s__law_dip (aCons (eVar 3) aNil))) (aCons (eVar 3) (aCons (eVar 4) aNil)))) aNil)))) (sSeq (sSet 5 (eBin addD (eVar 5) (eLst (aCons (eTup (aCons (eVar 2) (aCons (eVar 3) (aCons (eBin addD (eVar 3) (eCallJ 0 s__law_dip (aCons (eBin addD (eVar 4) (eC (.int 1))) aNil))) aNil)))) (aCons (eBin ixD (eVar 1) (eC (.int 2))) aNil))))) (sRet (eComp (iSeq (eVar 5)) (tgName 6) tTrue (eTup (aCons (eBin ixD (eVar 1) (eC (.int 0))) (aCons (eBin ixD (eVar 1) (eC (.int 1))) (aCons (eVar 6) aNil)))) [6]))))))
def s__law_others : Fn := runFn 2 7 true b__law_others
def b__law_slow : Sm := (sSeq (sTg (tgTup [2, 3, 4]) (eVar 0)) (sSeq (sFor (iRange2 (aCons (eBin addD (eVar 1) (eBin ixD (eVar 4) (eC (.int 0)))) (aCons (eBlt minD (aCons (eBin addD (eVar 1) (eBin ixD (eVar 4) (eC (.int 2)))) (aCons (eVar 2) aNil))) aNil))) (tgName 5) (sIf (tOr2 (tCmp2 inD (eTup (aCons (eVar 5) (aCons (eC (.int 2)) aNil))) (eVar 3)) (tAnd2 (tCmp2 inD (eTup (aCons (eVar 5) (aCons (eC (.int 1)) aNil))) (eVar 3)) (tCmp2 geD (eVar 5) (eBin addD (eVar 1) (eBin ixD (eVar 4) (eC (.int 1))))))) (sRet (eVar 5)) sSkip)) (sRet (eBlt minD (aCons (eBin addD (eVar 1) (eBin ixD (eVar 4) (eC (.int 2)))) (aCons (eVar 2) aNil))))))
def s__law_slow : Fn := runFn 2 6 false b__law_slow
def b__law_slow_walk : Sm := (sSeq (sOwn 2 (eLst (aCons (eVar 1) aNil))) (sSeq (sWhile (tCmp2 ltD (eIxO 2 (eUn negD (eC (.int 1)))) (eBin ixD (eVar 0) (eC (.int 0)))) (sApp 2 (aCons (eCall s__law_slow (aCons (eVar 0) (aCons (eIxO 2 (eUn negD (eC (.int 1)))) aNil))) aNil))) (sRetO 2)))
def s__law_slow_walk : Fn := runFn 2 3 false b__law_slow_walk
def b__law_first : Sm := (sRet (eBin ixD (eComp (iSeq (eVar 0)) (tgName 2) (tCmp2 inD (eVar 2) (eVar 1)) (eVar 2) [2]) (eC (.int 0))))
def s__law_first : Fn := runFn 2 3 false b__law_first
def b_are_settings : Sm := (sSeq (sIf (tOr2 (tNot1 (tVal (eIsB .tuple (eVar 0)))) (tOr2 (tCmp2 neX (eBlt lenD (aCons (eVar 0) aNil)) (eC (.int 3))) (tNot1 (tVal (eCall s_is_between (aCons (eBin ixD (eVar 0) (eC (.int 0))) (aCons (eC (.int 1)) (aCons (eC .non) aNil)))))))) (sRet (eC (.bl false))) sSkip) (sRet (eAnd (eCall s_is_between (aCons (eBin ixD (eVar 0) (eC (.int 1))) (aCons (eBin ixD (eVar 0) (eC (.int 0))) (aCons (eC .non) aNil)))) (eCall s_is_between (aCons (eBin ixD (eVar 0) (eC (.int 2))) (aCons (eBin ixD (eVar 0) (eC (.int 1))) (aCons (eC .non) aNil)))))))
def s_are_settings : Fn := runFn 1 1 false b_are_settings
def b_need_settings : Sm := (sIf (tNot1 (tVal (eCall s_are_settings (aCons (eVar 0) aNil)))) sBad sSkip)
def s_need_settings : Fn := runFn 1 1 false b_need_settings
def b_need_place : Sm := (sIf (tNot1 (tVal (eCall s_is_between (aCons (eVar 0) (aCons (eVar 1) (aCons (eVar 2) aNil)))))) sBad sSkip)
def s_need_place : Fn := runFn 3 3 false b_need_place
def b_Row_length : Sm := (sRet (eFld 0 "kept_length" (eVar 0)))
def s_Row_length : Fn := runFn 1 1 false b_Row_length
def b_need_short : Sm := (sIf (tCmp2 gtD (eVar 0) (eBin mulD (eC (.int 200)) (eBin ixD (eVar 1) (eC (.int 0))))) sBad sSkip)
def s_need_short : Fn := runFn 2 2 false b_need_short
def b_Trackd__initd_ : Sm := (sSeq (sFld1 0 1 "last" (eVar 1)) (sSeq (sFld1 0 1 "marked" (eBlt tupD (aCons (eVar 2) aNil))) (sSeq (sFld1 0 1 "chosen" (eBlt tupD (aCons (eVar 3) aNil))) (sFldT 0 1 ["least", "normal", "greatest"] (eVar 4)))))
def s_Trackd__initd_ : FnN := runInit 5 5 1 b_Trackd__initd_
def b_Row_marks : Sm := (sRet (eBlt listD (aCons (eFld 0 "kept_marks" (eVar 0)) aNil)))
def s_Row_marks : Fn := runFn 1 1 false b_Row_marks
def b_Row_strict : Sm := (sRet (eBlt listD (aCons (eFld 0 "kept_strict" (eVar 0)) aNil)))
def s_Row_strict : Fn := runFn 1 1 false b_Row_strict
def b_track_of : Sm := (sRet (eMake 1 s_Trackd__initd_ (aCons (eProp 0 s_Row_length (eVar 0)) (aCons (eProp 0 s_Row_marks (eVar 0)) (aCons (eProp 0 s_Row_strict (eVar 0)) (aCons (eVar 1) aNil))))))
def s_track_of : Fn := runFn 2 2 false b_track_of
def b_Track_next_of : Sm := (sSeq (sSet 2 (eBin addD (eVar 1) (eFld 1 "greatest" (eVar 0)))) (sSeq (sSet 3 (eBlt minD (aCons (eFld 1 "last" (eVar 0)) (aCons (eVar 2) aNil)))) (sSeq (sSet 4 (eCall s_first_at (aCons (eFld 1 "chosen" (eVar 0)) (aCons (eBin addD (eVar 1) (eFld 1 "least" (eVar 0))) aNil)))) (sSeq (sIf (tAnd2 (tCmp2 ltD (eVar 4) (eBlt lenD (aCons (eFld 1 "chosen" (eVar 0)) aNil))) (tCmp2 ltD (eBin ixD (eFld 1 "chosen" (eVar 0)) (eVar 4)) (eVar 3))) (sSet 3 (eBin ixD (eFld 1 "chosen" (eVar 0)) (eVar 4))) sSkip) (sSeq (sSet 4 (eCall s_first_at (aCons (eFld 1 "marked" (eVar 0)) (aCons (eBin addD (eVar 1) (eFld 1 "normal" (eVar 0))) aNil)))) (sSeq (sIf (tAnd2 (tCmp2 ltD (eVar 4) (eBlt lenD (aCons (eFld 1 "marked" (eVar 0)) aNil))) (tCmp2 ltD (eBin ixD (eFld 1 "marked" (eVar 0)) (eVar 4)) (eVar 3))) (sSet 3 (eBin ixD (eFld 1 "marked" (eVar 0)) (eVar 4))) sSkip) (sRet (eVar 3))))))))
def s_Track_next_of : Fn := runFn 2 5 false b_Track_next_of
def b_meeting : Sm := (sSeq (sExpr (eCall s_need_settings (aCons (eVar 1) aNil))) (sSeq (sExpr (eCall s_need_place (aCons (eVar 2) (aCons (eC (.int 0)) (aCons (eProp 0 s_Row_length (eVar 0)) aNil))))) (sSeq (sExpr (eCall s_need_place (aCons (eVar 3) (aCons (eC (.int 0)) (aCons (eProp 0 s_Row_length (eVar 0)) aNil))))) (sSeq (sExpr (eCall s_need_short (aCons (eProp 0 s_Row_length (eVar 0)) (aCons (eVar 1) aNil)))) (sSeq (sSet 4 (eCall s_track_of (aCons (eVar 0) (aCons (eVar 1) aNil)))) (sSeq (sWhile (tCmp2 neX (eVar 2) (eVar 3)) (sIf (tCmp2 ltD (eVar 2) (eVar 3)) (sSet 2 (eMeth 1 "next_of" s_Track_next_of (eVar 4) (aCons (eVar 2) aNil))) (sSet 3 (eMeth 1 "next_of" s_Track_next_of (eVar 4) (aCons (eVar 3) aNil))))) (sRet (eVar 2))))))))
def s_meeting : Fn := runFn 4 5 false b_meeting
def b_Rowd__eqd_ : Sm := (sSeq (sIf (tNot1 (tVal (eIsO tab_Row (eVar 1)))) (sRet (eC (.bl false))) sSkip) (sSeq (sSet 2 (eTup (aCons (eFld 0 "kept_length" (eVar 0)) (aCons (eFld 0 "kept_marks" (eVar 0)) (aCons (eFld 0 "kept_strict" (eVar 0)) aNil))))) (sRet (eBin eqX (eVar 2) (eTup (aCons (eFld 0 "kept_length" (eVar 1)) (aCons (eFld 0 "kept_marks" (eVar 1)) (aCons (eFld 0 "kept_strict" (eVar 1)) aNil))))))))
def s_Rowd__eqd_ : Fn := runFn 2 3 false b_Rowd__eqd_
def b__law_small_right : Sm := (sSeq (sSet 2 (eBin ixD (eVar 1) (eC (.int 0)))) (sSeq (sSet 3 (eComp (iRange1 (aCons (eBin addD (eVar 2) (eC (.int 1))) aNil)) (tgName 4) tTrue (eCall s__law_slow_walk (aCons (eVar 1) (aCons (eVar 4) aNil))) [4])) (sSeq (sFor (iRange1 (aCons (eBin addD (eVar 2) (eC (.int 1))) aNil)) (tgName 5) (sFor (iRange2 (aCons (eVar 5) (aCons (eBin addD (eVar 2) (eC (.int 1))) aNil))) (tgName 6) (sSeq (sSet 7 (eCall s__law_first (aCons (eBin ixD (eVar 3) (eVar 5)) (aCons (eBin ixD (eVar 3) (eVar 6)) aNil)))) (sIf (tCmp2 neX (eBlt reprD (aCons (eLst (aCons (eCall s_meeting (aCons (eVar 0) (aCons (eBin ixD (eVar 1) (eC (.int 2))) (aCons (eVar 5) (aCons (eVar 6) aNil))))) (aCons (eCall s_meeting (aCons (eVar 0) (aCons (eBin ixD (eVar 1) (eC (.int 2))) (aCons (eVar 6) (aCons (eVar 5) aNil))))) aNil))) aNil)) (eBlt reprD (aCons (eLst (aCons (eVar 7) (aCons (eVar 7) aNil))) aNil))) (sRet (eC (.bl false))) sSkip)))) (sRet (eBin (cmpOD false 0 s_Rowd__eqd_) (eVar 0) (eCall s__law_heap (aCons (eVar 1) aNil)))))))
def s__law_small_right : Fn := runFn 2 8 false b__law_small_right
def b__law_great : Sm := (sSeq (sSet 2 (eCallJ 0 s__law_three (aCons (eBin ixD (eLst (aCons (eBin powD (eC (.int 10)) (eC (.int 3))) (aCons (eBin powD (eC (.int 10)) (eC (.int 15))) (aCons (eBin powD (eC (.int 10)) (eC (.int 27))) aNil)))) (eCallJ 0 s__law_dip (aCons (eC (.int 3)) aNil))) aNil))) (sSeq (sSet 3 (eBin addD (eC (.int 1)) (eCallJ 0 s__law_dip (aCons (eBin mulD (eBin addD (eC (.int 1)) (eCallJ 0 s__law_dip (aCons (eVar 1) aNil))) (eBin ixD (eVar 2) (eC (.int 0)))) aNil)))) (sSeq (sParF [4, 5] [(true, (eLst aNil)), (false, (eC (.int 0)))]) (sSeq (sFor (iRange1 (aCons (eCallJ 0 s__law_dip (aCons (eC (.int 17)) aNil)) aNil)) (tgName 6) (sSeq (sSet 7 (eBin ixD (eLst (aCons (eBin ixD (eVar 2) (eC (.int 0))) (aCons (eBin ixD (eVar 2) (eC (.int 1))) (aCons (eBin ixD (eVar 2) (eC (.int 2))) (aCons (eBin addD (eC (.int 1)) (eCallJ 0 s__law_dip (aCons (eBin mulD (eC (.int 2)) (eBin ixD (eVar 2) (eC (.int 2)))) aNil))) aNil))))) (eCallJ 0 s__law_dip (aCons (eC (.int 4)) aNil)))) (sSeq (sSet 5 (eBin addD (eBin ixD (eLst (aCons (eVar 5) (aCons (eCallJ 0 s__law_dip (aCons (eVar 3) aNil)) aNil))) (eBlt intD (aCons (eBin eqX (eCallJ 0 s__law_dip (aCons (eC (.int 3)) aNil)) (eC (.int 0))) aNil))) (eBlt maxD (aCons (eC (.int 0)) (aCons (eBin subD (eBin addD (eVar 7) (eCallJ 0 s__law_dip (aCons (eC (.int 3)) aNil))) (eC (.int 1))) aNil))))) (sApp 4 (aCons (eVar 5) aNil))))) (sSeq (sFz 4 (sSet 8 (eComp (iSeq (eUn setD (eVar 4))) (tgName 9) (tVal (eChain ltD ltD (eC (.int 0)) (eVar 9) (eVar 3))) (eVar 9) [9]))) (sRet (eTup (aCons (eVar 3) (aCons (eComp (iSeq (eVar 8)) (tgName 9) tTrue (eTup (aCons (eVar 9) (aCons (eBin addD (eC (.int 1)) (eCallJ 0 s__law_dip (aCons (eC (.int 2)) aNil))) aNil))) [9]) (aCons (eVar 2) aNil))))))))))
def s__law_great : Fn := runFn 2 10 true b__law_great
def b__law_far : Sm := (sSeq (sFor (iSeq (eBin ixD (eVar 0) (eC (.int 1)))) (tgTup [2, 3]) (sIf (tVal (eChain leD leD (eBin addD (eVar 1) (eBin ixD (eBin ixD (eVar 0) (eC (.int 2))) (eBin subD (eC (.int 2)) (eVar 3)))) (eVar 2) (eBin addD (eVar 1) (eBin ixD (eBin ixD (eVar 0) (eC (.int 2))) (eC (.int 2)))))) (sRet (eVar 2)) sSkip)) (sRet (eBlt minD (aCons (eBin ixD (eVar 0) (eC (.int 0))) (aCons (eBin addD (eVar 1) (eBin ixD (eBin ixD (eVar 0) (eC (.int 2))) (eC (.int 2)))) aNil)))))
def s__law_far : Fn := runFn 2 4 false b__law_far
def b__law_far_walk : Sm := (sSeq (sOwn 2 (eLst (aCons (eVar 1) aNil))) (sSeq (sWhile (tCmp2 ltD (eIxO 2 (eUn negD (eC (.int 1)))) (eBin ixD (eVar 0) (eC (.int 0)))) (sApp 2 (aCons (eCall s__law_far (aCons (eVar 0) (aCons (eIxO 2 (eUn negD (eC (.int 1)))) aNil))) aNil))) (sRetO 2)))
def s__law_far_walk : Fn := runFn 2 3 false b__law_far_walk
def b__law_great_right : Sm := (sSeq (sOwn 3 (eLst (aCons (eC (.int 0)) (aCons (eBin ixD (eVar 2) (eC (.int 0))) (aCons (eCallJ 0 s__law_dip (aCons (eBin ixD (eVar 2) (eC (.int 0))) aNil)) aNil))))) (sSeq (sFor (iSeq (eBin ixD (eVar 2) (eC (.int 1)))) (tgTup [4, 5]) (sExt 3 (aCons (eLst (aCons (eVar 4) (aCons (eBin subD (eVar 4) (eBin ixD (eBin ixD (eVar 2) (eC (.int 2))) (eC (.int 2)))) (aCons (eBin subD (eVar 4) (eBin ixD (eBin ixD (eVar 2) (eC (.int 2))) (eBin subD (eC (.int 2)) (eVar 5)))) aNil)))) aNil))) (sSeq (sFor (iRange1 (aCons (eC (.int 4)) aNil)) (tgName 6) (sSeq (sSet 7 (eBlt minD (aCons (eBin ixD (eVar 2) (eC (.int 0))) (aCons (eBlt maxD (aCons (eC (.int 0)) (aCons (eBin subD (eBin addD (eIxO 3 (eCallJ 0 s__law_dip (aCons (eLenO 3) aNil))) (eCallJ 0 s__law_dip (aCons (eC (.int 3)) aNil))) (eC (.int 1))) aNil))) aNil)))) (sSeq (sSet 8 (eCall s__law_far_walk (aCons (eVar 2) (aCons (eVar 7) aNil)))) (sSeq (sSet 9 (eBin ixD (eLst (aCons (eIxO 3 (eCallJ 0 s__law_dip (aCons (eLenO 3) aNil))) (aCons (eBin ixD (eVar 8) (eCallJ 0 s__law_dip (aCons (eBlt lenD (aCons (eVar 8) aNil)) aNil))) aNil))) (eCallJ 0 s__law_dip (aCons (eC (.int 2)) aNil)))) (sSeq (sSet 9 (eBlt minD (aCons (eBin ixD (eVar 2) (eC (.int 0))) (aCons (eBlt maxD (aCons (eC (.int 0)) (aCons (eBin subD (eVar 9) (eCallJ 0 s__law_dip (aCons (eC (.int 2)) aNil))) aNil))) aNil)))) (sSeq (sSet 10 (eCall s__law_first (aCons (eVar 8) (aCons (eCall s__law_far_walk (aCons (eVar 2) (aCons (eVar 9) aNil))) aNil)))) (sIf (tCmp2 neX (eLst (aCons (eCall s_meeting (aCons (eVar 1) (aCons (eBin ixD (eVar 2) (eC (.int 2))) (aCons (eVar 7) (aCons (eVar 9) aNil))))) (aCons (eCall s_meeting (aCons (eVar 1) (aCons (eBin ixD (eVar 2) (eC (.int 2))) (aCons (eVar 9) (aCons (eVar 7) aNil))))) aNil))) (eLst (aCons (eVar 10) (aCons (eVar 10) aNil)))) (sRet (eC (.bl false))) sSkip))))))) (sRet (eC (.bl true))))))
def s__law_great_right : Fn := runFn 3 11 true b__law_great_right
def b__law_other : Sm := (sSeq (sSet 2 (eBin addD (eBin ixD (eBin ixD (eVar 1) (eC (.int 2))) (eC (.int 0))) (eCallJ 0 s__law_dip (aCons (eBin addD (eBin ixD (eBin ixD (eVar 1) (eC (.int 2))) (eC (.int 0))) (eC (.int 1))) aNil)))) (sSeq (sSet 3 (eBin addD (eVar 2) (eCallJ 0 s__law_dip (aCons (eBin addD (eBin ixD (eBin ixD (eVar 1) (eC (.int 2))) (eC (.int 0))) (eC (.int 1))) aNil)))) (sRet (eTup (aCons (eBin ixD (eVar 1) (eC (.int 0))) (aCons (eBin ixD (eVar 1) (eC (.int 1))) (aCons (eTup (aCons (eVar 2) (aCons (eVar 3) (aCons (eBin addD (eBlt maxD (aCons (eVar 3) (aCons (eBin ixD (eBin ixD (eVar 1) (eC (.int 2))) (eC (.int 2))) aNil))) (eCallJ 0 s__law_dip (aCons (eBin addD (eBin ixD (eBin ixD (eVar 1) (eC (.int 2))) (eC (.int 0))) (eC (.int 1))) aNil))) aNil)))) aNil)))))))
def s__law_other : Fn := runFn 2 4 true b__law_other
def b_law : Sm := (sSeq (sFor (iRange1 (aCons (eBlt maxD (aCons (eC (.int 1)) (aCons (eBlt minD (aCons (eC (.int 5)) (aCons (eBlt lenD (aCons (eVar 0) aNil)) aNil))) aNil))) aNil)) (tgName 1) (sSeq (sOwn 2 (eCall s__law_jar (aCons (eVar 0) (aCons (eVar 1) aNil)))) (sFor (iRange1 (aCons (eC (.int 2)) aNil)) (tgName 3) (sSeq (sSet 4 (eCallJ 2 s__law_small (aCons (eC (.int 16)) aNil))) (sSeq (sSet 5 (eCall s__law_heap (aCons (eVar 4) aNil))) (sSeq (sFor (iSeq (eBin addD (eLst (aCons (eVar 4) aNil)) (eCallJ 2 s__law_others (aCons (eVar 4) aNil)))) (tgName 6) (sIf (tNot1 (tVal (eCall s__law_small_right (aCons (eVar 5) (aCons (eVar 6) aNil))))) (sRet (eC (.bl false))) sSkip)) (sFor (iSeq (eLst (aCons (eCallJ 2 s__law_great (aCons (eC (.int 40)) aNil)) (aCons (eCallJ 2 s__law_great (aCons (eC (.int 12)) aNil)) aNil)))) (tgName 4) (sSeq (sSet 5 (eCall s__law_heap (aCons (eVar 4) aNil))) (sIf (tOr2 (tNot1 (tVal (eCallJ 2 s__law_great_right (aCons (eVar 5) (aCons (eVar 4) aNil))))) (tNot1 (tVal (eCallJ 2 s__law_great_right (aCons (eVar 5) (aCons (eCallJ 2 s__law_other (aCons (eVar 4) aNil)) aNil)))))) (sRet (eC (.bl false))) sSkip))))))))) (sSeq (sSet 5 (eMake 0 s_Rowd__initd_ (aCons (eC (.int 20)) (aCons (eLst (aCons (eC (.int 3)) (aCons (eC (.int 7)) (aCons (eC (.int 8)) (aCons (eC (.int 13)) aNil))))) (aCons (eLst (aCons (eC (.int 3)) (aCons (eC (.int 8)) aNil))) aNil))))) (sSeq (sSet 7 (eLst (aCons (eCall s_meeting (aCons (eVar 5) (aCons (eTup (aCons (eC (.int 2)) (aCons (eC (.int 4)) (aCons (eC (.int 5)) aNil)))) (aCons (eC (.int 0)) (aCons (eC (.int 4)) aNil))))) (aCons (eCall s_meeting (aCons (eVar 5) (aCons (eTup (aCons (eC (.int 2)) (aCons (eC (.int 4)) (aCons (eC (.int 5)) aNil)))) (aCons (eC (.int 4)) (aCons (eC (.int 6)) aNil))))) (aCons (eCall s_meeting (aCons (eVar 5) (aCons (eTup (aCons (eC (.int 2)) (aCons (eC (.int 4)) (aCons (eC (.int 5)) aNil)))) (aCons (eC (.int 13)) (aCons (eC (.int 4)) aNil))))) aNil))))) (sSeq (sIf (tOr2 (tCmp2 neX (eVar 7) (eLst (aCons (eC (.int 20)) (aCons (eC (.int 8)) (aCons (eC (.int 13)) aNil))))) (tCmp2 neX (eCall s_meeting (aCons (eVar 5) (aCons (eTup (aCons (eC (.int 2)) (aCons (eC (.int 4)) (aCons (eC (.int 5)) aNil)))) (aCons (eC (.int 9)) (aCons (eC (.int 9)) aNil))))) (eC (.int 9)))) (sRet (eC (.bl false))) sSkip) (sRet (eAnd (eBin eqX (eCallK 0 4 [2, 3, 0, 1] s_meeting aNil (aCons (eC (.int 1)) (aCons (eC (.int 0)) (aCons (eVar 5) (aCons (eTup (aCons (eC (.int 2)) (aCons (eC (.int 4)) (aCons (eC (.int 5)) aNil)))) aNil))))) (eC (.int 3))) (eBin eqX (eCall s_meeting (aCons (eVar 5) (aCons (eTup (aCons (eC (.int 2)) (aCons (eC (.int 4)) (aCons (eC (.int 5)) aNil)))) (aCons (eC (.int 20)) (aCons (eC (.int 0)) aNil))))) (eC (.int 20)))))))))
def s_law : Fn := runFn 1 8 false b_law
def x__law_jar : DefX := ⟨fun K => He.ga K "_law_jar", "_law_jar", "_law_jar", defArgs t__law_jar, defBody t__law_jar, defScope t__law_jar⟩
def x__law_dip : DefX := ⟨fun K => He.ga K "_law_dip", "_law_dip", "_law_dip", defArgs t__law_dip, defBody t__law_dip, defScope t__law_dip⟩
def x__law_three : DefX := ⟨fun K => He.ga K "_law_three", "_law_three", "_law_three", defArgs t__law_three, defBody t__law_three, defScope t__law_three⟩
def x__law_small : DefX := ⟨fun K => He.ga K "_law_small", "_law_small", "_law_small", defArgs t__law_small, defBody t__law_small, defScope t__law_small⟩
def x_is_between : DefX := ⟨fun K => He.ga K "is_between", "is_between", "is_between", defArgs t_is_between, defBody t_is_between, defScope t_is_between⟩
def x_are_ascending : DefX := ⟨fun K => He.ga K "are_ascending", "are_ascending", "are_ascending", defArgs t_are_ascending, defBody t_are_ascending, defScope t_are_ascending⟩
def x_first_at : DefX := ⟨fun K => He.ga K "first_at", "first_at", "first_at", defArgs t_first_at, defBody t_first_at, defScope t_first_at⟩
def x_has_place : DefX := ⟨fun K => He.ga K "has_place", "has_place", "has_place", defArgs t_has_place, defBody t_has_place, defScope t_has_place⟩
def x_are_marks : DefX := ⟨fun K => He.ga K "are_marks", "are_marks", "are_marks", defArgs t_are_marks, defBody t_are_marks, defScope t_are_marks⟩
def x_Rowd__initd_ : DefX := ⟨metX "Row" "__init__", "__init__", "Row.__init__", defArgs t_Rowd__initd_, defBody t_Rowd__initd_, defScope t_Rowd__initd_⟩
def x__law_heap : DefX := ⟨fun K => He.ga K "_law_heap", "_law_heap", "_law_heap", defArgs t__law_heap, defBody t__law_heap, defScope t__law_heap⟩
def x__law_others : DefX := ⟨fun K => He.ga K "_law_others", "_law_others", "_law_others", defArgs t__law_others, defBody t__law_others, defScope t__law_others⟩
def x__law_slow : DefX := ⟨fun K => He.ga K "_law_slow", "_law_slow", "_law_slow", defArgs t__law_slow, defBody t__law_slow, defScope t__law_slow⟩
def x__law_slow_walk : DefX := ⟨fun K => He.ga K "_law_slow_walk", "_law_slow_walk", "_law_slow_walk", defArgs t__law_slow_walk, defBody t__law_slow_walk, defScope t__law_slow_walk⟩
def x__law_first : DefX := ⟨fun K => He.ga K "_law_first", "_law_first", "_law_first", defArgs t__law_first, defBody t__law_first, defScope t__law_first⟩
def x_are_settings : DefX := ⟨fun K => He.ga K "are_settings", "are_settings", "are_settings", defArgs t_are_settings, defBody t_are_settings, defScope t_are_settings⟩
def x_need_settings : DefX := ⟨fun K => He.ga K "need_settings", "need_settings", "need_settings", defArgs t_need_settings, defBody t_need_settings, defScope t_need_settings⟩
def x_need_place : DefX := ⟨fun K => He.ga K "need_place", "need_place", "need_place", defArgs t_need_place, defBody t_need_place, defScope t_need_place⟩
def x_Row_length : DefX := ⟨getX "Row" "length", "length", "Row.length", defArgs t_Row_length, defBody t_Row_length, defScope t_Row_length⟩
def x_need_short : DefX := ⟨fun K => He.ga K "need_short", "need_short", "need_short", defArgs t_need_short, defBody t_need_short, defScope t_need_short⟩
def x_Trackd__initd_ : DefX := ⟨metX "Track" "__init__", "__init__", "Track.__init__", defArgs t_Trackd__initd_, defBody t_Trackd__initd_, defScope t_Trackd__initd_⟩
def x_Row_marks : DefX := ⟨getX "Row" "marks", "marks", "Row.marks", defArgs t_Row_marks, defBody t_Row_marks, defScope t_Row_marks⟩
def x_Row_strict : DefX := ⟨getX "Row" "strict", "strict", "Row.strict", defArgs t_Row_strict, defBody t_Row_strict, defScope t_Row_strict⟩
def x_track_of : DefX := ⟨fun K => He.ga K "track_of", "track_of", "track_of", defArgs t_track_of, defBody t_track_of, defScope t_track_of⟩
def x_Track_next_of : DefX := ⟨metX "Track" "next_of", "next_of", "Track.next_of", defArgs t_Track_next_of, defBody t_Track_next_of, defScope t_Track_next_of⟩
def x_meeting : DefX := ⟨fun K => He.ga K "meeting", "meeting", "meeting", defArgs t_meeting, defBody t_meeting, defScope t_meeting⟩
def x_Rowd__eqd_ : DefX := ⟨metX "Row" "__eq__", "__eq__", "Row.__eq__", defArgs t_Rowd__eqd_, defBody t_Rowd__eqd_, defScope t_Rowd__eqd_⟩
def x__law_small_right : DefX := ⟨fun K => He.ga K "_law_small_right", "_law_small_right", "_law_small_right", defArgs t__law_small_right, defBody t__law_small_right, defScope t__law_small_right⟩
def x__law_great : DefX := ⟨fun K => He.ga K "_law_great", "_law_great", "_law_great", defArgs t__law_great, defBody t__law_great, defScope t__law_great⟩
def x__law_far : DefX := ⟨fun K => He.ga K "_law_far", "_law_far", "_law_far", defArgs t__law_far, defBody t__law_far, defScope t__law_far⟩
def x__law_far_walk : DefX := ⟨fun K => He.ga K "_law_far_walk", "_law_far_walk", "_law_far_walk", defArgs t__law_far_walk, defBody t__law_far_walk, defScope t__law_far_walk⟩
def x__law_great_right : DefX := ⟨fun K => He.ga K "_law_great_right", "_law_great_right", "_law_great_right", defArgs t__law_great_right, defBody t__law_great_right, defScope t__law_great_right⟩
def x__law_other : DefX := ⟨fun K => He.ga K "_law_other", "_law_other", "_law_other", defArgs t__law_other, defBody t__law_other, defScope t__law_other⟩
def x_law : DefX := ⟨fun K => He.ga K "law", "law", "law", defArgs t_law, defBody t_law, defScope t_law⟩
def fnL : List DefX := [x__law_jar, x__law_dip, x__law_three, x__law_small, x_is_between, x_are_ascending, x_first_at, x_has_place, x_are_marks, x_Rowd__initd_, x__law_heap, x__law_others, x__law_slow, x__law_slow_walk, x__law_first, x_are_settings, x_need_settings, x_need_place, x_Row_length, x_need_short, x_Trackd__initd_, x_Row_marks, x_Row_strict, x_track_of, x_Track_next_of, x_meeting, x_Rowd__eqd_, x__law_small_right, x__law_great, x__law_far, x__law_far_walk, x__law_great_right, x__law_other, x_law]
def faL : List Fx := [.fa (.glo "law"), .fa (.free "len"), .fa (.free "min"), .fa (.free "max"), .fa (.free "range"), .fa (.free "abs"), .fa (.free "int"), .fa (.glo "_law_jar"), .fa (.glo "_law_dip"), .fa (.glo "_law_three"), .fa (.glo "_law_small"), .fa (.free "isinstance"), .fa (.free "bool"), .fa (.glo "is_between"), .fa (.free "list"), .fa (.free "all"), .fa (.free "zip"), .fa (.glo "are_ascending"), .fa (.int "MOST_MARKS" 400), .fa (.glo "first_at"), .fa (.glo "has_place"), .fa (.glo "are_marks"), .ki "Row", .fa (.noat "Row" "kept_length"), .fa (.free "tuple"), .fa (.noat "Row" "kept_marks"), .fa (.noat "Row" "kept_strict"), .fa (.glo "Row"), .fa (.mkr "Row"), .fa (.glo "_law_heap"), .fa (.glo "_law_others"), .fa (.glo "_law_slow"), .fa (.glo "_law_slow_walk"), .fa (.glo "_law_first"), .fa (.glo "are_settings"), .fa (.glo "need_settings"), .fa (.glo "need_place"), .prop "Row" "length", .fa (.int "MOST_STEPS" 200), .fa (.glo "need_short"), .ki "Track", .fa (.noat "Track" "last"), .fa (.noat "Track" "marked"), .fa (.noat "Track" "chosen"), .fa (.noat "Track" "greatest"), .fa (.noat "Track" "normal"), .fa (.noat "Track" "least"), .fa (.glo "Track"), .fa (.mkr "Track"), .prop "Row" "marks", .prop "Row" "strict", .fa (.glo "track_of"), .fa (.meth "Track" "next_of"), .fa (.glo "meeting"), .fa (.free "repr"), .isb "Row", .iso "Row" "Row" true, .iso "Track" "Row" false, .spc "Row" "__eq__", .fa (.glo "_law_small_right"), .fa (.free "sorted"), .fa (.free "set"), .fa (.glo "_law_great"), .fa (.glo "_law_far"), .fa (.glo "_law_far_walk"), .fa (.glo "_law_great_right"), .fa (.glo "_law_other")]
structure Mo (K : PySem.W.Frag) (mg : Str → Option Value) : Prop where
  ex : ∃ h : Heap, K.In h ∧ h.Ns mainGlobals mg
  says : SaysX faL fnL K
section
variable {P : Program} {w : World} {K : PySem.W.Frag} {mg : Str → Option Value} {base : Heap}
theorem Mo.fr (M : Mo K mg) (i : Nat) {x : Str} (h : faL[i]? = some (.fa (.free x)) := by rfl) : mg x = none := let ⟨_, a, b⟩ := M.ex; He.free_ok a b (M.says.fact i h)
theorem Mo.gl (M : Mo K mg) (i : Nat) {x : Str} (h : faL[i]? = some (.fa (.glo x)) := by rfl) : mg x = some (.ref (He.ga K x)) := let ⟨_, a, b⟩ := M.ex; He.glo_ok a b (M.says.fact i h)
theorem Mo.it (M : Mo K mg) (n : Nat) {x : Str} {i : Int} (h : faL[n]? = some (.fa (.int x i)) := by rfl) : ∃ t, mg x = some (.int i t) := let ⟨_, a, b⟩ := M.ex; He.int_ok a b (M.says.fact n h)
theorem g_law (M : Mo K mg) : mg "law" = some (.ref (He.ga K "law")) := M.gl 0
theorem f_len (M : Mo K mg) : mg "len" = none := M.fr 1
theorem b_len : bootBuiltins "len" = some (.builtin "len") := by decide +kernel
theorem f_min (M : Mo K mg) : mg "min" = none := M.fr 2
theorem b_min : bootBuiltins "min" = some (.builtin "min") := by decide +kernel
theorem f_max (M : Mo K mg) : mg "max" = none := M.fr 3
theorem b_max : bootBuiltins "max" = some (.builtin "max") := by decide +kernel
theorem f_range (M : Mo K mg) : mg "range" = none := M.fr 4
theorem f_abs (M : Mo K mg) : mg "abs" = none := M.fr 5
theorem b_abs : bootBuiltins "abs" = some (.builtin "abs") := by decide +kernel
theorem f_int (M : Mo K mg) : mg "int" = none := M.fr 6
theorem b_int : bootBuiltins "int" = some (.type "int") := by decide +kernel
theorem g__law_jar (M : Mo K mg) : mg "_law_jar" = some (.ref (He.ga K "_law_jar")) := M.gl 7
theorem g__law_dip (M : Mo K mg) : mg "_law_dip" = some (.ref (He.ga K "_law_dip")) := M.gl 8
theorem g__law_three (M : Mo K mg) : mg "_law_three" = some (.ref (He.ga K "_law_three")) := M.gl 9
theorem g__law_small (M : Mo K mg) : mg "_law_small" = some (.ref (He.ga K "_law_small")) := M.gl 10
theorem f_isinstance (M : Mo K mg) : mg "isinstance" = none := M.fr 11
theorem f_bool (M : Mo K mg) : mg "bool" = none := M.fr 12
theorem b_bool : bootBuiltins "bool" = some (.type "bool") := by decide +kernel
theorem g_is_between (M : Mo K mg) : mg "is_between" = some (.ref (He.ga K "is_between")) := M.gl 13
theorem f_list (M : Mo K mg) : mg "list" = none := M.fr 14
theorem b_list : bootBuiltins "list" = some (.type "list") := by decide +kernel
theorem f_all (M : Mo K mg) : mg "all" = none := M.fr 15
theorem b_all : bootBuiltins "all" = some (.builtin "all") := by decide +kernel
theorem f_zip (M : Mo K mg) : mg "zip" = none := M.fr 16
theorem g_are_ascending (M : Mo K mg) : mg "are_ascending" = some (.ref (He.ga K "are_ascending")) := M.gl 17
theorem c_MOST_MARKS (M : Mo K mg) : ∃ t, mg "MOST_MARKS" = some (.int 400 t) := M.it 18
theorem g_first_at (M : Mo K mg) : mg "first_at" = some (.ref (He.ga K "first_at")) := M.gl 19
theorem g_has_place (M : Mo K mg) : mg "has_place" = some (.ref (He.ga K "has_place")) := M.gl 20
theorem g_are_marks (M : Mo K mg) : mg "are_marks" = some (.ref (He.ga K "are_marks")) := M.gl 21
theorem ki_Row (M : Mo K mg) : KI K (He.ga K "Row") := ki_ok (M.says.fact 22)
theorem na_Row_kept_length (M : Mo K mg) : NoAttr K (He.ga K "Row") "kept_length" := He.noat_ok (M.says.fact 23 (f := .fa (.noat "Row" "kept_length")))
theorem f_tuple (M : Mo K mg) : mg "tuple" = none := M.fr 24
theorem b_tuple : bootBuiltins "tuple" = some (.type "tuple") := by decide +kernel
theorem na_Row_kept_marks (M : Mo K mg) : NoAttr K (He.ga K "Row") "kept_marks" := He.noat_ok (M.says.fact 25 (f := .fa (.noat "Row" "kept_marks")))
theorem na_Row_kept_strict (M : Mo K mg) : NoAttr K (He.ga K "Row") "kept_strict" := He.noat_ok (M.says.fact 26 (f := .fa (.noat "Row" "kept_strict")))
theorem g_Row (M : Mo K mg) : mg "Row" = some (.ref (He.ga K "Row")) := M.gl 27
theorem g__law_heap (M : Mo K mg) : mg "_law_heap" = some (.ref (He.ga K "_law_heap")) := M.gl 29
theorem g__law_others (M : Mo K mg) : mg "_law_others" = some (.ref (He.ga K "_law_others")) := M.gl 30
theorem g__law_slow (M : Mo K mg) : mg "_law_slow" = some (.ref (He.ga K "_law_slow")) := M.gl 31
theorem g__law_slow_walk (M : Mo K mg) : mg "_law_slow_walk" = some (.ref (He.ga K "_law_slow_walk")) := M.gl 32
theorem g__law_first (M : Mo K mg) : mg "_law_first" = some (.ref (He.ga K "_law_first")) := M.gl 33
theorem g_are_settings (M : Mo K mg) : mg "are_settings" = some (.ref (He.ga K "are_settings")) := M.gl 34
theorem g_need_settings (M : Mo K mg) : mg "need_settings" = some (.ref (He.ga K "need_settings")) := M.gl 35
theorem g_need_place (M : Mo K mg) : mg "need_place" = some (.ref (He.ga K "need_place")) := M.gl 36
theorem c_MOST_STEPS (M : Mo K mg) : ∃ t, mg "MOST_STEPS" = some (.int 200 t) := M.it 38
theorem g_need_short (M : Mo K mg) : mg "need_short" = some (.ref (He.ga K "need_short")) := M.gl 39
theorem ki_Track (M : Mo K mg) : KI K (He.ga K "Track") := ki_ok (M.says.fact 40)
theorem na_Track_last (M : Mo K mg) : NoAttr K (He.ga K "Track") "last" := He.noat_ok (M.says.fact 41 (f := .fa (.noat "Track" "last")))
theorem na_Track_marked (M : Mo K mg) : NoAttr K (He.ga K "Track") "marked" := He.noat_ok (M.says.fact 42 (f := .fa (.noat "Track" "marked")))
theorem na_Track_chosen (M : Mo K mg) : NoAttr K (He.ga K "Track") "chosen" := He.noat_ok (M.says.fact 43 (f := .fa (.noat "Track" "chosen")))
theorem na_Track_greatest (M : Mo K mg) : NoAttr K (He.ga K "Track") "greatest" := He.noat_ok (M.says.fact 44 (f := .fa (.noat "Track" "greatest")))
theorem na_Track_normal (M : Mo K mg) : NoAttr K (He.ga K "Track") "normal" := He.noat_ok (M.says.fact 45 (f := .fa (.noat "Track" "normal")))
theorem na_Track_least (M : Mo K mg) : NoAttr K (He.ga K "Track") "least" := He.noat_ok (M.says.fact 46 (f := .fa (.noat "Track" "least")))
theorem g_Track (M : Mo K mg) : mg "Track" = some (.ref (He.ga K "Track")) := M.gl 47
theorem g_track_of (M : Mo K mg) : mg "track_of" = some (.ref (He.ga K "track_of")) := M.gl 51
theorem g_meeting (M : Mo K mg) : mg "meeting" = some (.ref (He.ga K "meeting")) := M.gl 53
theorem f_repr (M : Mo K mg) : mg "repr" = none := M.fr 54
theorem b_repr : bootBuiltins "repr" = some (.builtin "repr") := by decide +kernel
theorem isb_Row (M : Mo K mg) : ∀ t : Bty, PySem.W.kitOne K (.type t.nm) (.ref (He.ga K "Row")) = some false := isb_ok (M.says.fact 55)
theorem g__law_small_right (M : Mo K mg) : mg "_law_small_right" = some (.ref (He.ga K "_law_small_right")) := M.gl 59
theorem f_sorted (M : Mo K mg) : mg "sorted" = none := M.fr 60
theorem b_sorted : bootBuiltins "sorted" = some (.builtin "sorted") := by decide +kernel
theorem f_set (M : Mo K mg) : mg "set" = none := M.fr 61
theorem b_set : bootBuiltins "set" = some (.type "set") := by decide +kernel
theorem g__law_great (M : Mo K mg) : mg "_law_great" = some (.ref (He.ga K "_law_great")) := M.gl 62
theorem g__law_far (M : Mo K mg) : mg "_law_far" = some (.ref (He.ga K "_law_far")) := M.gl 63
theorem g__law_far_walk (M : Mo K mg) : mg "_law_far_walk" = some (.ref (He.ga K "_law_far_walk")) := M.gl 64
theorem g__law_great_right (M : Mo K mg) : mg "_law_great_right" = some (.ref (He.ga K "_law_great_right")) := M.gl 65
theorem g__law_other (M : Mo K mg) : mg "_law_other" = some (.ref (He.ga K "_law_other")) := M.gl 66
theorem iso_Row (M : Mo K mg) : ∀ k b, tab_Row k = some b → KI K ((gOf K).cl k) ∧ PySem.W.kitOne K (.ref ((gOf K).cl k)) (.ref (He.ga K "Row")) = some b
  | 0, b, h => by cases h; exact ⟨ki_Row M, iso_ok (M.says.fact 56)⟩
  | 1, b, h => by cases h; exact ⟨ki_Track M, iso_ok (M.says.fact 57)⟩
  | n + 2, b, h => by cases h
theorem fx__law_jar (M : Mo K mg) : ∃ fd, FnG P w K mg base (gOf K) 1 (x__law_jar.adr K) fd ["script", "k"] false s__law_jar ∧ Binds K fd ["script", "k"] [] ∧ FunD K x__law_jar.name x__law_jar.qual x__law_jar.params x__law_jar.body x__law_jar.scope [] [] (x__law_jar.adr K) fd := by
  obtain ⟨fd, F⟩ := M.says.def_ 0 (d := x__law_jar)
  refine ⟨fd, funG F sc__law_jar (fun cdv A outer s H hr hgd => ?bd), (F.bindsN fun _ _ _ _ _ _ us hl => match us, hl with | [_, _], _ => rfl), F⟩
  case bd => exact ⟨_, by decide, (dss_cons (ds_set rfl sc__law_jar.nd (de_if rfl (dt_cmp rfl op_lt s_lt (de_var rfl) (de_callB rfl call_len (s_len rfl) (f_len M) b_len (da_cons rfl (de_var rfl) (da_nil rfl))) (by first | exact nomark _ | rfl)) (de_callB rfl call_abs s_abs (f_abs M) b_abs (da_cons rfl (de_ix rfl (de_var rfl) (de_var rfl)) (da_nil rfl))) (de_int rfl))) (dss_one (ds_ret rfl (de_lst rfl (da_cons rfl (de_callB rfl (o_max rfl) (s_max rfl) (f_max M) b_max (da_cons rfl (de_int rfl) (da_cons rfl (de_bin rfl op_sub s_sub (de_var rfl) (de_bin rfl o_pow s_pow (de_int rfl) (de_int rfl))) (da_nil rfl)))) (da_cons rfl (de_bin rfl o_add (s_add rfl) (de_bin rfl o_mulX (s_mulX rfl) (de_bin rfl op_mod s_mod (de_callT rfl call_int1 s_int (f_int M) b_int (da_cons rfl (de_var rfl) (da_nil rfl))) (de_bin rfl o_add (s_add rfl) (de_bin rfl o_pow s_pow (de_int rfl) (de_int rfl)) (de_int rfl))) (de_int rfl)) (de_bin rfl o_mulX (s_mulX rfl) (de_int rfl) (de_var rfl))) (da_cons rfl (de_int rfl) (da_nil rfl))))))))⟩
theorem ok__law_jar (M : Mo K mg) : Kn P w K mg base (gOf K) "_law_jar" 1 2 false s__law_jar := let ⟨fd, F, b, D⟩ := fx__law_jar M; ⟨_, fd, _, rfl, F, g__law_jar M, D.kp, b⟩
theorem fx__law_dip (M : Mo K mg) : ∃ fd, FnG P w K mg base (gOf K) 1 (x__law_dip.adr K) fd ["jar", "many"] true s__law_dip ∧ Binds K fd ["jar", "many"] [] ∧ FunD K x__law_dip.name x__law_dip.qual x__law_dip.params x__law_dip.body x__law_dip.scope [] [] (x__law_dip.adr K) fd := by
  obtain ⟨fd, F⟩ := M.says.def_ 1 (d := x__law_dip)
  refine ⟨fd, funG F sc__law_dip (fun cdv A outer s H hr hgd => ?bd), (F.bindsN fun _ _ _ _ _ _ us hl => match us, hl with | [_, _], _ => rfl), F⟩
  case bd => exact ⟨_, by decide, (dss_cons (ds_if rfl (dt_cmp rfl op_gt s_gt (de_ixO rfl (k := _) (hk := (de_int rfl))) (de_int rfl) (by first | exact nomark _ | rfl)) (dss_cons (ds_set rfl sc__law_dip.nd (de_bin rfl op_mod s_mod (de_callT rfl call_int1 s_int (f_int M) b_int (da_cons rfl (de_ixO rfl (k := _) (hk := (de_int rfl))) (da_nil rfl))) (de_var rfl))) (dss_cons (ds_put rfl (he := (de_bin rfl op_fdivW s_div (de_ixO rfl (k := _) (hk := (de_int rfl))) (de_var rfl))) (hk := (de_int rfl))) (dss_one (ds_ret rfl (de_var rfl))))) dss_nil) (dss_cons (ds_put rfl (he := (de_bin rfl o_add (s_add rfl) (de_ixO rfl (k := _) (hk := (de_int rfl))) (de_int rfl))) (hk := (de_int rfl))) (dss_cons (ds_set rfl sc__law_dip.nd (de_bin rfl op_mod s_mod (de_callT rfl call_int1 s_int (f_int M) b_int (da_cons rfl (de_bin rfl o_pow s_pow (de_bin rfl o_add (s_add rfl) (de_ixO rfl (k := _) (hk := (de_int rfl))) (de_bin rfl o_mulX (s_mulX rfl) (de_int rfl) (de_ixO rfl (k := _) (hk := (de_int rfl))))) (de_int rfl)) (da_nil rfl))) (de_bin rfl o_add (s_add rfl) (de_bin rfl o_pow s_pow (de_int rfl) (de_int rfl)) (de_int rfl)))) (dss_cons (ds_set rfl sc__law_dip.nd (de_bin rfl op_mod s_mod (de_callT rfl call_int1 s_int (f_int M) b_int (da_cons rfl (de_bin rfl o_pow s_pow (de_bin rfl o_add (s_add rfl) (de_var rfl) (de_bin rfl o_mulX (s_mulX rfl) (de_int rfl) (de_ixO rfl (k := _) (hk := (de_int rfl))))) (de_int rfl)) (da_nil rfl))) (de_bin rfl o_add (s_add rfl) (de_bin rfl o_pow s_pow (de_int rfl) (de_int rfl)) (de_int rfl)))) (dss_one (ds_ret rfl (de_bin rfl op_mod s_mod (de_callT rfl call_int1 s_int (f_int M) b_int (da_cons rfl (de_bin rfl op_fdivW s_div (de_var rfl) (de_int rfl)) (da_nil rfl))) (de_var rfl))))))))⟩
theorem ok__law_dip (M : Mo K mg) : Kn P w K mg base (gOf K) "_law_dip" 1 2 true s__law_dip := let ⟨fd, F, b, D⟩ := fx__law_dip M; ⟨_, fd, _, rfl, F, g__law_dip M, D.kp, b⟩
theorem fx__law_three (M : Mo K mg) : ∃ fd, FnG P w K mg base (gOf K) 2 (x__law_three.adr K) fd ["jar", "wide"] true s__law_three ∧ Binds K fd ["jar", "wide"] [] ∧ FunD K x__law_three.name x__law_three.qual x__law_three.params x__law_three.body x__law_three.scope [] [] (x__law_three.adr K) fd := by
  obtain ⟨fd, F⟩ := M.says.def_ 2 (d := x__law_three)
  refine ⟨fd, funG F sc__law_three (fun cdv A outer s H hr hgd => ?bd), (F.bindsN fun _ _ _ _ _ _ us hl => match us, hl with | [_, _], _ => rfl), F⟩
  case bd => exact ⟨_, by decide, (dss_cons (ds_set rfl sc__law_three.nd (de_bin rfl o_add (s_add rfl) (de_int rfl) (de_callJ rfl (ok__law_dip M) (hr.mono (by decide)) hgd (da_cons rfl (de_var rfl) (da_nil rfl))))) (dss_cons (ds_set rfl sc__law_three.nd (de_bin rfl o_add (s_add rfl) (de_var rfl) (de_ix rfl (de_lst rfl (da_cons rfl (de_int rfl) (da_cons rfl (de_callJ rfl (ok__law_dip M) (hr.mono (by decide)) hgd (da_cons rfl (de_var rfl) (da_nil rfl))) (da_cons rfl (de_callJ rfl (ok__law_dip M) (hr.mono (by decide)) hgd (da_cons rfl (de_int rfl) (da_nil rfl))) (da_nil rfl))))) (de_callJ rfl (ok__law_dip M) (hr.mono (by decide)) hgd (da_cons rfl (de_int rfl) (da_nil rfl)))))) (dss_one (ds_ret rfl (de_tup rfl (da_cons rfl (de_var rfl) (da_cons rfl (de_var rfl) (da_cons rfl (de_bin rfl o_add (s_add rfl) (de_var rfl) (de_ix rfl (de_lst rfl (da_cons rfl (de_int rfl) (da_cons rfl (de_callJ rfl (ok__law_dip M) (hr.mono (by decide)) hgd (da_cons rfl (de_var rfl) (da_nil rfl))) (da_cons rfl (de_bin rfl o_add (s_add rfl) (de_int rfl) (de_callJ rfl (ok__law_dip M) (hr.mono (by decide)) hgd (da_cons rfl (de_int rfl) (da_nil rfl)))) (da_nil rfl))))) (de_callJ rfl (ok__law_dip M) (hr.mono (by decide)) hgd (da_cons rfl (de_int rfl) (da_nil rfl))))) (da_nil rfl)))))))))⟩
theorem ok__law_three (M : Mo K mg) : Kn P w K mg base (gOf K) "_law_three" 2 2 true s__law_three := let ⟨fd, F, b, D⟩ := fx__law_three M; ⟨_, fd, _, rfl, F, g__law_three M, D.kp, b⟩
theorem fx__law_small (M : Mo K mg) : ∃ fd, FnG P w K mg base (gOf K) 3 (x__law_small.adr K) fd ["jar", "most"] true s__law_small ∧ Binds K fd ["jar", "most"] [] ∧ FunD K x__law_small.name x__law_small.qual x__law_small.params x__law_small.body x__law_small.scope [] [] (x__law_small.adr K) fd := by
  obtain ⟨fd, F⟩ := M.says.def_ 3 (d := x__law_small)
  refine ⟨fd, funG F sc__law_small (fun cdv A outer s H hr hgd => ?bd), (F.bindsN fun _ _ _ _ _ _ us hl => match us, hl with | [_, _], _ => rfl), F⟩
  case bd => exact ⟨_, by decide, (dss_cons (ds_parF3 rfl rfl sc__law_small.nd (df_cons (k := false) rfl (de_bin rfl o_add (s_add rfl) (de_int rfl) (de_callJ rfl (ok__law_dip M) (hr.mono (by decide)) hgd (da_cons rfl (de_var rfl) (da_nil rfl)))) (df_cons (k := false) rfl (de_callJ rfl (ok__law_dip M) (hr.mono (by decide)) hgd (da_cons rfl (de_int rfl) (da_nil rfl))) (df_cons (k := true) rfl (de_lst rfl (da_nil rfl)) (df_nil rfl))))) (dss_cons (ds_for rfl PassesOwn.never rfl (di_range2 rfl (f_range M) (da_cons rfl (de_int rfl) (da_cons rfl (de_var rfl) (da_nil rfl)))) (dg_name rfl (pg_name sc__law_small.nd rfl (by first | exact Or.inl rfl | exact Or.inr rfl))) (dss_cons (ds_set rfl sc__law_small.nd (de_if rfl (dt_cmp rfl (o_eqX hr.units) (s_eqX rfl) (de_var rfl) (de_int rfl) (by first | exact nomark _ | rfl)) (de_bin rfl o_add (s_add rfl) (de_int rfl) (de_callJ rfl (ok__law_dip M) (hr.mono (by decide)) hgd (da_cons rfl (de_int rfl) (da_nil rfl)))) (de_callB rfl (o_max rfl) (s_max rfl) (f_max M) b_max (da_cons rfl (de_int rfl) (da_cons rfl (de_bin rfl op_sub s_sub (de_callJ rfl (ok__law_dip M) (hr.mono (by decide)) hgd (da_cons rfl (de_int rfl) (da_nil rfl))) (de_int rfl)) (da_nil rfl)))))) (dss_one (ds_if rfl (dt_w (dw_and rfl (dt_cmp rfl op_gt s_gt (de_var rfl) (de_int rfl) (by first | exact nomark _ | rfl)) (dw_and1 (dt_cmp rfl (o_neX hr.units) (s_neX rfl) (de_var rfl) (de_int rfl) (by first | exact nomark _ | rfl))))) (dss_one (ds_app rfl (ha := (da_cons rfl (de_tup rfl (da_cons rfl (de_var rfl) (da_cons rfl (de_var rfl) (da_nil rfl)))) (da_nil rfl))))) dss_nil)))) (dss_one (ds_fz (i := 4) (ds_ret rfl (de_tup rfl (da_cons rfl (de_var rfl) (da_cons rfl (de_var rfl) (da_cons rfl (de_callJ rfl (ok__law_three M) (hr.mono (by decide)) hgd (da_cons rfl (de_int rfl) (da_nil rfl))) (da_nil rfl))))))))))⟩
theorem ok__law_small (M : Mo K mg) : Kn P w K mg base (gOf K) "_law_small" 3 2 true s__law_small := let ⟨fd, F, b, D⟩ := fx__law_small M; ⟨_, fd, _, rfl, F, g__law_small M, D.kp, b⟩
theorem fx_is_between (M : Mo K mg) : ∃ fd, FnG P w K mg base (gOf K) 1 (x_is_between.adr K) fd ["value", "low", "high"] false s_is_between ∧ Binds K fd ["value", "low", "high"] [] ∧ FunD K x_is_between.name x_is_between.qual x_is_between.params x_is_between.body x_is_between.scope [] [] (x_is_between.adr K) fd := by
  obtain ⟨fd, F⟩ := M.says.def_ 4 (d := x_is_between)
  refine ⟨fd, funG F sc_is_between (fun cdv A outer s H hr hgd => ?bd), (F.bindsN fun _ _ _ _ _ _ us hl => match us, hl with | [_, _, _], _ => rfl), F⟩
  case bd => exact ⟨_, by decide, (dss_cons (ds_if rfl (dt_w (dw_or rfl (dt_not rfl (dt_val rfl (de_isB (t := .int) (hb := b_int) rfl (de_var rfl) (f_isinstance M) (f_int M)))) (dw_or1 (dt_val rfl (de_isB (t := .bool) (hb := b_bool) rfl (de_var rfl) (f_isinstance M) (f_bool M)))))) (dss_one (ds_ret rfl (de_bl rfl))) dss_nil) (dss_one (ds_ret rfl (de_and rfl (de_cmp rfl op_le s_le (de_var rfl) (de_var rfl) (by first | exact nomark _ | rfl)) (de_one (de_or rfl (de_cmp rfl op_isN s_isN (de_var rfl) (de_non rfl) (by first | exact nomark _ | rfl)) (de_one (de_cmp rfl op_le s_le (de_var rfl) (de_var rfl) (by first | exact nomark _ | rfl)))))))))⟩
theorem ok_is_between (M : Mo K mg) : Kn P w K mg base (gOf K) "is_between" 1 3 false s_is_between := let ⟨fd, F, b, D⟩ := fx_is_between M; ⟨_, fd, _, rfl, F, g_is_between M, D.kp, b⟩
theorem fx_are_ascending (M : Mo K mg) : ∃ fd, FnG P w K mg base (gOf K) 2 (x_are_ascending.adr K) fd ["value", "low", "high"] false s_are_ascending ∧ Binds K fd ["value", "low", "high"] [] ∧ FunD K x_are_ascending.name x_are_ascending.qual x_are_ascending.params x_are_ascending.body x_are_ascending.scope [] [] (x_are_ascending.adr K) fd := by
  obtain ⟨fd, F⟩ := M.says.def_ 5 (d := x_are_ascending)
  refine ⟨fd, funG F sc_are_ascending (fun cdv A outer s H hr hgd => ?bd), (F.bindsN fun _ _ _ _ _ _ us hl => match us, hl with | [_, _, _], _ => rfl), F⟩
  case bd => exact ⟨_, by decide, (dss_cons (ds_if rfl (dt_w (dw_or rfl (dt_not rfl (dt_val rfl (de_isB (t := .list) (hb := b_list) rfl (de_var rfl) (f_isinstance M) (f_list M)))) (dw_or1 (dt_not rfl (dt_val rfl (de_callB rfl (cr_all rfl) (s_all rfl) (f_all M) b_all (da_cons rfl (de_lc (own := [("one", 3)]) rfl rfl sc_are_ascending.nd (di_seq rfl (de_var rfl)) (show BlkOk n_are_ascending (defScope t_are_ascending) _ [("one", 3)] from blkOk (by decide +kernel)) (fun s H C cl fp => (dg_name rfl (pg_name sc_are_ascending.nd rfl (by first | exact Or.inl rfl | exact Or.inr rfl)))) (fun s H C cl fp => dts_nil) (fun s H C cl fp => (de_call rfl (ok_is_between M) (hr.mono (by decide)) hgd (da_cons rfl (de_var rfl) (da_cons rfl (de_var rfl) (da_cons rfl (de_var rfl) (da_nil rfl))))))) (da_nil rfl)))))))) (dss_one (ds_ret rfl (de_bl rfl))) dss_nil) (dss_one (ds_ret rfl (de_callB rfl (cr_all rfl) (s_all rfl) (f_all M) b_all (da_cons rfl (de_lc (own := [("one", 3), ("other", 4)]) rfl rfl sc_are_ascending.nd (di_zip rfl (f_zip M) (da_cons rfl (de_var rfl) (da_cons rfl (de_sl rfl (de_var rfl) (do_some (de_int rfl)) do_none) (da_nil rfl)))) (show BlkOk n_are_ascending (defScope t_are_ascending) _ [("one", 3), ("other", 4)] from blkOk (by decide +kernel)) (fun s H C cl fp => (dg_tup rfl rfl (gn_cons (pg_name sc_are_ascending.nd rfl (by first | exact Or.inl rfl | exact Or.inr rfl)) (gn_cons (pg_name sc_are_ascending.nd rfl (by first | exact Or.inl rfl | exact Or.inr rfl)) gn_nil)))) (fun s H C cl fp => dts_nil) (fun s H C cl fp => (de_cmp rfl op_lt s_lt (de_var rfl) (de_var rfl) (by first | exact nomark _ | rfl)))) (da_nil rfl))))))⟩
theorem ok_are_ascending (M : Mo K mg) : Kn P w K mg base (gOf K) "are_ascending" 2 3 false s_are_ascending := let ⟨fd, F, b, D⟩ := fx_are_ascending M; ⟨_, fd, _, rfl, F, g_are_ascending M, D.kp, b⟩
theorem fx_first_at (M : Mo K mg) : ∃ fd, FnG P w K mg base (gOf K) 1 (x_first_at.adr K) fd ["places", "least"] false s_first_at ∧ Binds K fd ["places", "least"] [] ∧ FunD K x_first_at.name x_first_at.qual x_first_at.params x_first_at.body x_first_at.scope [] [] (x_first_at.adr K) fd := by
  obtain ⟨fd, F⟩ := M.says.def_ 6 (d := x_first_at)
  refine ⟨fd, funG F sc_first_at (fun cdv A outer s H hr hgd => ?bd), (F.bindsN fun _ _ _ _ _ _ us hl => match us, hl with | [_, _], _ => rfl), F⟩
  case bd => exact ⟨_, by decide, (dss_cons (ds_par rfl rfl sc_first_at.nd (da_cons rfl (de_int rfl) (da_cons rfl (de_callB rfl call_len (s_len rfl) (f_len M) b_len (da_cons rfl (de_var rfl) (da_nil rfl))) (da_nil rfl)))) (dss_cons (ds_while rfl PassesOwn.never (dt_cmp rfl op_lt s_lt (de_var rfl) (de_var rfl) (by first | exact nomark _ | rfl)) (dss_cons (ds_set rfl sc_first_at.nd (de_bin rfl op_fdivW s_div (de_bin rfl o_add (s_add rfl) (de_var rfl) (de_var rfl)) (de_int rfl))) (dss_one (ds_if rfl (dt_cmp rfl op_lt s_lt (de_ix rfl (de_var rfl) (de_var rfl)) (de_var rfl) (by first | exact nomark _ | rfl)) (dss_one (ds_set rfl sc_first_at.nd (de_bin rfl o_add (s_add rfl) (de_var rfl) (de_int rfl)))) (dss_one (ds_set rfl sc_first_at.nd (de_var rfl))))))) (dss_one (ds_ret rfl (de_var rfl)))))⟩
theorem ok_first_at (M : Mo K mg) : Kn P w K mg base (gOf K) "first_at" 1 2 false s_first_at := let ⟨fd, F, b, D⟩ := fx_first_at M; ⟨_, fd, _, rfl, F, g_first_at M, D.kp, b⟩
theorem fx_has_place (M : Mo K mg) : ∃ fd, FnG P w K mg base (gOf K) 2 (x_has_place.adr K) fd ["places", "place"] false s_has_place ∧ Binds K fd ["places", "place"] [] ∧ FunD K x_has_place.name x_has_place.qual x_has_place.params x_has_place.body x_has_place.scope [] [] (x_has_place.adr K) fd := by
  obtain ⟨fd, F⟩ := M.says.def_ 7 (d := x_has_place)
  refine ⟨fd, funG F sc_has_place (fun cdv A outer s H hr hgd => ?bd), (F.bindsN fun _ _ _ _ _ _ us hl => match us, hl with | [_, _], _ => rfl), F⟩
  case bd => exact ⟨_, by decide, (dss_cons (ds_set rfl sc_has_place.nd (de_call rfl (ok_first_at M) (hr.mono (by decide)) hgd (da_cons rfl (de_var rfl) (da_cons rfl (de_var rfl) (da_nil rfl))))) (dss_one (ds_ret rfl (de_and rfl (de_cmp rfl op_lt s_lt (de_var rfl) (de_callB rfl call_len (s_len rfl) (f_len M) b_len (da_cons rfl (de_var rfl) (da_nil rfl))) (by first | exact nomark _ | rfl)) (de_one (de_cmp rfl (o_eqX hr.units) (s_eqX rfl) (de_ix rfl (de_var rfl) (de_var rfl)) (de_var rfl) (by first | exact nomark _ | rfl)))))))⟩
theorem ok_has_place (M : Mo K mg) : Kn P w K mg base (gOf K) "has_place" 2 2 false s_has_place := let ⟨fd, F, b, D⟩ := fx_has_place M; ⟨_, fd, _, rfl, F, g_has_place M, D.kp, b⟩
theorem fx_are_marks (M : Mo K mg) : ∃ fd, FnG P w K mg base (gOf K) 3 (x_are_marks.adr K) fd ["value", "chosen", "low", "high"] false s_are_marks ∧ Binds K fd ["value", "chosen", "low", "high"] [] ∧ FunD K x_are_marks.name x_are_marks.qual x_are_marks.params x_are_marks.body x_are_marks.scope [] [] (x_are_marks.adr K) fd := by
  obtain ⟨fd, F⟩ := M.says.def_ 8 (d := x_are_marks)
  refine ⟨fd, funG F sc_are_marks (fun cdv A outer s H hr hgd => ?bd), (F.bindsN fun _ _ _ _ _ _ us hl => match us, hl with | [_, _, _, _], _ => rfl), F⟩
  case bd => exact ⟨_, by decide, (dss_cons (ds_if rfl (dt_w (dw_or rfl (dt_not rfl (dt_val rfl (de_call rfl (ok_are_ascending M) (hr.mono (by decide)) hgd (da_cons rfl (de_var rfl) (da_cons rfl (de_var rfl) (da_cons rfl (de_var rfl) (da_nil rfl))))))) (dw_or rfl (dt_cmp rfl op_gt s_gt (de_callB rfl call_len (s_len rfl) (f_len M) b_len (da_cons rfl (de_var rfl) (da_nil rfl))) (de_glob (v := .int 400) rfl (c_MOST_MARKS M).choose_spec ⟨_, rfl⟩ (fun _ _ => .int _)) (by first | exact nomark _ | rfl)) (dw_or1 (dt_not rfl (dt_val rfl (de_call rfl (ok_are_ascending M) (hr.mono (by decide)) hgd (da_cons rfl (de_var rfl) (da_cons rfl (de_var rfl) (da_cons rfl (de_var rfl) (da_nil rfl))))))))))) (dss_one (ds_ret rfl (de_bl rfl))) dss_nil) (dss_one (ds_ret rfl (de_callB rfl (cr_all rfl) (s_all rfl) (f_all M) b_all (da_cons rfl (de_lc (own := [("place", 4)]) rfl rfl sc_are_marks.nd (di_seq rfl (de_var rfl)) (show BlkOk n_are_marks (defScope t_are_marks) _ [("place", 4)] from blkOk (by decide +kernel)) (fun s H C cl fp => (dg_name rfl (pg_name sc_are_marks.nd rfl (by first | exact Or.inl rfl | exact Or.inr rfl)))) (fun s H C cl fp => dts_nil) (fun s H C cl fp => (de_call rfl (ok_has_place M) (hr.mono (by decide)) hgd (da_cons rfl (de_var rfl) (da_cons rfl (de_var rfl) (da_nil rfl)))))) (da_nil rfl))))))⟩
theorem ok_are_marks (M : Mo K mg) : Kn P w K mg base (gOf K) "are_marks" 3 4 false s_are_marks := let ⟨fd, F, b, D⟩ := fx_are_marks M; ⟨_, fd, _, rfl, F, g_are_marks M, D.kp, b⟩
theorem fx_Rowd__initd_ (M : Mo K mg) : ∃ fd, FnI P w K mg base (gOf K) 4 (metX "Row" "__init__" K) fd ["self", "length", "marks", "strict"] 0 s_Rowd__initd_ ∧ Binds K fd ["self", "length", "marks", "strict"] [] := by
  obtain ⟨fd, F⟩ := M.says.def_ 9 (d := x_Rowd__initd_)
  refine ⟨fd, funGI F sc_Rowd__initd_ (fun cdv A outer s H hr hgd => ?bd), (F.bindsN fun _ _ _ _ _ _ us hl => match us, hl with | [_, _, _, _], _ => rfl)⟩
  case bd => exact ⟨_, by decide, (dss_cons (ds_if rfl (dt_w (dw_or rfl (dt_not rfl (dt_val rfl (de_call rfl (ok_is_between M) (hr.mono (by decide)) hgd (da_cons rfl (de_var rfl) (da_cons rfl (de_int rfl) (da_cons rfl (de_non rfl) (da_nil rfl))))))) (dw_or1 (dt_not rfl (dt_val rfl (de_call rfl (ok_are_marks M) (hr.mono (by decide)) hgd (da_cons rfl (de_var rfl) (da_cons rfl (de_var rfl) (da_cons rfl (de_int rfl) (da_cons rfl (de_bin rfl op_sub s_sub (de_var rfl) (de_int rfl)) (da_nil rfl))))))))))) (dss_one ds_never) dss_nil) (dss_cons (ds_fld rfl (pe_var rfl (Or.inl rfl)) (ki_Row M).cl (na_Row_kept_length M) (de_var rfl)) (dss_cons (ds_fld rfl (pe_var rfl (Or.inl rfl)) (ki_Row M).cl (na_Row_kept_marks M) (de_callT rfl call_tuple_of (s_tuple rfl) (f_tuple M) b_tuple (da_cons rfl (de_var rfl) (da_nil rfl)))) (dss_one (ds_fld rfl (pe_var rfl (Or.inl rfl)) (ki_Row M).cl (na_Row_kept_strict M) (de_callT rfl call_tuple_of (s_tuple rfl) (f_tuple M) b_tuple (da_cons rfl (de_var rfl) (da_nil rfl))))))))⟩
theorem kc_Row (M : Mo K mg) : Kc P w K mg base (gOf K) "Row" 0 4 4 s_Rowd__initd_ := let ⟨fd, F, b⟩ := fx_Rowd__initd_ M; ⟨_, fd, _, rfl, F, g_Row M, He.mkr_ok (M.says.fact 28 (f := .fa (.mkr "Row"))), b⟩
theorem fx__law_heap (M : Mo K mg) : ∃ fd, FnG P w K mg base (gOf K) 6 (x__law_heap.adr K) fd ["raw"] false s__law_heap ∧ Binds K fd ["raw"] [] ∧ FunD K x__law_heap.name x__law_heap.qual x__law_heap.params x__law_heap.body x__law_heap.scope [] [] (x__law_heap.adr K) fd := by
  obtain ⟨fd, F⟩ := M.says.def_ 10 (d := x__law_heap)
  refine ⟨fd, funG F sc__law_heap (fun cdv A outer s H hr hgd => ?bd), (F.bindsN fun _ _ _ _ _ _ us hl => match us, hl with | [_], _ => rfl), F⟩
  case bd => exact ⟨_, by decide, (dss_one (ds_ret rfl (de_make rfl (kc_Row M) (hr.mono (by decide)) hgd (da_cons rfl (de_ix rfl (de_var rfl) (de_int rfl)) (da_cons rfl (de_lc (own := [("spot", 1), ("kind", 2)]) rfl rfl sc__law_heap.nd (di_seq rfl (de_ix rfl (de_var rfl) (de_int rfl))) (show BlkOk n__law_heap (defScope t__law_heap) _ [("spot", 1), ("kind", 2)] from blkOk (by decide +kernel)) (fun s H C cl fp => (dg_tup rfl rfl (gn_cons (pg_name sc__law_heap.nd rfl (by first | exact Or.inl rfl | exact Or.inr rfl)) (gn_cons (pg_name sc__law_heap.nd rfl (by first | exact Or.inl rfl | exact Or.inr rfl)) gn_nil)))) (fun s H C cl fp => dts_nil) (fun s H C cl fp => (de_var rfl))) (da_cons rfl (de_lc (own := [("spot", 1), ("kind", 2)]) rfl rfl sc__law_heap.nd (di_seq rfl (de_ix rfl (de_var rfl) (de_int rfl))) (show BlkOk n__law_heap (defScope t__law_heap) _ [("spot", 1), ("kind", 2)] from blkOk (by decide +kernel)) (fun s H C cl fp => (dg_tup rfl rfl (gn_cons (pg_name sc__law_heap.nd rfl (by first | exact Or.inl rfl | exact Or.inr rfl)) (gn_cons (pg_name sc__law_heap.nd rfl (by first | exact Or.inl rfl | exact Or.inr rfl)) gn_nil)))) (fun s H C cl fp => (dts_one (dt_cmp rfl (o_eqX hr.units) (s_eqX rfl) (de_var rfl) (de_int rfl) (by first | exact nomark _ | rfl)))) (fun s H C cl fp => (de_var rfl))) (da_nil rfl)))))))⟩
theorem ok__law_heap (M : Mo K mg) : Kn P w K mg base (gOf K) "_law_heap" 6 1 false s__law_heap := let ⟨fd, F, b, D⟩ := fx__law_heap M; ⟨_, fd, _, rfl, F, g__law_heap M, D.kp, b⟩
theorem fx__law_others (M : Mo K mg) : ∃ fd, FnG P w K mg base (gOf K) 2 (x__law_others.adr K) fd ["jar", "raw"] true s__law_others ∧ Binds K fd ["jar", "raw"] [] ∧ FunD K x__law_others.name x__law_others.qual x__law_others.params x__law_others.body x__law_others.scope [] [] (x__law_others.adr K) fd := by
  obtain ⟨fd, F⟩ := M.says.def_ 11 (d := x__law_others)
  refine ⟨fd, funG F sc__law_others (fun cdv A outer s H hr hgd => ?bd), (F.bindsN fun _ _ _ _ _ _ us hl => match us, hl with | [_, _], _ => rfl), F⟩
  case bd => exact ⟨_, by decide, (dss_cons (ds_asg rfl (de_ix rfl (de_var rfl) (de_int rfl)) (dg_tup rfl rfl (gn_cons (pg_name sc__law_others.nd rfl (by first | exact Or.inl rfl | exact Or.inr rfl)) (gn_cons (pg_name sc__law_others.nd rfl (by first | exact Or.inl rfl | exact Or.inr rfl)) (gn_cons (pg_name sc__law_others.nd rfl (by first | exact Or.inl rfl | exact Or.inr rfl)) gn_nil))))) (dss_cons (ds_set rfl sc__law_others.nd (de_lst rfl (da_cons rfl (de_tup rfl (da_cons rfl (de_var rfl) (da_cons rfl (de_bin rfl o_add (s_add rfl) (de_var rfl) (de_callJ rfl (ok__law_dip M) (hr.mono (by decide)) hgd (da_cons rfl (de_bin rfl o_add (s_add rfl) (de_bin rfl op_sub s_sub (de_var rfl) (de_var rfl)) (de_int rfl)) (da_nil rfl)))) (da_cons rfl (de_var rfl) (da_nil rfl))))) (da_nil rfl)))) (dss_cons (ds_set rfl sc__law_others.nd (de_bin rfl o_add (s_add rfl) (de_var rfl) (de_lst rfl (da_cons rfl (de_tup rfl (da_cons rfl (de_bin rfl o_add (s_add rfl) (de_int rfl) (de_callJ rfl (ok__law_dip M) (hr.mono (by decide)) hgd (da_cons rfl (de_var rfl) (da_nil rfl)))) (da_cons rfl (de_var rfl) (da_cons rfl (de_var rfl) (da_nil rfl))))) (da_nil rfl))))) (dss_cons (ds_set rfl sc__law_others.nd (de_bin rfl o_add (s_add rfl) (de_var rfl) (de_lst rfl (da_cons rfl (de_tup rfl (da_cons rfl (de_var rfl) (da_cons rfl (de_var rfl) (da_cons rfl (de_bin rfl o_add (s_add rfl) (de_var rfl) (de_callJ rfl (ok__law_dip M) (hr.mono (by decide)) hgd (da_cons rfl (de_bin rfl o_add (s_add rfl) (de_var rfl) (de_int rfl)) (da_nil rfl)))) (da_nil rfl))))) (da_cons rfl (de_ix rfl (de_var rfl) (de_int rfl)) (da_nil rfl)))))) (dss_one (ds_ret rfl (de_lc (own := [("three", 6)]) rfl rfl sc__law_others.nd (di_seq rfl (de_var rfl)) (show BlkOk n__law_others (defScope t__law_others) _ [("three", 6)] from blkOk (by decide +kernel)) (fun s H C cl fp => (dg_name rfl (pg_name sc__law_others.nd rfl (by first | exact Or.inl rfl | exact Or.inr rfl)))) (fun s H C cl fp => dts_nil) (fun s H C cl fp => (de_tup rfl (da_cons rfl (de_ix rfl (de_var rfl) (de_int rfl)) (da_cons rfl (de_ix rfl (de_var rfl) (de_int rfl)) (da_cons rfl (de_var rfl) (da_nil rfl)))))))))))))⟩
theorem ok__law_others (M : Mo K mg) : Kn P w K mg base (gOf K) "_law_others" 2 2 true s__law_others := let ⟨fd, F, b, D⟩ := fx__law_others M; ⟨_, fd, _, rfl, F, g__law_others M, D.kp, b⟩
theorem fx__law_slow (M : Mo K mg) : ∃ fd, FnG P w K mg base (gOf K) 1 (x__law_slow.adr K) fd ["raw", "spot"] false s__law_slow ∧ Binds K fd ["raw", "spot"] [] ∧ FunD K x__law_slow.name x__law_slow.qual x__law_slow.params x__law_slow.body x__law_slow.scope [] [] (x__law_slow.adr K) fd := by
  obtain ⟨fd, F⟩ := M.says.def_ 12 (d := x__law_slow)
  refine ⟨fd, funG F sc__law_slow (fun cdv A outer s H hr hgd => ?bd), (F.bindsN fun _ _ _ _ _ _ us hl => match us, hl with | [_, _], _ => rfl), F⟩
  case bd => exact ⟨_, by decide, (dss_cons (ds_asg rfl (de_var rfl) (dg_tup rfl rfl (gn_cons (pg_name sc__law_slow.nd rfl (by first | exact Or.inl rfl | exact Or.inr rfl)) (gn_cons (pg_name sc__law_slow.nd rfl (by first | exact Or.inl rfl | exact Or.inr rfl)) (gn_cons (pg_name sc__law_slow.nd rfl (by first | exact Or.inl rfl | exact Or.inr rfl)) gn_nil))))) (dss_cons (ds_for rfl PassesOwn.never rfl (di_range2 rfl (f_range M) (da_cons rfl (de_bin rfl o_add (s_add rfl) (de_var rfl) (de_ix rfl (de_var rfl) (de_int rfl))) (da_cons rfl (de_callB rfl (o_min rfl) (s_min rfl) (f_min M) b_min (da_cons rfl (de_bin rfl o_add (s_add rfl) (de_var rfl) (de_ix rfl (de_var rfl) (de_int rfl))) (da_cons rfl (de_var rfl) (da_nil rfl)))) (da_nil rfl)))) (dg_name rfl (pg_name sc__law_slow.nd rfl (by first | exact Or.inl rfl | exact Or.inr rfl))) (dss_one (ds_if rfl (dt_w (dw_or rfl (dt_cmp rfl (op_inD (room65 hr)) (s_in rfl) (de_tup rfl (da_cons rfl (de_var rfl) (da_cons rfl (de_int rfl) (da_nil rfl)))) (de_var rfl) (by first | exact nomark _ | rfl)) (dw_or1 (dt_w (dw_and rfl (dt_cmp rfl (op_inD (room65 hr)) (s_in rfl) (de_tup rfl (da_cons rfl (de_var rfl) (da_cons rfl (de_int rfl) (da_nil rfl)))) (de_var rfl) (by first | exact nomark _ | rfl)) (dw_and1 (dt_cmp rfl op_ge s_ge (de_var rfl) (de_bin rfl o_add (s_add rfl) (de_var rfl) (de_ix rfl (de_var rfl) (de_int rfl))) (by first | exact nomark _ | rfl)))))))) (dss_one (ds_ret rfl (de_var rfl))) dss_nil))) (dss_one (ds_ret rfl (de_callB rfl (o_min rfl) (s_min rfl) (f_min M) b_min (da_cons rfl (de_bin rfl o_add (s_add rfl) (de_var rfl) (de_ix rfl (de_var rfl) (de_int rfl))) (da_cons rfl (de_var rfl) (da_nil rfl))))))))⟩
theorem ok__law_slow (M : Mo K mg) : Kn P w K mg base (gOf K) "_law_slow" 1 2 false s__law_slow := let ⟨fd, F, b, D⟩ := fx__law_slow M; ⟨_, fd, _, rfl, F, g__law_slow M, D.kp, b⟩
theorem fx__law_slow_walk (M : Mo K mg) : ∃ fd, FnG P w K mg base (gOf K) 2 (x__law_slow_walk.adr K) fd ["raw", "begin"] false s__law_slow_walk ∧ Binds K fd ["raw", "begin"] [] ∧ FunD K x__law_slow_walk.name x__law_slow_walk.qual x__law_slow_walk.params x__law_slow_walk.body x__law_slow_walk.scope [] [] (x__law_slow_walk.adr K) fd := by
  obtain ⟨fd, F⟩ := M.says.def_ 13 (d := x__law_slow_walk)
  refine ⟨fd, funG F sc__law_slow_walk (fun cdv A outer s H hr hgd => ?bd), (F.bindsN fun _ _ _ _ _ _ us hl => match us, hl with | [_, _], _ => rfl), F⟩
  case bd => exact ⟨_, by decide, (dss_cons (ds_own rfl sc__law_slow_walk.nd (de_lst rfl (da_cons rfl (de_var rfl) (da_nil rfl)))) (dss_cons (ds_while rfl PassesOwn.never (dt_cmp rfl op_lt s_lt (de_ixO rfl (k := _) (hk := (de_un rfl un_neg s_neg (de_int rfl)))) (de_ix rfl (de_var rfl) (de_int rfl)) (by first | exact nomark _ | rfl)) (dss_one (ds_app rfl (ha := (da_cons rfl (de_call rfl (ok__law_slow M) (hr.mono (by decide)) hgd (da_cons rfl (de_var rfl) (da_cons rfl (de_ixO rfl (k := _) (hk := (de_un rfl un_neg s_neg (de_int rfl)))) (da_nil rfl)))) (da_nil rfl)))))) (dss_one (ds_retO rfl))))⟩
theorem ok__law_slow_walk (M : Mo K mg) : Kn P w K mg base (gOf K) "_law_slow_walk" 2 2 false s__law_slow_walk := let ⟨fd, F, b, D⟩ := fx__law_slow_walk M; ⟨_, fd, _, rfl, F, g__law_slow_walk M, D.kp, b⟩
theorem fx__law_first (M : Mo K mg) : ∃ fd, FnG P w K mg base (gOf K) 1 (x__law_first.adr K) fd ["walk_here", "other"] false s__law_first ∧ Binds K fd ["walk_here", "other"] [] ∧ FunD K x__law_first.name x__law_first.qual x__law_first.params x__law_first.body x__law_first.scope [] [] (x__law_first.adr K) fd := by
  obtain ⟨fd, F⟩ := M.says.def_ 14 (d := x__law_first)
  refine ⟨fd, funG F sc__law_first (fun cdv A outer s H hr hgd => ?bd), (F.bindsN fun _ _ _ _ _ _ us hl => match us, hl with | [_, _], _ => rfl), F⟩
  case bd => exact ⟨_, by decide, (dss_one (ds_ret rfl (de_ix rfl (de_lc (own := [("cut", 2)]) rfl rfl sc__law_first.nd (di_seq rfl (de_var rfl)) (show BlkOk n__law_first (defScope t__law_first) _ [("cut", 2)] from blkOk (by decide +kernel)) (fun s H C cl fp => (dg_name rfl (pg_name sc__law_first.nd rfl (by first | exact Or.inl rfl | exact Or.inr rfl)))) (fun s H C cl fp => (dts_one (dt_cmp rfl (op_inD (room65 hr)) (s_in rfl) (de_var rfl) (de_var rfl) (by first | exact nomark _ | rfl)))) (fun s H C cl fp => (de_var rfl))) (de_int rfl))))⟩
theorem ok__law_first (M : Mo K mg) : Kn P w K mg base (gOf K) "_law_first" 1 2 false s__law_first := let ⟨fd, F, b, D⟩ := fx__law_first M; ⟨_, fd, _, rfl, F, g__law_first M, D.kp, b⟩
theorem fx_are_settings (M : Mo K mg) : ∃ fd, FnG P w K mg base (gOf K) 2 (x_are_settings.adr K) fd ["value"] false s_are_settings ∧ Binds K fd ["value"] [] ∧ FunD K x_are_settings.name x_are_settings.qual x_are_settings.params x_are_settings.body x_are_settings.scope [] [] (x_are_settings.adr K) fd := by
  obtain ⟨fd, F⟩ := M.says.def_ 15 (d := x_are_settings)
  refine ⟨fd, funG F sc_are_settings (fun cdv A outer s H hr hgd => ?bd), (F.bindsN fun _ _ _ _ _ _ us hl => match us, hl with | [_], _ => rfl), F⟩
  case bd => exact ⟨_, by decide, (dss_cons (ds_if rfl (dt_w (dw_or rfl (dt_not rfl (dt_val rfl (de_isB (t := .tuple) (hb := b_tuple) rfl (de_var rfl) (f_isinstance M) (f_tuple M)))) (dw_or rfl (dt_cmp rfl (o_neX hr.units) (s_neX rfl) (de_callB rfl call_len (s_len rfl) (f_len M) b_len (da_cons rfl (de_var rfl) (da_nil rfl))) (de_int rfl) (by first | exact nomark _ | rfl)) (dw_or1 (dt_not rfl (dt_val rfl (de_call rfl (ok_is_between M) (hr.mono (by decide)) hgd (da_cons rfl (de_ix rfl (de_var rfl) (de_int rfl)) (da_cons rfl (de_int rfl) (da_cons rfl (de_non rfl) (da_nil rfl))))))))))) (dss_one (ds_ret rfl (de_bl rfl))) dss_nil) (dss_one (ds_ret rfl (de_and rfl (de_call rfl (ok_is_between M) (hr.mono (by decide)) hgd (da_cons rfl (de_ix rfl (de_var rfl) (de_int rfl)) (da_cons rfl (de_ix rfl (de_var rfl) (de_int rfl)) (da_cons rfl (de_non rfl) (da_nil rfl))))) (de_one (de_call rfl (ok_is_between M) (hr.mono (by decide)) hgd (da_cons rfl (de_ix rfl (de_var rfl) (de_int rfl)) (da_cons rfl (de_ix rfl (de_var rfl) (de_int rfl)) (da_cons rfl (de_non rfl) (da_nil rfl))))))))))⟩
theorem ok_are_settings (M : Mo K mg) : Kn P w K mg base (gOf K) "are_settings" 2 1 false s_are_settings := let ⟨fd, F, b, D⟩ := fx_are_settings M; ⟨_, fd, _, rfl, F, g_are_settings M, D.kp, b⟩
theorem fx_need_settings (M : Mo K mg) : ∃ fd, FnG P w K mg base (gOf K) 3 (x_need_settings.adr K) fd ["settings"] false s_need_settings ∧ Binds K fd ["settings"] [] ∧ FunD K x_need_settings.name x_need_settings.qual x_need_settings.params x_need_settings.body x_need_settings.scope [] [] (x_need_settings.adr K) fd := by
  obtain ⟨fd, F⟩ := M.says.def_ 16 (d := x_need_settings)
  refine ⟨fd, funG F sc_need_settings (fun cdv A outer s H hr hgd => ?bd), (F.bindsN fun _ _ _ _ _ _ us hl => match us, hl with | [_], _ => rfl), F⟩
  case bd => exact ⟨_, by decide, (dss_one (ds_if rfl (dt_not rfl (dt_val rfl (de_call rfl (ok_are_settings M) (hr.mono (by decide)) hgd (da_cons rfl (de_var rfl) (da_nil rfl))))) (dss_one ds_never) dss_nil))⟩
theorem ok_need_settings (M : Mo K mg) : Kn P w K mg base (gOf K) "need_settings" 3 1 false s_need_settings := let ⟨fd, F, b, D⟩ := fx_need_settings M; ⟨_, fd, _, rfl, F, g_need_settings M, D.kp, b⟩
theorem fx_need_place (M : Mo K mg) : ∃ fd, FnG P w K mg base (gOf K) 2 (x_need_place.adr K) fd ["place", "low", "high"] false s_need_place ∧ Binds K fd ["place", "low", "high"] [] ∧ FunD K x_need_place.name x_need_place.qual x_need_place.params x_need_place.body x_need_place.scope [] [] (x_need_place.adr K) fd := by
  obtain ⟨fd, F⟩ := M.says.def_ 17 (d := x_need_place)
  refine ⟨fd, funG F sc_need_place (fun cdv A outer s H hr hgd => ?bd), (F.bindsN fun _ _ _ _ _ _ us hl => match us, hl with | [_, _, _], _ => rfl), F⟩
  case bd => exact ⟨_, by decide, (dss_one (ds_if rfl (dt_not rfl (dt_val rfl (de_call rfl (ok_is_between M) (hr.mono (by decide)) hgd (da_cons rfl (de_var rfl) (da_cons rfl (de_var rfl) (da_cons rfl (de_var rfl) (da_nil rfl))))))) (dss_one ds_never) dss_nil))⟩
theorem ok_need_place (M : Mo K mg) : Kn P w K mg base (gOf K) "need_place" 2 3 false s_need_place := let ⟨fd, F, b, D⟩ := fx_need_place M; ⟨_, fd, _, rfl, F, g_need_place M, D.kp, b⟩
theorem fx_Row_length (M : Mo K mg) : ∃ fd, FnG P w K mg base (gOf K) 1 (x_Row_length.adr K) fd ["self"] false s_Row_length ∧ Binds K fd ["self"] [] ∧ FunD K x_Row_length.name x_Row_length.qual x_Row_length.params x_Row_length.body x_Row_length.scope [] [] (x_Row_length.adr K) fd := by
  obtain ⟨fd, F⟩ := M.says.def_ 18 (d := x_Row_length)
  refine ⟨fd, funG F sc_Row_length (fun cdv A outer s H hr hgd => ?bd), (F.bindsN fun _ _ _ _ _ _ us hl => match us, hl with | [_], _ => rfl), F⟩
  case bd => exact ⟨_, by decide, (dss_one (ds_ret rfl (de_fld rfl (ki_Row M).cl (na_Row_kept_length M) (de_var rfl))))⟩
theorem kp_Row_length (M : Mo K mg) : Kp1 P w K mg base (gOf K) 0 "length" 1 s_Row_length := let ⟨fd, F, b, _⟩ := fx_Row_length M; ⟨_, _, fd, _, rfl, F, (ki_Row M).cl, prop_ok (M.says.fact 37), b⟩
theorem fx_need_short (M : Mo K mg) : ∃ fd, FnG P w K mg base (gOf K) 1 (x_need_short.adr K) fd ["length", "settings"] false s_need_short ∧ Binds K fd ["length", "settings"] [] ∧ FunD K x_need_short.name x_need_short.qual x_need_short.params x_need_short.body x_need_short.scope [] [] (x_need_short.adr K) fd := by
  obtain ⟨fd, F⟩ := M.says.def_ 19 (d := x_need_short)
  refine ⟨fd, funG F sc_need_short (fun cdv A outer s H hr hgd => ?bd), (F.bindsN fun _ _ _ _ _ _ us hl => match us, hl with | [_, _], _ => rfl), F⟩
  case bd => exact ⟨_, by decide, (dss_one (ds_if rfl (dt_cmp rfl op_gt s_gt (de_var rfl) (de_bin rfl o_mulX (s_mulX rfl) (de_glob (v := .int 200) rfl (c_MOST_STEPS M).choose_spec ⟨_, rfl⟩ (fun _ _ => .int _)) (de_ix rfl (de_var rfl) (de_int rfl))) (by first | exact nomark _ | rfl)) (dss_one ds_never) dss_nil))⟩
theorem ok_need_short (M : Mo K mg) : Kn P w K mg base (gOf K) "need_short" 1 2 false s_need_short := let ⟨fd, F, b, D⟩ := fx_need_short M; ⟨_, fd, _, rfl, F, g_need_short M, D.kp, b⟩
theorem fx_Trackd__initd_ (M : Mo K mg) : ∃ fd, FnI P w K mg base (gOf K) 1 (metX "Track" "__init__" K) fd ["self", "last", "marked", "chosen", "settings"] 1 s_Trackd__initd_ ∧ Binds K fd ["self", "last", "marked", "chosen", "settings"] [] := by
  obtain ⟨fd, F⟩ := M.says.def_ 20 (d := x_Trackd__initd_)
  refine ⟨fd, funGI F sc_Trackd__initd_ (fun cdv A outer s H hr hgd => ?bd), (F.bindsN fun _ _ _ _ _ _ us hl => match us, hl with | [_, _, _, _, _], _ => rfl)⟩
  case bd => exact ⟨_, by decide, (dss_cons (ds_fld rfl (pe_var rfl (Or.inl rfl)) (ki_Track M).cl (na_Track_last M) (de_var rfl)) (dss_cons (ds_fld rfl (pe_var rfl (Or.inl rfl)) (ki_Track M).cl (na_Track_marked M) (de_callT rfl call_tuple_of (s_tuple rfl) (f_tuple M) b_tuple (da_cons rfl (de_var rfl) (da_nil rfl)))) (dss_cons (ds_fld rfl (pe_var rfl (Or.inl rfl)) (ki_Track M).cl (na_Track_chosen M) (de_callT rfl call_tuple_of (s_tuple rfl) (f_tuple M) b_tuple (da_cons rfl (de_var rfl) (da_nil rfl)))) (dss_one (ds_fldT rfl rfl (gf_cons (pe_var rfl (Or.inl rfl)) (ki_Track M).cl (na_Track_least M) (gf_cons (pe_var rfl (Or.inl rfl)) (ki_Track M).cl (na_Track_normal M) (gf_cons (pe_var rfl (Or.inl rfl)) (ki_Track M).cl (na_Track_greatest M) gf_nil))) (de_var rfl))))))⟩
theorem kc_Track (M : Mo K mg) : Kc P w K mg base (gOf K) "Track" 1 1 5 s_Trackd__initd_ := let ⟨fd, F, b⟩ := fx_Trackd__initd_ M; ⟨_, fd, _, rfl, F, g_Track M, He.mkr_ok (M.says.fact 48 (f := .fa (.mkr "Track"))), b⟩
theorem fx_Row_marks (M : Mo K mg) : ∃ fd, FnG P w K mg base (gOf K) 1 (x_Row_marks.adr K) fd ["self"] false s_Row_marks ∧ Binds K fd ["self"] [] ∧ FunD K x_Row_marks.name x_Row_marks.qual x_Row_marks.params x_Row_marks.body x_Row_marks.scope [] [] (x_Row_marks.adr K) fd := by
  obtain ⟨fd, F⟩ := M.says.def_ 21 (d := x_Row_marks)
  refine ⟨fd, funG F sc_Row_marks (fun cdv A outer s H hr hgd => ?bd), (F.bindsN fun _ _ _ _ _ _ us hl => match us, hl with | [_], _ => rfl), F⟩
  case bd => exact ⟨_, by decide, (dss_one (ds_ret rfl (de_callT rfl call_list_of (s_list rfl) (f_list M) b_list (da_cons rfl (de_fld rfl (ki_Row M).cl (na_Row_kept_marks M) (de_var rfl)) (da_nil rfl)))))⟩
theorem kp_Row_marks (M : Mo K mg) : Kp1 P w K mg base (gOf K) 0 "marks" 1 s_Row_marks := let ⟨fd, F, b, _⟩ := fx_Row_marks M; ⟨_, _, fd, _, rfl, F, (ki_Row M).cl, prop_ok (M.says.fact 49), b⟩
theorem fx_Row_strict (M : Mo K mg) : ∃ fd, FnG P w K mg base (gOf K) 1 (x_Row_strict.adr K) fd ["self"] false s_Row_strict ∧ Binds K fd ["self"] [] ∧ FunD K x_Row_strict.name x_Row_strict.qual x_Row_strict.params x_Row_strict.body x_Row_strict.scope [] [] (x_Row_strict.adr K) fd := by
  obtain ⟨fd, F⟩ := M.says.def_ 22 (d := x_Row_strict)
  refine ⟨fd, funG F sc_Row_strict (fun cdv A outer s H hr hgd => ?bd), (F.bindsN fun _ _ _ _ _ _ us hl => match us, hl with | [_], _ => rfl), F⟩
  case bd => exact ⟨_, by decide, (dss_one (ds_ret rfl (de_callT rfl call_list_of (s_list rfl) (f_list M) b_list (da_cons rfl (de_fld rfl (ki_Row M).cl (na_Row_kept_strict M) (de_var rfl)) (da_nil rfl)))))⟩
theorem kp_Row_strict (M : Mo K mg) : Kp1 P w K mg base (gOf K) 0 "strict" 1 s_Row_strict := let ⟨fd, F, b, _⟩ := fx_Row_strict M; ⟨_, _, fd, _, rfl, F, (ki_Row M).cl, prop_ok (M.says.fact 50), b⟩
theorem fx_track_of (M : Mo K mg) : ∃ fd, FnG P w K mg base (gOf K) 3 (x_track_of.adr K) fd ["row", "settings"] false s_track_of ∧ Binds K fd ["row", "settings"] [] ∧ FunD K x_track_of.name x_track_of.qual x_track_of.params x_track_of.body x_track_of.scope [] [] (x_track_of.adr K) fd := by
  obtain ⟨fd, F⟩ := M.says.def_ 23 (d := x_track_of)
  refine ⟨fd, funG F sc_track_of (fun cdv A outer s H hr hgd => ?bd), (F.bindsN fun _ _ _ _ _ _ us hl => match us, hl with | [_, _], _ => rfl), F⟩
  case bd => exact ⟨_, by decide, (dss_one (ds_ret rfl (de_make rfl (kc_Track M) (hr.mono (by decide)) hgd (da_cons rfl (de_prop rfl (kp_Row_length M) (hr.mono (by decide)) hgd (de_var rfl)) (da_cons rfl (de_prop rfl (kp_Row_marks M) (hr.mono (by decide)) hgd (de_var rfl)) (da_cons rfl (de_prop rfl (kp_Row_strict M) (hr.mono (by decide)) hgd (de_var rfl)) (da_cons rfl (de_var rfl) (da_nil rfl))))))))⟩
theorem ok_track_of (M : Mo K mg) : Kn P w K mg base (gOf K) "track_of" 3 2 false s_track_of := let ⟨fd, F, b, D⟩ := fx_track_of M; ⟨_, fd, _, rfl, F, g_track_of M, D.kp, b⟩
theorem fx_Track_next_of (M : Mo K mg) : ∃ fd, FnG P w K mg base (gOf K) 2 (x_Track_next_of.adr K) fd ["self", "place"] false s_Track_next_of ∧ Binds K fd ["self", "place"] [] ∧ FunD K x_Track_next_of.name x_Track_next_of.qual x_Track_next_of.params x_Track_next_of.body x_Track_next_of.scope [] [] (x_Track_next_of.adr K) fd := by
  obtain ⟨fd, F⟩ := M.says.def_ 24 (d := x_Track_next_of)
  refine ⟨fd, funG F sc_Track_next_of (fun cdv A outer s H hr hgd => ?bd), (F.bindsN fun _ _ _ _ _ _ us hl => match us, hl with | [_, _], _ => rfl), F⟩
  case bd => exact ⟨_, by decide, (dss_cons (ds_set rfl sc_Track_next_of.nd (de_bin rfl o_add (s_add rfl) (de_var rfl) (de_fld rfl (ki_Track M).cl (na_Track_greatest M) (de_var rfl)))) (dss_cons (ds_set rfl sc_Track_next_of.nd (de_callB rfl (o_min rfl) (s_min rfl) (f_min M) b_min (da_cons rfl (de_fld rfl (ki_Track M).cl (na_Track_last M) (de_var rfl)) (da_cons rfl (de_var rfl) (da_nil rfl))))) (dss_cons (ds_set rfl sc_Track_next_of.nd (de_call rfl (ok_first_at M) (hr.mono (by decide)) hgd (da_cons rfl (de_fld rfl (ki_Track M).cl (na_Track_chosen M) (de_var rfl)) (da_cons rfl (de_bin rfl o_add (s_add rfl) (de_var rfl) (de_fld rfl (ki_Track M).cl (na_Track_least M) (de_var rfl))) (da_nil rfl))))) (dss_cons (ds_if rfl (dt_w (dw_and rfl (dt_cmp rfl op_lt s_lt (de_var rfl) (de_callB rfl call_len (s_len rfl) (f_len M) b_len (da_cons rfl (de_fld rfl (ki_Track M).cl (na_Track_chosen M) (de_var rfl)) (da_nil rfl))) (by first | exact nomark _ | rfl)) (dw_and1 (dt_cmp rfl op_lt s_lt (de_ix rfl (de_fld rfl (ki_Track M).cl (na_Track_chosen M) (de_var rfl)) (de_var rfl)) (de_var rfl) (by first | exact nomark _ | rfl))))) (dss_one (ds_set rfl sc_Track_next_of.nd (de_ix rfl (de_fld rfl (ki_Track M).cl (na_Track_chosen M) (de_var rfl)) (de_var rfl)))) dss_nil) (dss_cons (ds_set rfl sc_Track_next_of.nd (de_call rfl (ok_first_at M) (hr.mono (by decide)) hgd (da_cons rfl (de_fld rfl (ki_Track M).cl (na_Track_marked M) (de_var rfl)) (da_cons rfl (de_bin rfl o_add (s_add rfl) (de_var rfl) (de_fld rfl (ki_Track M).cl (na_Track_normal M) (de_var rfl))) (da_nil rfl))))) (dss_cons (ds_if rfl (dt_w (dw_and rfl (dt_cmp rfl op_lt s_lt (de_var rfl) (de_callB rfl call_len (s_len rfl) (f_len M) b_len (da_cons rfl (de_fld rfl (ki_Track M).cl (na_Track_marked M) (de_var rfl)) (da_nil rfl))) (by first | exact nomark _ | rfl)) (dw_and1 (dt_cmp rfl op_lt s_lt (de_ix rfl (de_fld rfl (ki_Track M).cl (na_Track_marked M) (de_var rfl)) (de_var rfl)) (de_var rfl) (by first | exact nomark _ | rfl))))) (dss_one (ds_set rfl sc_Track_next_of.nd (de_ix rfl (de_fld rfl (ki_Track M).cl (na_Track_marked M) (de_var rfl)) (de_var rfl)))) dss_nil) (dss_one (ds_ret rfl (de_var rfl)))))))))⟩
theorem km_Track_next_of (M : Mo K mg) : Km P w K mg base (gOf K) 1 "next_of" 2 2 false s_Track_next_of := let ⟨fd, F, b, _⟩ := fx_Track_next_of M; ⟨_, fd, _, rfl, F, (ki_Track M).cl, He.meth_ok (M.says.fact 52 (f := .fa (.meth "Track" "next_of"))), b⟩
theorem fx_meeting (M : Mo K mg) : ∃ fd, FnG P w K mg base (gOf K) 4 (x_meeting.adr K) fd ["row", "settings", "first", "second"] false s_meeting ∧ Binds K fd ["row", "settings", "first", "second"] [] ∧ FunD K x_meeting.name x_meeting.qual x_meeting.params x_meeting.body x_meeting.scope [] [] (x_meeting.adr K) fd := by
  obtain ⟨fd, F⟩ := M.says.def_ 25 (d := x_meeting)
  refine ⟨fd, funG F sc_meeting (fun cdv A outer s H hr hgd => ?bd), (F.bindsN fun _ _ _ _ _ _ us hl => match us, hl with | [_, _, _, _], _ => rfl), F⟩
  case bd => exact ⟨_, by decide, (dss_cons (ds_expr rfl (de_call rfl (ok_need_settings M) (hr.mono (by decide)) hgd (da_cons rfl (de_var rfl) (da_nil rfl)))) (dss_cons (ds_expr rfl (de_call rfl (ok_need_place M) (hr.mono (by decide)) hgd (da_cons rfl (de_var rfl) (da_cons rfl (de_int rfl) (da_cons rfl (de_prop rfl (kp_Row_length M) (hr.mono (by decide)) hgd (de_var rfl)) (da_nil rfl)))))) (dss_cons (ds_expr rfl (de_call rfl (ok_need_place M) (hr.mono (by decide)) hgd (da_cons rfl (de_var rfl) (da_cons rfl (de_int rfl) (da_cons rfl (de_prop rfl (kp_Row_length M) (hr.mono (by decide)) hgd (de_var rfl)) (da_nil rfl)))))) (dss_cons (ds_expr rfl (de_call rfl (ok_need_short M) (hr.mono (by decide)) hgd (da_cons rfl (de_prop rfl (kp_Row_length M) (hr.mono (by decide)) hgd (de_var rfl)) (da_cons rfl (de_var rfl) (da_nil rfl))))) (dss_cons (ds_set rfl sc_meeting.nd (de_call rfl (ok_track_of M) (hr.mono (by decide)) hgd (da_cons rfl (de_var rfl) (da_cons rfl (de_var rfl) (da_nil rfl))))) (dss_cons (ds_while rfl PassesOwn.never (dt_cmp rfl (o_neX hr.units) (s_neX rfl) (de_var rfl) (de_var rfl) (by first | exact nomark _ | rfl)) (dss_one (ds_if rfl (dt_cmp rfl op_lt s_lt (de_var rfl) (de_var rfl) (by first | exact nomark _ | rfl)) (dss_one (ds_set rfl sc_meeting.nd (de_meth rfl (km_Track_next_of M) (hr.mono (by decide)) hgd (de_var rfl) (da_cons rfl (de_var rfl) (da_nil rfl))))) (dss_one (ds_set rfl sc_meeting.nd (de_meth rfl (km_Track_next_of M) (hr.mono (by decide)) hgd (de_var rfl) (da_cons rfl (de_var rfl) (da_nil rfl)))))))) (dss_one (ds_ret rfl (de_var rfl)))))))))⟩
theorem ok_meeting (M : Mo K mg) : Kn P w K mg base (gOf K) "meeting" 4 4 false s_meeting := let ⟨fd, F, b, D⟩ := fx_meeting M; ⟨_, fd, _, rfl, F, g_meeting M, D.kp, b⟩
theorem kk_meeting_0_first_second_row_settings (M : Mo K mg) : KnK P w K mg base (gOf K) "meeting" 4 4 0 ["first", "second", "row", "settings"] [2, 3, 0, 1] s_meeting := let ⟨fd, F, b, D⟩ := fx_meeting M; ⟨_, fd, _, rfl, F, g_meeting M, D.kp, bindsK D fun _ _ _ _ _ _ us ws h1 h2 => match us, ws, h1, h2 with | [], [_, _, _, _], _, _ => rfl⟩
theorem fx_Rowd__eqd_ (M : Mo K mg) : ∃ fd, FnG P w K mg base (gOf K) 1 (x_Rowd__eqd_.adr K) fd ["self", "other"] false s_Rowd__eqd_ ∧ Binds K fd ["self", "other"] [] ∧ FunD K x_Rowd__eqd_.name x_Rowd__eqd_.qual x_Rowd__eqd_.params x_Rowd__eqd_.body x_Rowd__eqd_.scope [] [] (x_Rowd__eqd_.adr K) fd := by
  obtain ⟨fd, F⟩ := M.says.def_ 26 (d := x_Rowd__eqd_)
  refine ⟨fd, funG F sc_Rowd__eqd_ (fun cdv A outer s H hr hgd => ?bd), (F.bindsN fun _ _ _ _ _ _ us hl => match us, hl with | [_, _], _ => rfl), F⟩
  case bd => exact ⟨_, by decide, (dss_cons (ds_if rfl (dt_not rfl (dt_val rfl (de_isO (c := 0) rfl (de_var rfl) (f_isinstance M) (g_Row M) (isb_Row M) (iso_Row M)))) (dss_one (ds_ret rfl (de_bl rfl))) dss_nil) (dss_cons (ds_set rfl sc_Rowd__eqd_.nd (de_tup rfl (da_cons rfl (de_fld rfl (ki_Row M).cl (na_Row_kept_length M) (de_var rfl)) (da_cons rfl (de_fld rfl (ki_Row M).cl (na_Row_kept_marks M) (de_var rfl)) (da_cons rfl (de_fld rfl (ki_Row M).cl (na_Row_kept_strict M) (de_var rfl)) (da_nil rfl)))))) (dss_one (ds_ret rfl (de_cmp rfl (o_eqX hr.units) (s_eqX rfl) (de_var rfl) (de_tup rfl (da_cons rfl (de_fld rfl (ki_Row M).cl (na_Row_kept_length M) (de_var rfl)) (da_cons rfl (de_fld rfl (ki_Row M).cl (na_Row_kept_marks M) (de_var rfl)) (da_cons rfl (de_fld rfl (ki_Row M).cl (na_Row_kept_strict M) (de_var rfl)) (da_nil rfl))))) (by first | exact nomark _ | rfl))))))⟩
theorem ks_Rowd__eqd_ (M : Mo K mg) : Ks P w K mg base (gOf K) 0 "__eq__" 1 2 s_Rowd__eqd_ := let ⟨fd, F, b, _⟩ := fx_Rowd__eqd_ M; ⟨_, fd, _, rfl, F, (spc_ok (M.says.fact 58)).1, (spc_ok (M.says.fact 58)).2, b⟩
theorem fx__law_small_right (M : Mo K mg) : ∃ fd, FnG P w K mg base (gOf K) 7 (x__law_small_right.adr K) fd ["made", "raw"] false s__law_small_right ∧ Binds K fd ["made", "raw"] [] ∧ FunD K x__law_small_right.name x__law_small_right.qual x__law_small_right.params x__law_small_right.body x__law_small_right.scope [] [] (x__law_small_right.adr K) fd := by
  obtain ⟨fd, F⟩ := M.says.def_ 27 (d := x__law_small_right)
  refine ⟨fd, funG F sc__law_small_right (fun cdv A outer s H hr hgd => ?bd), (F.bindsN fun _ _ _ _ _ _ us hl => match us, hl with | [_, _], _ => rfl), F⟩
  case bd => exact ⟨_, by decide, (dss_cons (ds_set rfl sc__law_small_right.nd (de_ix rfl (de_var rfl) (de_int rfl))) (dss_cons (ds_setLc (own := [("spot", 4)]) rfl rfl sc__law_small_right.nd (di_range1 rfl (f_range M) (da_cons rfl (de_bin rfl o_add (s_add rfl) (de_var rfl) (de_int rfl)) (da_nil rfl))) (show BlkOk n__law_small_right (defScope t__law_small_right) _ [("spot", 4)] from blkOk (by decide +kernel)) (fun s H C cl fp => (dg_name rfl (pg_name sc__law_small_right.nd rfl (by first | exact Or.inl rfl | exact Or.inr rfl)))) (fun s H C cl fp => dts_nil) (fun s H C cl fp => (de_call rfl (ok__law_slow_walk M) (hr.mono (by decide)) hgd (da_cons rfl (de_var rfl) (da_cons rfl (de_var rfl) (da_nil rfl))))) (hsw := sw_true rfl rfl rfl rfl)) (dss_cons (ds_for rfl PassesOwn.never rfl (di_range1 rfl (f_range M) (da_cons rfl (de_bin rfl o_add (s_add rfl) (de_var rfl) (de_int rfl)) (da_nil rfl))) (dg_name rfl (pg_name sc__law_small_right.nd rfl (by first | exact Or.inl rfl | exact Or.inr rfl))) (dss_one (ds_for rfl PassesOwn.never rfl (di_range2 rfl (f_range M) (da_cons rfl (de_var rfl) (da_cons rfl (de_bin rfl o_add (s_add rfl) (de_var rfl) (de_int rfl)) (da_nil rfl)))) (dg_name rfl (pg_name sc__law_small_right.nd rfl (by first | exact Or.inl rfl | exact Or.inr rfl))) (dss_cons (ds_set rfl sc__law_small_right.nd (de_call rfl (ok__law_first M) (hr.mono (by decide)) hgd (da_cons rfl (de_ix rfl (de_var rfl) (de_var rfl)) (da_cons rfl (de_ix rfl (de_var rfl) (de_var rfl)) (da_nil rfl))))) (dss_one (ds_if rfl (dt_cmp rfl (o_neX hr.units) (s_neX rfl) (de_callB rfl (call_reprG hgd hr.units) (s_repr rfl) (f_repr M) b_repr (da_cons rfl (de_lst rfl (da_cons rfl (de_call rfl (ok_meeting M) (hr.mono (by decide)) hgd (da_cons rfl (de_var rfl) (da_cons rfl (de_ix rfl (de_var rfl) (de_int rfl)) (da_cons rfl (de_var rfl) (da_cons rfl (de_var rfl) (da_nil rfl)))))) (da_cons rfl (de_call rfl (ok_meeting M) (hr.mono (by decide)) hgd (da_cons rfl (de_var rfl) (da_cons rfl (de_ix rfl (de_var rfl) (de_int rfl)) (da_cons rfl (de_var rfl) (da_cons rfl (de_var rfl) (da_nil rfl)))))) (da_nil rfl)))) (da_nil rfl))) (de_callB rfl (call_reprG hgd hr.units) (s_repr rfl) (f_repr M) b_repr (da_cons rfl (de_lst rfl (da_cons rfl (de_var rfl) (da_cons rfl (de_var rfl) (da_nil rfl)))) (da_nil rfl))) (by first | exact nomark _ | rfl)) (dss_one (ds_ret rfl (de_bl rfl))) dss_nil)))))) (dss_one (ds_ret rfl (de_cmp rfl (op_eqO rfl (ks_Rowd__eqd_ M) (hr.mono (by decide)) hgd) s_cmpO (de_var rfl) (de_call rfl (ok__law_heap M) (hr.mono (by decide)) hgd (da_cons rfl (de_var rfl) (da_nil rfl))) (by first | exact nomark _ | rfl)))))))⟩
theorem ok__law_small_right (M : Mo K mg) : Kn P w K mg base (gOf K) "_law_small_right" 7 2 false s__law_small_right := let ⟨fd, F, b, D⟩ := fx__law_small_right M; ⟨_, fd, _, rfl, F, g__law_small_right M, D.kp, b⟩
theorem fx__law_great (M : Mo K mg) : ∃ fd, FnG P w K mg base (gOf K) 3 (x__law_great.adr K) fd ["jar", "most"] true s__law_great ∧ Binds K fd ["jar", "most"] [] ∧ FunD K x__law_great.name x__law_great.qual x__law_great.params x__law_great.body x__law_great.scope [] [] (x__law_great.adr K) fd := by
  obtain ⟨fd, F⟩ := M.says.def_ 28 (d := x__law_great)
  refine ⟨fd, funG F sc__law_great (fun cdv A outer s H hr hgd => ?bd), (F.bindsN fun _ _ _ _ _ _ us hl => match us, hl with | [_, _], _ => rfl), F⟩
  case bd => exact ⟨_, by decide, (dss_cons (ds_set rfl sc__law_great.nd (de_callJ rfl (ok__law_three M) (hr.mono (by decide)) hgd (da_cons rfl (de_ix rfl (de_lst rfl (da_cons rfl (de_bin rfl o_pow s_pow (de_int rfl) (de_int rfl)) (da_cons rfl (de_bin rfl o_pow s_pow (de_int rfl) (de_int rfl)) (da_cons rfl (de_bin rfl o_pow s_pow (de_int rfl) (de_int rfl)) (da_nil rfl))))) (de_callJ rfl (ok__law_dip M) (hr.mono (by decide)) hgd (da_cons rfl (de_int rfl) (da_nil rfl)))) (da_nil rfl)))) (dss_cons (ds_set rfl sc__law_great.nd (de_bin rfl o_add (s_add rfl) (de_int rfl) (de_callJ rfl (ok__law_dip M) (hr.mono (by decide)) hgd (da_cons rfl (de_bin rfl o_mulX (s_mulX rfl) (de_bin rfl o_add (s_add rfl) (de_int rfl) (de_callJ rfl (ok__law_dip M) (hr.mono (by decide)) hgd (da_cons rfl (de_var rfl) (da_nil rfl)))) (de_ix rfl (de_var rfl) (de_int rfl))) (da_nil rfl))))) (dss_cons (ds_parF rfl rfl sc__law_great.nd (df_cons (k := true) rfl (de_lst rfl (da_nil rfl)) (df_cons (k := false) rfl (de_int rfl) (df_nil rfl)))) (dss_cons (ds_for rfl PassesOwn.never rfl (di_range1 rfl (f_range M) (da_cons rfl (de_callJ rfl (ok__law_dip M) (hr.mono (by decide)) hgd (da_cons rfl (de_int rfl) (da_nil rfl))) (da_nil rfl))) (dg_name rfl (pg_name sc__law_great.nd rfl (by first | exact Or.inl rfl | exact Or.inr rfl))) (dss_cons (ds_set rfl sc__law_great.nd (de_ix rfl (de_lst rfl (da_cons rfl (de_ix rfl (de_var rfl) (de_int rfl)) (da_cons rfl (de_ix rfl (de_var rfl) (de_int rfl)) (da_cons rfl (de_ix rfl (de_var rfl) (de_int rfl)) (da_cons rfl (de_bin rfl o_add (s_add rfl) (de_int rfl) (de_callJ rfl (ok__law_dip M) (hr.mono (by decide)) hgd (da_cons rfl (de_bin rfl o_mulX (s_mulX rfl) (de_int rfl) (de_ix rfl (de_var rfl) (de_int rfl))) (da_nil rfl)))) (da_nil rfl)))))) (de_callJ rfl (ok__law_dip M) (hr.mono (by decide)) hgd (da_cons rfl (de_int rfl) (da_nil rfl))))) (dss_cons (ds_set rfl sc__law_great.nd (de_bin rfl o_add (s_add rfl) (de_ix rfl (de_lst rfl (da_cons rfl (de_var rfl) (da_cons rfl (de_callJ rfl (ok__law_dip M) (hr.mono (by decide)) hgd (da_cons rfl (de_var rfl) (da_nil rfl))) (da_nil rfl)))) (de_callT rfl call_int1 s_int (f_int M) b_int (da_cons rfl (de_cmp rfl (o_eqX hr.units) (s_eqX rfl) (de_callJ rfl (ok__law_dip M) (hr.mono (by decide)) hgd (da_cons rfl (de_int rfl) (da_nil rfl))) (de_int rfl) (by first | exact nomark _ | rfl)) (da_nil rfl)))) (de_callB rfl (o_max rfl) (s_max rfl) (f_max M) b_max (da_cons rfl (de_int rfl) (da_cons rfl (de_bin rfl op_sub s_sub (de_bin rfl o_add (s_add rfl) (de_var rfl) (de_callJ rfl (ok__law_dip M) (hr.mono (by decide)) hgd (da_cons rfl (de_int rfl) (da_nil rfl)))) (de_int rfl)) (da_nil rfl)))))) (dss_one (ds_app rfl (ha := (da_cons rfl (de_var rfl) (da_nil rfl)))))))) (dss_cons (ds_fz (i := 4) (ds_setLc (own := [("one", 9)]) rfl rfl sc__law_great.nd (di_seq rfl (de_sortSet rfl rfl (de_var rfl) (f_sorted M) (f_set M))) (show BlkOk n__law_great (defScope t__law_great) _ [("one", 9)] from blkOk (by decide +kernel)) (fun s H C cl fp => (dg_name rfl (pg_name sc__law_great.nd rfl (by first | exact Or.inl rfl | exact Or.inr rfl)))) (fun s H C cl fp => (dts_one (dt_chain rfl op_lt op_lt s_lt s_lt (de_int rfl) (de_var rfl) (de_var rfl)))) (fun s H C cl fp => (de_var rfl)) (hsw := sw_true rfl rfl rfl rfl))) (dss_one (ds_ret rfl (de_tup rfl (da_cons rfl (de_var rfl) (da_cons rfl (de_lc (own := [("one", 9)]) rfl rfl sc__law_great.nd (di_seq rfl (de_var rfl)) (show BlkOk n__law_great (defScope t__law_great) _ [("one", 9)] from blkOk (by decide +kernel)) (fun s H C cl fp => (dg_name rfl (pg_name sc__law_great.nd rfl (by first | exact Or.inl rfl | exact Or.inr rfl)))) (fun s H C cl fp => dts_nil) (fun s H C cl fp => (de_tup rfl (da_cons rfl (de_var rfl) (da_cons rfl (de_bin rfl o_add (s_add rfl) (de_int rfl) (de_callJ rfl (ok__law_dip M) (hr.mono (by decide)) hgd (da_cons rfl (de_int rfl) (da_nil rfl)))) (da_nil rfl)))))) (da_cons rfl (de_var rfl) (da_nil rfl))))))))))))⟩
theorem ok__law_great (M : Mo K mg) : Kn P w K mg base (gOf K) "_law_great" 3 2 true s__law_great := let ⟨fd, F, b, D⟩ := fx__law_great M; ⟨_, fd, _, rfl, F, g__law_great M, D.kp, b⟩
theorem fx__law_far (M : Mo K mg) : ∃ fd, FnG P w K mg base (gOf K) 1 (x__law_far.adr K) fd ["raw", "spot"] false s__law_far ∧ Binds K fd ["raw", "spot"] [] ∧ FunD K x__law_far.name x__law_far.qual x__law_far.params x__law_far.body x__law_far.scope [] [] (x__law_far.adr K) fd := by
  obtain ⟨fd, F⟩ := M.says.def_ 29 (d := x__law_far)
  refine ⟨fd, funG F sc__law_far (fun cdv A outer s H hr hgd => ?bd), (F.bindsN fun _ _ _ _ _ _ us hl => match us, hl with | [_, _], _ => rfl), F⟩
  case bd => exact ⟨_, by decide, (dss_cons (ds_for rfl PassesOwn.never rfl (di_seq rfl (de_ix rfl (de_var rfl) (de_int rfl))) (dg_tup rfl rfl (gn_cons (pg_name sc__law_far.nd rfl (by first | exact Or.inl rfl | exact Or.inr rfl)) (gn_cons (pg_name sc__law_far.nd rfl (by first | exact Or.inl rfl | exact Or.inr rfl)) gn_nil))) (dss_one (ds_if rfl (dt_chain rfl op_le op_le s_le s_le (de_bin rfl o_add (s_add rfl) (de_var rfl) (de_ix rfl (de_ix rfl (de_var rfl) (de_int rfl)) (de_bin rfl op_sub s_sub (de_int rfl) (de_var rfl)))) (de_var rfl) (de_bin rfl o_add (s_add rfl) (de_var rfl) (de_ix rfl (de_ix rfl (de_var rfl) (de_int rfl)) (de_int rfl)))) (dss_one (ds_ret rfl (de_var rfl))) dss_nil))) (dss_one (ds_ret rfl (de_callB rfl (o_min rfl) (s_min rfl) (f_min M) b_min (da_cons rfl (de_ix rfl (de_var rfl) (de_int rfl)) (da_cons rfl (de_bin rfl o_add (s_add rfl) (de_var rfl) (de_ix rfl (de_ix rfl (de_var rfl) (de_int rfl)) (de_int rfl))) (da_nil rfl)))))))⟩
theorem ok__law_far (M : Mo K mg) : Kn P w K mg base (gOf K) "_law_far" 1 2 false s__law_far := let ⟨fd, F, b, D⟩ := fx__law_far M; ⟨_, fd, _, rfl, F, g__law_far M, D.kp, b⟩
theorem fx__law_far_walk (M : Mo K mg) : ∃ fd, FnG P w K mg base (gOf K) 2 (x__law_far_walk.adr K) fd ["raw", "begin"] false s__law_far_walk ∧ Binds K fd ["raw", "begin"] [] ∧ FunD K x__law_far_walk.name x__law_far_walk.qual x__law_far_walk.params x__law_far_walk.body x__law_far_walk.scope [] [] (x__law_far_walk.adr K) fd := by
  obtain ⟨fd, F⟩ := M.says.def_ 30 (d := x__law_far_walk)
  refine ⟨fd, funG F sc__law_far_walk (fun cdv A outer s H hr hgd => ?bd), (F.bindsN fun _ _ _ _ _ _ us hl => match us, hl with | [_, _], _ => rfl), F⟩
  case bd => exact ⟨_, by decide, (dss_cons (ds_own rfl sc__law_far_walk.nd (de_lst rfl (da_cons rfl (de_var rfl) (da_nil rfl)))) (dss_cons (ds_while rfl PassesOwn.never (dt_cmp rfl op_lt s_lt (de_ixO rfl (k := _) (hk := (de_un rfl un_neg s_neg (de_int rfl)))) (de_ix rfl (de_var rfl) (de_int rfl)) (by first | exact nomark _ | rfl)) (dss_one (ds_app rfl (ha := (da_cons rfl (de_call rfl (ok__law_far M) (hr.mono (by decide)) hgd (da_cons rfl (de_var rfl) (da_cons rfl (de_ixO rfl (k := _) (hk := (de_un rfl un_neg s_neg (de_int rfl)))) (da_nil rfl)))) (da_nil rfl)))))) (dss_one (ds_retO rfl))))⟩
theorem ok__law_far_walk (M : Mo K mg) : Kn P w K mg base (gOf K) "_law_far_walk" 2 2 false s__law_far_walk := let ⟨fd, F, b, D⟩ := fx__law_far_walk M; ⟨_, fd, _, rfl, F, g__law_far_walk M, D.kp, b⟩
theorem fx__law_great_right (M : Mo K mg) : ∃ fd, FnG P w K mg base (gOf K) 5 (x__law_great_right.adr K) fd ["jar", "made", "raw"] true s__law_great_right ∧ Binds K fd ["jar", "made", "raw"] [] ∧ FunD K x__law_great_right.name x__law_great_right.qual x__law_great_right.params x__law_great_right.body x__law_great_right.scope [] [] (x__law_great_right.adr K) fd := by
  obtain ⟨fd, F⟩ := M.says.def_ 31 (d := x__law_great_right)
  refine ⟨fd, funG F sc__law_great_right (fun cdv A outer s H hr hgd => ?bd), (F.bindsN fun _ _ _ _ _ _ us hl => match us, hl with | [_, _, _], _ => rfl), F⟩
  case bd => exact ⟨_, by decide, (dss_cons (ds_own rfl sc__law_great_right.nd (de_lst rfl (da_cons rfl (de_int rfl) (da_cons rfl (de_ix rfl (de_var rfl) (de_int rfl)) (da_cons rfl (de_callJ rfl (ok__law_dip M) (hr.mono (by decide)) hgd (da_cons rfl (de_ix rfl (de_var rfl) (de_int rfl)) (da_nil rfl))) (da_nil rfl)))))) (dss_cons (ds_for rfl PassesOwn.never rfl (di_seq rfl (de_ix rfl (de_var rfl) (de_int rfl))) (dg_tup rfl rfl (gn_cons (pg_name sc__law_great_right.nd rfl (by first | exact Or.inl rfl | exact Or.inr rfl)) (gn_cons (pg_name sc__law_great_right.nd rfl (by first | exact Or.inl rfl | exact Or.inr rfl)) gn_nil))) (dss_one (ds_ext rfl (ha := (da_cons rfl (de_lst rfl (da_cons rfl (de_var rfl) (da_cons rfl (de_bin rfl op_sub s_sub (de_var rfl) (de_ix rfl (de_ix rfl (de_var rfl) (de_int rfl)) (de_int rfl))) (da_cons rfl (de_bin rfl op_sub s_sub (de_var rfl) (de_ix rfl (de_ix rfl (de_var rfl) (de_int rfl)) (de_bin rfl op_sub s_sub (de_int rfl) (de_var rfl)))) (da_nil rfl))))) (da_nil rfl)))))) (dss_cons (ds_for rfl PassesOwn.never rfl (di_range1 rfl (f_range M) (da_cons rfl (de_int rfl) (da_nil rfl))) (dg_name rfl (pg_name sc__law_great_right.nd rfl (by first | exact Or.inl rfl | exact Or.inr rfl))) (dss_cons (ds_set rfl sc__law_great_right.nd (de_callB rfl (o_min rfl) (s_min rfl) (f_min M) b_min (da_cons rfl (de_ix rfl (de_var rfl) (de_int rfl)) (da_cons rfl (de_callB rfl (o_max rfl) (s_max rfl) (f_max M) b_max (da_cons rfl (de_int rfl) (da_cons rfl (de_bin rfl op_sub s_sub (de_bin rfl o_add (s_add rfl) (de_ixO rfl (k := _) (hk := (de_callJ rfl (ok__law_dip M) (hr.mono (by decide)) hgd (da_cons rfl (de_lenO rfl (f_len M)) (da_nil rfl))))) (de_callJ rfl (ok__law_dip M) (hr.mono (by decide)) hgd (da_cons rfl (de_int rfl) (da_nil rfl)))) (de_int rfl)) (da_nil rfl)))) (da_nil rfl))))) (dss_cons (ds_set rfl sc__law_great_right.nd (de_call rfl (ok__law_far_walk M) (hr.mono (by decide)) hgd (da_cons rfl (de_var rfl) (da_cons rfl (de_var rfl) (da_nil rfl))))) (dss_cons (ds_set rfl sc__law_great_right.nd (de_ix rfl (de_lst rfl (da_cons rfl (de_ixO rfl (k := _) (hk := (de_callJ rfl (ok__law_dip M) (hr.mono (by decide)) hgd (da_cons rfl (de_lenO rfl (f_len M)) (da_nil rfl))))) (da_cons rfl (de_ix rfl (de_var rfl) (de_callJ rfl (ok__law_dip M) (hr.mono (by decide)) hgd (da_cons rfl (de_callB rfl call_len (s_len rfl) (f_len M) b_len (da_cons rfl (de_var rfl) (da_nil rfl))) (da_nil rfl)))) (da_nil rfl)))) (de_callJ rfl (ok__law_dip M) (hr.mono (by decide)) hgd (da_cons rfl (de_int rfl) (da_nil rfl))))) (dss_cons (ds_set rfl sc__law_great_right.nd (de_callB rfl (o_min rfl) (s_min rfl) (f_min M) b_min (da_cons rfl (de_ix rfl (de_var rfl) (de_int rfl)) (da_cons rfl (de_callB rfl (o_max rfl) (s_max rfl) (f_max M) b_max (da_cons rfl (de_int rfl) (da_cons rfl (de_bin rfl op_sub s_sub (de_var rfl) (de_callJ rfl (ok__law_dip M) (hr.mono (by decide)) hgd (da_cons rfl (de_int rfl) (da_nil rfl)))) (da_nil rfl)))) (da_nil rfl))))) (dss_cons (ds_set rfl sc__law_great_right.nd (de_call rfl (ok__law_first M) (hr.mono (by decide)) hgd (da_cons rfl (de_var rfl) (da_cons rfl (de_call rfl (ok__law_far_walk M) (hr.mono (by decide)) hgd (da_cons rfl (de_var rfl) (da_cons rfl (de_var rfl) (da_nil rfl)))) (da_nil rfl))))) (dss_one (ds_if rfl (dt_cmp rfl (o_neX hr.units) (s_neX rfl) (de_lst rfl (da_cons rfl (de_call rfl (ok_meeting M) (hr.mono (by decide)) hgd (da_cons rfl (de_var rfl) (da_cons rfl (de_ix rfl (de_var rfl) (de_int rfl)) (da_cons rfl (de_var rfl) (da_cons rfl (de_var rfl) (da_nil rfl)))))) (da_cons rfl (de_call rfl (ok_meeting M) (hr.mono (by decide)) hgd (da_cons rfl (de_var rfl) (da_cons rfl (de_ix rfl (de_var rfl) (de_int rfl)) (da_cons rfl (de_var rfl) (da_cons rfl (de_var rfl) (da_nil rfl)))))) (da_nil rfl)))) (de_lst rfl (da_cons rfl (de_var rfl) (da_cons rfl (de_var rfl) (da_nil rfl)))) (by first | exact nomark _ | rfl)) (dss_one (ds_ret rfl (de_bl rfl))) dss_nil)))))))) (dss_one (ds_ret rfl (de_bl rfl))))))⟩
theorem ok__law_great_right (M : Mo K mg) : Kn P w K mg base (gOf K) "_law_great_right" 5 3 true s__law_great_right := let ⟨fd, F, b, D⟩ := fx__law_great_right M; ⟨_, fd, _, rfl, F, g__law_great_right M, D.kp, b⟩
theorem fx__law_other (M : Mo K mg) : ∃ fd, FnG P w K mg base (gOf K) 2 (x__law_other.adr K) fd ["jar", "raw"] true s__law_other ∧ Binds K fd ["jar", "raw"] [] ∧ FunD K x__law_other.name x__law_other.qual x__law_other.params x__law_other.body x__law_other.scope [] [] (x__law_other.adr K) fd := by
  obtain ⟨fd, F⟩ := M.says.def_ 32 (d := x__law_other)
  refine ⟨fd, funG F sc__law_other (fun cdv A outer s H hr hgd => ?bd), (F.bindsN fun _ _ _ _ _ _ us hl => match us, hl with | [_, _], _ => rfl), F⟩
  case bd => exact ⟨_, by decide, (dss_cons (ds_set rfl sc__law_other.nd (de_bin rfl o_add (s_add rfl) (de_ix rfl (de_ix rfl (de_var rfl) (de_int rfl)) (de_int rfl)) (de_callJ rfl (ok__law_dip M) (hr.mono (by decide)) hgd (da_cons rfl (de_bin rfl o_add (s_add rfl) (de_ix rfl (de_ix rfl (de_var rfl) (de_int rfl)) (de_int rfl)) (de_int rfl)) (da_nil rfl))))) (dss_cons (ds_set rfl sc__law_other.nd (de_bin rfl o_add (s_add rfl) (de_var rfl) (de_callJ rfl (ok__law_dip M) (hr.mono (by decide)) hgd (da_cons rfl (de_bin rfl o_add (s_add rfl) (de_ix rfl (de_ix rfl (de_var rfl) (de_int rfl)) (de_int rfl)) (de_int rfl)) (da_nil rfl))))) (dss_one (ds_ret rfl (de_tup rfl (da_cons rfl (de_ix rfl (de_var rfl) (de_int rfl)) (da_cons rfl (de_ix rfl (de_var rfl) (de_int rfl)) (da_cons rfl (de_tup rfl (da_cons rfl (de_var rfl) (da_cons rfl (de_var rfl) (da_cons rfl (de_bin rfl o_add (s_add rfl) (de_callB rfl (o_max rfl) (s_max rfl) (f_max M) b_max (da_cons rfl (de_var rfl) (da_cons rfl (de_ix rfl (de_ix rfl (de_var rfl) (de_int rfl)) (de_int rfl)) (da_nil rfl)))) (de_callJ rfl (ok__law_dip M) (hr.mono (by decide)) hgd (da_cons rfl (de_bin rfl o_add (s_add rfl) (de_ix rfl (de_ix rfl (de_var rfl) (de_int rfl)) (de_int rfl)) (de_int rfl)) (da_nil rfl)))) (da_nil rfl))))) (da_nil rfl)))))))))⟩
theorem ok__law_other (M : Mo K mg) : Kn P w K mg base (gOf K) "_law_other" 2 2 true s__law_other := let ⟨fd, F, b, D⟩ := fx__law_other M; ⟨_, fd, _, rfl, F, g__law_other M, D.kp, b⟩
theorem fx_law (M : Mo K mg) : ∃ fd, FnG P w K mg base (gOf K) 8 (x_law.adr K) fd ["script"] false s_law ∧ Binds K fd ["script"] [] ∧ FunD K x_law.name x_law.qual x_law.params x_law.body x_law.scope [] [] (x_law.adr K) fd := by
  obtain ⟨fd, F⟩ := M.says.def_ 33 (d := x_law)
  refine ⟨fd, funG F sc_law (fun cdv A outer s H hr hgd => ?bd), (F.bindsN fun _ _ _ _ _ _ us hl => match us, hl with | [_], _ => rfl), F⟩
  case bd => exact ⟨_, by decide, (dss_cons (ds_for rfl PassesOwn.never rfl (di_range1 rfl (f_range M) (da_cons rfl (de_callB rfl (o_max rfl) (s_max rfl) (f_max M) b_max (da_cons rfl (de_int rfl) (da_cons rfl (de_callB rfl (o_min rfl) (s_min rfl) (f_min M) b_min (da_cons rfl (de_int rfl) (da_cons rfl (de_callB rfl call_len (s_len rfl) (f_len M) b_len (da_cons rfl (de_var rfl) (da_nil rfl))) (da_nil rfl)))) (da_nil rfl)))) (da_nil rfl))) (dg_name rfl (pg_name sc_law.nd rfl (by first | exact Or.inl rfl | exact Or.inr rfl))) (dss_cons (ds_own rfl sc_law.nd (de_call rfl (ok__law_jar M) (hr.mono (by decide)) hgd (da_cons rfl (de_var rfl) (da_cons rfl (de_var rfl) (da_nil rfl))))) (dss_one (ds_for rfl PassesOwn.never rfl (di_range1 rfl (f_range M) (da_cons rfl (de_int rfl) (da_nil rfl))) (dg_name rfl (pg_name sc_law.nd rfl (by first | exact Or.inl rfl | exact Or.inr rfl))) (dss_cons (ds_set rfl sc_law.nd (de_callJ rfl (ok__law_small M) (hr.mono (by decide)) hgd (da_cons rfl (de_int rfl) (da_nil rfl)))) (dss_cons (ds_set rfl sc_law.nd (de_call rfl (ok__law_heap M) (hr.mono (by decide)) hgd (da_cons rfl (de_var rfl) (da_nil rfl)))) (dss_cons (ds_for rfl PassesOwn.never rfl (di_seq rfl (de_bin rfl o_add (s_add rfl) (de_lst rfl (da_cons rfl (de_var rfl) (da_nil rfl))) (de_callJ rfl (ok__law_others M) (hr.mono (by decide)) hgd (da_cons rfl (de_var rfl) (da_nil rfl))))) (dg_name rfl (pg_name sc_law.nd rfl (by first | exact Or.inl rfl | exact Or.inr rfl))) (dss_one (ds_if rfl (dt_not rfl (dt_val rfl (de_call rfl (ok__law_small_right M) (hr.mono (by decide)) hgd (da_cons rfl (de_var rfl) (da_cons rfl (de_var rfl) (da_nil rfl)))))) (dss_one (ds_ret rfl (de_bl rfl))) dss_nil))) (dss_one (ds_for rfl PassesOwn.never rfl (di_seq rfl (de_lst rfl (da_cons rfl (de_callJ rfl (ok__law_great M) (hr.mono (by decide)) hgd (da_cons rfl (de_int rfl) (da_nil rfl))) (da_cons rfl (de_callJ rfl (ok__law_great M) (hr.mono (by decide)) hgd (da_cons rfl (de_int rfl) (da_nil rfl))) (da_nil rfl))))) (dg_name rfl (pg_name sc_law.nd rfl (by first | exact Or.inl rfl | exact Or.inr rfl))) (dss_cons (ds_set rfl sc_law.nd (de_call rfl (ok__law_heap M) (hr.mono (by decide)) hgd (da_cons rfl (de_var rfl) (da_nil rfl)))) (dss_one (ds_if rfl (dt_w (dw_or rfl (dt_not rfl (dt_val rfl (de_callJ rfl (ok__law_great_right M) (hr.mono (by decide)) hgd (da_cons rfl (de_var rfl) (da_cons rfl (de_var rfl) (da_nil rfl)))))) (dw_or1 (dt_not rfl (dt_val rfl (de_callJ rfl (ok__law_great_right M) (hr.mono (by decide)) hgd (da_cons rfl (de_var rfl) (da_cons rfl (de_callJ rfl (ok__law_other M) (hr.mono (by decide)) hgd (da_cons rfl (de_var rfl) (da_nil rfl))) (da_nil rfl))))))))) (dss_one (ds_ret rfl (de_bl rfl))) dss_nil)))))))))))) (dss_cons (ds_set rfl sc_law.nd (de_make rfl (kc_Row M) (hr.mono (by decide)) hgd (da_cons rfl (de_int rfl) (da_cons rfl (de_lst rfl (da_cons rfl (de_int rfl) (da_cons rfl (de_int rfl) (da_cons rfl (de_int rfl) (da_cons rfl (de_int rfl) (da_nil rfl)))))) (da_cons rfl (de_lst rfl (da_cons rfl (de_int rfl) (da_cons rfl (de_int rfl) (da_nil rfl)))) (da_nil rfl)))))) (dss_cons (ds_set rfl sc_law.nd (de_lst rfl (da_cons rfl (de_call rfl (ok_meeting M) (hr.mono (by decide)) hgd (da_cons rfl (de_var rfl) (da_cons rfl (de_tup rfl (da_cons rfl (de_int rfl) (da_cons rfl (de_int rfl) (da_cons rfl (de_int rfl) (da_nil rfl))))) (da_cons rfl (de_int rfl) (da_cons rfl (de_int rfl) (da_nil rfl)))))) (da_cons rfl (de_call rfl (ok_meeting M) (hr.mono (by decide)) hgd (da_cons rfl (de_var rfl) (da_cons rfl (de_tup rfl (da_cons rfl (de_int rfl) (da_cons rfl (de_int rfl) (da_cons rfl (de_int rfl) (da_nil rfl))))) (da_cons rfl (de_int rfl) (da_cons rfl (de_int rfl) (da_nil rfl)))))) (da_cons rfl (de_call rfl (ok_meeting M) (hr.mono (by decide)) hgd (da_cons rfl (de_var rfl) (da_cons rfl (de_tup rfl (da_cons rfl (de_int rfl) (da_cons rfl (de_int rfl) (da_cons rfl (de_int rfl) (da_nil rfl))))) (da_cons rfl (de_int rfl) (da_cons rfl (de_int rfl) (da_nil rfl)))))) (da_nil rfl)))))) (dss_cons (ds_if rfl (dt_w (dw_or rfl (dt_cmp rfl (o_neX hr.units) (s_neX rfl) (de_var rfl) (de_lst rfl (da_cons rfl (de_int rfl) (da_cons rfl (de_int rfl) (da_cons rfl (de_int rfl) (da_nil rfl))))) (by first | exact nomark _ | rfl)) (dw_or1 (dt_cmp rfl (o_neX hr.units) (s_neX rfl) (de_call rfl (ok_meeting M) (hr.mono (by decide)) hgd (da_cons rfl (de_var rfl) (da_cons rfl (de_tup rfl (da_cons rfl (de_int rfl) (da_cons rfl (de_int rfl) (da_cons rfl (de_int rfl) (da_nil rfl))))) (da_cons rfl (de_int rfl) (da_cons rfl (de_int rfl) (da_nil rfl)))))) (de_int rfl) (by first | exact nomark _ | rfl))))) (dss_one (ds_ret rfl (de_bl rfl))) dss_nil) (dss_one (ds_ret rfl (de_and rfl (de_cmp rfl (o_eqX hr.units) (s_eqX rfl) (de_callK0 rfl (kk_meeting_0_first_second_row_settings M) (hr.mono (by decide)) hgd (dk_cons rfl (de_int rfl) (dk_cons rfl (de_int rfl) (dk_cons rfl (de_var rfl) (dk_cons rfl (de_tup rfl (da_cons rfl (de_int rfl) (da_cons rfl (de_int rfl) (da_cons rfl (de_int rfl) (da_nil rfl))))) (dk_nil rfl)))))) (de_int rfl) (by first | exact nomark _ | rfl)) (de_one (de_cmp rfl (o_eqX hr.units) (s_eqX rfl) (de_call rfl (ok_meeting M) (hr.mono (by decide)) hgd (da_cons rfl (de_var rfl) (da_cons rfl (de_tup rfl (da_cons rfl (de_int rfl) (da_cons rfl (de_int rfl) (da_cons rfl (de_int rfl) (da_nil rfl))))) (da_cons rfl (de_int rfl) (da_cons rfl (de_int rfl) (da_nil rfl)))))) (de_int rfl) (by first | exact nomark _ | rfl))))))))))⟩
end
theorem facts_law {P : Program} {w : World} {K : PySem.W.Frag} {h : Heap} {mg : Str → Option Value} {f : Addr} (X : K.In h) (Gn : h.Ns mainGlobals mg) (hfa : mg ("law" : Str) = some (.ref f)) (c : SaysX faL fnL K) :
    ∃ fd : FuncData, (∀ (s : Shared) (v : Value), BindsTo s fd ⟨[v], []⟩ [("script", v)]) ∧ ∀ base : Heap, K.In base → base.Ns mainGlobals mg → FnG P w K mg base (gOf K) 8 f fd ["script"] false s_law := by
  have M : Mo K mg := ⟨⟨h, X, Gn⟩, c⟩
  have e := hfa.symm.trans (g_law M)
  cases e
  obtain ⟨fd, _, _, D⟩ := fx_law (P := P) (w := w) (base := h) M
  have b := FunD.bindsA (ps := ["script"]) D fun _ _ _ _ _ _ us hl => match us, hl with | [_], _ => rfl
  refine ⟨fd, fun s v => b s [v] rfl, fun base _ _ => ?_⟩
  obtain ⟨fd2, F, _, D2⟩ := fx_law (P := P) (w := w) (base := base) M
  have ee : fd2 = fd := FunD.one D2 D
  rw [← ee]
  exact F
abbrev hkL : PySem.W.Hook := hookX 7 faL fnL
def obL (s : PySem.W.SharedT) : AlX := obsXG 7 faL fnL (HandSHeadRun.getT s)
theorem obL_eq (s : PySem.W.SharedT) : obL s = hkL.obs s.abs := obsXG_eq (HandSHeadRun.getT_eq s)
def looseL : List Str := (["_wall", "CutError", "InvalidRow", "InvalidSettings", "InvalidPlace", "TooLarge", "MOST_MARKS", "is_between", "are_ascending", "first_at", "has_place", "are_marks", "need_place", "Row", "MOST_STEPS", "are_settings", "need_settings", "need_short", "Track", "track_of", "meeting", "_law_jar", "_law_dip", "_law_three", "_law_small", "_law_great", "_law_heap", "_law_slow", "_law_slow_walk", "_law_far"] : List Str) ++ (["_law_far_walk", "_law_other", "_law_others", "_law_first", "_law_small_right", "_law_great_right"] : List Str)
theorem run_top (w : World) : HandSHeadRun.RunEq (PySem.W.OpenLaw.row PySem.Challenge.rw_cutwalks_k20_meetings_of_walks) (PySem.W.view (PySem.W.OpenLaw.row PySem.Challenge.rw_cutwalks_k20_meetings_of_walks).prog [41]) hkL obL 20000 looseL w := by
  intro os
  kernel_rfl
end G
open PySem PySem.W PySem.Calls PyProof.Rows in
theorem law_end (plain : ∀ ns : List Int, ns.length ≤ 63 → (G.s_law [.scr ns]).all fun p => p.1 = .bl true) : PySem.Challenge.rw_cutwalks_k20_meetings_of_walks.Holds := by
  w_on; o_law
  refine HandSHeadRun.head_any (r := OpenLaw.row PySem.Challenge.rw_cutwalks_k20_meetings_of_walks) (q := view (OpenLaw.row PySem.Challenge.rw_cutwalks_k20_meetings_of_walks).prog [41]) (H := G.hkL) (ob := G.obL) (M := 20000) (loose := G.looseL) (d := HandSHeadRun.topDef (OpenLaw.row PySem.Challenge.rw_cutwalks_k20_meetings_of_walks).prog 41) (kwd := []) G.obL_eq
    (by kernel_rfl) (fun s => by kernel_rfl) G.run_top (by kernel_rfl) (by kernel_rfl) (by kernel_rfl) (by rfl) (by first | assumption | decide +kernel) (by decide +kernel) ⟨rfl, rfl, rfl, rfl, rfl, by decide +kernel⟩ ?hw ?hc
  case hw => w_witness2
  case hc =>
    refine G.walk_G (l := PySem.Challenge.rw_cutwalks_k20_meetings_of_walks) (n := 63) (k := 8) (x := "script") rfl (by decide) (by kernel_rfl) ⟨rfl, by decide, by decide⟩ ?F
    intro w mg fa h Y Gn hmg0
    obtain ⟨K, KX, c⟩ := Y
    have hmg : mg ("law" : PySem.Str) = some (.ref fa) := by
      have e : (HandSHeadRun.topDef (OpenLaw.row PySem.Challenge.rw_cutwalks_k20_meetings_of_walks).prog 41).name = ("law" : PySem.Str) := by kernel_rfl
      rw [← e]
      exact hmg0
    obtain ⟨fd, hb, hF⟩ := G.facts_law (P := (PySem.Challenge.rw_cutwalks_k20_meetings_of_walks).prog) (w := w) KX Gn hmg c
    exact ⟨K, fd, G.gOf K, G.s_law, rfl, KX, hb, plain, hF⟩

namespace G
open PySem PySem.Spec PyProof.Rows L2
local macro_rules | `(tactic| walk_at "g") => `(tactic| first
  | refine k_seq ?_ | refine k_set ?_ | refine k_ret ?_ | refine k_skip ?_ | refine k_expr ?_ | refine k_var rfl ?_ | refine k_c ?_ | refine k_nil ?_ | refine k_cons ?_ | refine k_bin ?_ | refine k_un ?_ | refine k_blt ?_
  | refine k_cmp ?_ | refine k_val ?_ | refine k_and2 ?_ | refine k_or2 ?_ | refine k_not1 ?_ | refine k_ifx ?_ | refine k_if ?_ | refine k_ixO rfl ?_ | refine k_callJ rfl ?_ | refine k_call ?_ | refine k_put ?_ | refine k_fz rfl ?_ | refine k_tg ?_ | refine k_own ?_ | refine k_for ?_
  | refine ⟨_, _, _, rfl, rfl, atI_0 _ _, ?_⟩ | refine ⟨_, _, _, rfl, rfl, atI_1 _ _ _, ?_⟩ | refine ⟨_, _, _, rfl, rfl, atI_2 _ _ _ _, ?_⟩ | refine ⟨_, _, rfl, ?_⟩)
local macro_rules | `(tactic| walk_at "s") => `(tactic| repeat walk_at "g")
theorem m_is_between (v lo hi : Int) : s_is_between [.int v, .int lo, .int hi] = .ok (.bl (decide (lo ≤ v ∧ v ≤ hi)), false, []) := by
  unfold s_is_between b_is_between runFn initE finE
  simp [isB, tyD, Bty.is]
  by_cases h : lo ≤ v <;> simp [h]
theorem m_is_between0 (v lo : Int) : s_is_between [.int v, .int lo, .non] = .ok (.bl (decide (lo ≤ v)), false, []) := by
  unfold s_is_between b_is_between runFn initE finE
  simp [isB, tyD, Bty.is]
  by_cases h : lo ≤ v <;> simp [h]
/-! ### the jar -/
def JB : Int := 10 ^ 47
def JarOk (n : Nat) (J : List D) : Prop := ∃ a b c : Int, J = [.int a, .int b, .int c] ∧ 0 ≤ a ∧ 0 ≤ b ∧ b ≤ JB ∧ 0 ≤ c ∧ c ≤ n
theorem log_le {i : Int} {k : Nat} (h0 : 0 ≤ i) (h : i < 2 ^ k) : i.natAbs.log2 ≤ k := by
  by_cases z : i.natAbs = 0
  · rw [z]; exact Nat.zero_le _
  · have h1 : i.natAbs < 2 ^ k := by
      have : (i.natAbs : Int) = i := Int.natAbs_of_nonneg h0
      have h2 : ((2 ^ k : Nat) : Int) = (2 : Int) ^ k := by simp
      omega
    exact Nat.le_of_lt ((Nat.log2_lt z).mpr h1)
theorem w_dip {n : Nat} {J : List D} {m : Int} {P : D × Bool × List D → Prop} (hJ : JarOk n J) (hn : n ≤ 1000000000) (hm : 0 < m) (hm2 : m < 2 ^ 200)
    (h : ∀ (d : Int) (J' : List D), 0 ≤ d → d < m → JarOk (n + 1) J' → P (.int d, false, J')) : (s__law_dip [.lst J, .int m]).all P := by
  obtain ⟨a, b, c, rfl, ha, hb, hb2, hc, hc2⟩ := hJ
  have lm : m.natAbs.log2 < 9000 := Nat.lt_of_le_of_lt (log_le (Int.le_of_lt hm) hm2) (by decide)
  unfold s__law_dip
  refine w_run rfl ?_
  unfold b__law_dip
  refine k_seq (k_if ?_)
  refine k_cmp (k_ixO rfl (k_c ⟨_, _, _, rfl, rfl, atI_0 _ _, k_c ⟨_, _, rfl, ?_⟩⟩))
  constructor
  · intro h0
    refine k_seq (k_set (k_bin (k_blt (k_cons (k_ixO rfl (k_c ⟨_, _, _, rfl, rfl, atI_0 _ _, k_nil ⟨_, _, rfl, k_var rfl ⟨.int (a % m), false, by simp [hm], ?_⟩⟩⟩))))))
    refine k_seq (k_put (k_bin (k_ixO rfl (k_c ⟨_, _, _, rfl, rfl, atI_0 _ _, k_var rfl ⟨.int (a / m), false, by simp [hm, lm], rfl, k_c ⟨_, _, 0, rfl, rfl, by simp, ?_⟩⟩⟩))))
    refine k_ret (k_var rfl ?_)
    refine h _ _ (Int.emod_nonneg _ (by omega)) (Int.emod_lt_of_pos _ hm) ⟨a / m, b, c, rfl, Int.ediv_nonneg ha (by omega), hb, hb2, hc, by omega⟩
  · intro h0
    have hn' : (n : Int) ≤ 1000000000 := by omega
    have e2 : ∀ x : Int, atI [D.int a, D.int b, D.int x] 2 = some (.int x) := fun x => atI_2 _ _ _ _
    have mulc : ∀ k : Int, 0 ≤ k → k ≤ 2 ^ 40 → mulD (.int k) (.int (c + 1)) = some (.int (k * (c + 1)), false) := fun k k0 k1 => by
      rw [x_mulI, if_pos]
      have l1 := log_le (k := 41) k0 (by omega)
      have l2 := log_le (i := c + 1) (k := 41) (by omega) (by omega)
      omega
    have cube : ∀ x : Int, 0 ≤ x → x ≤ 2 ^ 200 → powD (.int x) (.int 3) = some (.int (x ^ (3 : Int).toNat), false) := fun x x0 x1 => by
      rw [x_powI, if_pos]
      refine ⟨by decide, ?_⟩
      have l1 := log_le (i := x) (k := 201) x0 (by omega)
      show (x.natAbs.log2 + 1) * 3 ≤ _
      omega
    have p47 : powD (.int 10) (.int 47) = some (.int (10 ^ (47 : Int).toNat), false) := by rw [x_powI, if_pos (by decide)]
    have p46 : powD (.int 10) (.int 46) = some (.int (10 ^ (46 : Int).toNat), false) := by rw [x_powI, if_pos (by decide)]
    refine k_skip (k_seq (k_put (k_bin (k_ixO rfl (k_c ⟨_, _, _, rfl, rfl, atI_2 _ _ _ _, k_c ⟨_, _, rfl, rfl, k_c ⟨_, _, 2, rfl, rfl, by simp, ?_⟩⟩⟩)))))
    have jb := hb2
    unfold JB at jb
    have q1 : 0 ≤ b + 60000049 * (c + 1) ∧ b + 60000049 * (c + 1) ≤ 2 ^ 200 := by omega
    have md : ∀ x y : Int, 0 < y → modD (.int x) (.int y) = some (.int (x % y), false) := fun x y hy => by rw [x_modI, if_pos hy]
    walk_at "s"
    refine ⟨_, _, mulc _ (by decide) (by decide), ?_⟩
    walk_at "s"
    refine ⟨_, _, cube _ q1.1 q1.2, ?_⟩
    walk_at "s"
    generalize hx : (b + 60000049 * (c + 1)) ^ (3 : Int).toNat % (10 ^ (47 : Int).toNat + 91) = x
    have x0 : 0 ≤ x := by rw [← hx]; exact Int.emod_nonneg _ (by decide)
    have x1 : x < 10 ^ (47 : Int).toNat + 91 := by rw [← hx]; exact Int.emod_lt_of_pos _ (by decide)
    have x2 : (10 : Int) ^ (47 : Int).toNat + 91 ≤ 2 ^ 190 := by decide
    have q2 : 0 ≤ x + 35000021 * (c + 1) ∧ x + 35000021 * (c + 1) ≤ 2 ^ 200 := by omega
    walk_at "s"
    refine ⟨_, _, mulc _ (by decide) (by decide), ?_⟩
    walk_at "s"
    refine ⟨_, _, cube _ q2.1 q2.2, ?_⟩
    walk_at "s"
    refine ⟨_, _, md _ _ hm, ?_⟩
    exact h _ _ (Int.emod_nonneg _ (by omega)) (Int.emod_lt_of_pos _ hm) ⟨a, b, c + 1, rfl, ha, hb, hb2, by omega, by omega⟩
/-! ### places among ascending ones -/
def sq (t : Bool) (ds : List D) : D := if t = true then .tup ds else .lst ds
theorem sq_len (t : Bool) (ds : List D) : lenD [sq t ds] = some (.int ds.length, false) := by cases t <;> rfl
theorem sq_ix (t : Bool) (ds : List D) (i : Int) : ixD (sq t ds) (.int i) = (atI ds i).map fun d => (d, false) := by cases t <;> rfl
theorem at_ints {ns : List Int} {i : Nat} (h : i < ns.length) : atI (ns.map D.int) (i : Int) = some (.int ns[i]) := by
  rw [atI_pos _ _ (by omega) (by simpa using h)]
  simp [h]
theorem sq_at {t : Bool} {ns : List Int} {i : Nat} (h : i < ns.length) : ixD (sq t (ns.map D.int)) (.int (i : Int)) = some (.int ns[i], false) := by
  rw [sq_ix, at_ints h]
  rfl
/-- how many lie below x -/
def cl (x : Int) (ns : List Int) : Nat := ns.countP fun y => decide (y < x)
theorem cl_of {x : Int} {ns : List Int} {c : Nat} (hc : c ≤ ns.length) (h1 : ∀ (i : Nat) (h : i < ns.length), i < c → ns[i] < x) (h2 : ∀ (i : Nat) (h : i < ns.length), c ≤ i → x ≤ ns[i]) : cl x ns = c := by
  unfold cl
  rw [← List.take_append_drop c ns, List.countP_append]
  have e1 : (ns.take c).countP (fun y => decide (y < x)) = (ns.take c).length := by
    rw [List.countP_eq_length]
    intro y hy
    obtain ⟨i, hi, rfl⟩ := List.getElem_of_mem hy
    have hi' : i < c ∧ i < ns.length := by simp only [List.length_take] at hi; omega
    simp only [List.getElem_take, decide_eq_true_eq]
    exact h1 i hi'.2 hi'.1
  have e2 : (ns.drop c).countP (fun y => decide (y < x)) = 0 := by
    rw [List.countP_eq_zero]
    intro y hy
    obtain ⟨i, hi, rfl⟩ := List.getElem_of_mem hy
    have hi' : i < ns.length - c := by simpa using hi
    simp only [List.getElem_drop, decide_eq_true_eq]
    have := h2 (c + i) (by omega) (by omega)
    omega
  rw [e1, e2, List.length_take]
  omega
theorem asc_get {ns : List Int} (hs : ns.Pairwise (· < ·)) {i j : Nat} (hi : i < ns.length) (hj : j < ns.length) (h : i < j) : ns[i] < ns[j] := List.pairwise_iff_getElem.mp hs i j hi hj h
theorem cl_spec {x : Int} {ns : List Int} (hs : ns.Pairwise (· < ·)) : cl x ns ≤ ns.length ∧ (∀ (i : Nat) (h : i < ns.length), i < cl x ns → ns[i] < x) ∧ ∀ (i : Nat) (h : i < ns.length), cl x ns ≤ i → x ≤ ns[i] := by
  induction ns with
  | nil => exact ⟨Nat.le_refl _, fun i h => absurd h (Nat.not_lt_zero _), fun i h => absurd h (Nat.not_lt_zero _)⟩
  | cons n r ih =>
    obtain ⟨h1, h2⟩ := List.pairwise_cons.mp hs
    obtain ⟨i1, i2, i3⟩ := ih h2
    by_cases hn : n < x
    · have e : cl x (n :: r) = cl x r + 1 := by unfold cl; rw [List.countP_cons]; simp [hn]
      rw [e]
      refine ⟨by simp; omega, fun i h hi => ?_, fun i h hi => ?_⟩
      · cases i with
        | zero => exact hn
        | succ i => simpa using i2 i (by simpa using h) (by omega)
      · cases i with
        | zero => omega
        | succ i => simpa using i3 i (by simpa using h) (by omega)
    · have e0 : cl x r = 0 := by
        unfold cl
        rw [List.countP_eq_zero]
        intro y hy
        have := h1 y hy
        simp
        omega
      have e : cl x (n :: r) = 0 := by
        unfold cl at e0 ⊢
        rw [List.countP_cons, e0]
        simp [hn]
      rw [e]
      refine ⟨Nat.zero_le _, fun i h hi => absurd hi (Nat.not_lt_zero _), fun i h _ => ?_⟩
      cases i with
      | zero => simp; omega
      | succ i =>
        have hr : i < r.length := by simpa using h
        have := h1 r[i] (List.getElem_mem hr)
        simp
        omega
theorem m_first_at (t : Bool) (ns : List Int) (x : Int) (hs : ns.Pairwise (· < ·)) (hl : ns.length ≤ 90000) : s_first_at [sq t (ns.map D.int), .int x] = .ok (.int (cl x ns : Nat), false, []) := by
  refine eq_of_all ?_
  unfold s_first_at
  refine w_run rfl ?_
  unfold b_first_at
  refine k_seq (k_par (k_cons (k_c (k_cons (k_blt (k_cons (k_var rfl (k_nil ⟨_, _, sq_len _ _, k_nil ⟨_, _, rfl, ?_⟩⟩))))))))
  let I : Nat → En → Prop := fun m e => ∃ (lo hi : Nat) (z : Option SV), e = [some (.val (sq t (ns.map D.int))), some (.val (.int x)), some (.val (.int (lo : Nat))), some (.val (.int (hi : Nat))), z] ∧ lo ≤ hi ∧ hi ≤ ns.length ∧ m = hi - lo ∧
    (∀ (i : Nat) (h : i < ns.length), i < lo → ns[i] < x) ∧ (∀ (i : Nat) (h : i < ns.length), hi ≤ i → x ≤ ns[i])
  refine k_seq (w_while I ?_ fuel ns.length _ (by unfold fuel; omega) ⟨0, ns.length, none, by simp, Nat.zero_le _, Nat.le_refl _, rfl, fun i h hi => absurd hi (Nat.not_lt_zero _), fun i h hi => absurd h (by omega)⟩)
  rintro m e ⟨lo, hi, z, rfl, h1, h2, rfl, h3, h4⟩
  refine k_cmp (k_var rfl (k_var rfl ⟨_, _, rfl, ?_⟩))
  by_cases hlt : lo < hi
  · have hd : decide ((lo : Int) < (hi : Int)) = true := decide_eq_true (by omega)
    rw [if_pos hd]
    have hm : ((lo : Int) + (hi : Int)) / 2 = (((lo + hi) / 2 : Nat) : Int) := by omega
    have hml : (lo + hi) / 2 < ns.length := by omega
    refine k_seq (k_set (k_bin (k_bin (k_var rfl (k_var rfl ⟨_, _, rfl, k_c ⟨.int ((lo + hi) / 2 : Nat), false, by rw [x_divI, if_pos (by decide), hm], ?_⟩⟩)))))
    refine k_if (k_cmp (k_bin (k_var rfl (k_var rfl ⟨_, _, sq_at hml, k_var rfl ⟨_, _, rfl, ?_, ?_⟩⟩))))
    · intro hb
      have hb := of_decide_eq_true hb
      refine k_set (k_bin (k_var rfl (k_c ⟨_, _, rfl, hi - ((lo + hi) / 2 + 1), by omega, (lo + hi) / 2 + 1, hi, _, rfl, by omega, h2, rfl, fun i h hi' => ?_, h4⟩)))
      rcases Nat.lt_or_ge i ((lo + hi) / 2) with q | q
      · have := asc_get hs h hml q
        omega
      · have e : i = (lo + hi) / 2 := by omega
        subst e
        exact hb
    · intro hb
      have hb := of_decide_eq_false hb
      refine k_set (k_var rfl ⟨(lo + hi) / 2 - lo, by omega, lo, (lo + hi) / 2, _, rfl, by omega, by omega, rfl, h3, fun i h hi' => ?_⟩)
      rcases Nat.lt_or_ge ((lo + hi) / 2) i with q | q
      · have := asc_get hs hml h q
        omega
      · have e : i = (lo + hi) / 2 := by omega
        subst e
        omega
  · have hd : ¬ decide ((lo : Int) < (hi : Int)) = true := by simp; omega
    rw [if_neg hd]
    have e : cl x ns = lo := cl_of (by omega) h3 (fun i h hi' => h4 i h (by omega))
    refine k_ret (k_var rfl ?_)
    rw [e]
    rfl
theorem m_has_place (t : Bool) (ns : List Int) (x : Int) (hs : ns.Pairwise (· < ·)) (hl : ns.length ≤ 90000) : s_has_place [sq t (ns.map D.int), .int x] = .ok (.bl (decide (x ∈ ns)), false, []) := by
  refine eq_of_all ?_
  unfold s_has_place
  refine w_run rfl ?_
  unfold b_has_place
  refine k_seq (k_set (k_call (k_cons (k_var rfl (k_cons (k_var rfl (k_nil (k_eq (m_first_at t ns x hs hl) ?_))))))))
  obtain ⟨c1, c2, c3⟩ := cl_spec (x := x) hs
  refine k_ret (k_and (k_bin (k_var rfl (k_blt (k_cons (k_var rfl (k_nil ⟨_, _, sq_len _ _, _, _, rfl, _, rfl, ?_, ?_⟩)))))))
  · intro hb
    have hb : ((cl x ns : Nat) : Int) < ((ns.map D.int).length : Nat) := of_decide_eq_true hb
    have hc : cl x ns < ns.length := by simpa using hb
    refine k_bin (k_bin (k_var rfl (k_var rfl ⟨_, _, sq_at hc, k_var rfl ⟨_, _, rfl, ?_⟩⟩)))
    show (D.bl (decide (ns[cl x ns] = x)), false, ([] : List D)) = (D.bl (decide (x ∈ ns)), false, [])
    have e : decide (ns[cl x ns] = x) = decide (x ∈ ns) := by
      rw [decide_eq_decide]
      constructor
      · intro h
        rw [← h]
        exact List.getElem_mem hc
      · intro h
        obtain ⟨i, hi, he⟩ := List.getElem_of_mem h
        rcases Nat.lt_trichotomy i (cl x ns) with q | q | q
        · have := c2 i hi q
          omega
        · subst q
          exact he
        · have := asc_get hs hc hi q
          have := c3 _ hc (Nat.le_refl _)
          omega
    rw [e]
  · intro hb
    have hb := of_decide_eq_false hb
    show (D.bl false, false, ([] : List D)) = (D.bl (decide (x ∈ ns)), false, [])
    have e : decide (x ∈ ns) = false := by
      rw [decide_eq_false_iff_not]
      intro h
      obtain ⟨i, hi, he⟩ := List.getElem_of_mem h
      have := c2 i hi (by have : ¬ ((cl x ns : Nat) : Int) < ((ns.map D.int).length : Nat) := hb; simp at this; omega)
      omega
    rw [e]
theorem rAll_ints (ns : List Int) (f : Int → D) : (ns.map D.int).length = ns.length := by simp
/-- a comprehension over a list: each item's answer -/
theorem comp_go {T : Tg} {c : Et} {el : Ex} {vs : List Nat} {e0 : En} {α : Type} (g : α → D) (f : α → Option D) (xs : List α)
    (h : ∀ x ∈ xs, ∀ (acc rest : List D), compLoop T c el vs (g x :: rest) acc e0 = compLoop T c el vs rest (match f x with | some y => acc ++ [y] | none => acc) e0) (acc : List D) :
    compLoop T c el vs (xs.map g) acc e0 = .ok (acc ++ xs.filterMap f, e0) := by
  induction xs generalizing acc with
  | nil => simp [compLoop]
  | cons x r ih =>
    rw [List.map_cons, h x (by simp) acc (r.map g), ih (fun y hy => h y (by simp [hy]))]
    rw [List.filterMap_cons]
    cases f x <;> simp
theorem allD_bls (bs : List Bool) : allD [.lst (bs.map D.bl)] = some (.bl (bs.all id), false) := by
  show (blsOf (bs.map D.bl)).map _ = _
  rw [blsOf_map]
  rfl
/-! ### ascending lists -/
def Asc (lo hi : Int) (ns : List Int) : Prop := (∀ n ∈ ns, lo ≤ n ∧ n ≤ hi) ∧ ns.Pairwise (· < ·)
theorem cut_tail {α : Type} (xs : List α) : cutD xs (some 1) none = xs.tail := by
  unfold cutD HT.sIx
  cases xs with
  | nil => rfl
  | cons x r => simp
theorem zip_prs : ∀ (as bs : List Int), zipL (as.map D.int) (bs.map D.int) = (as.zip bs).map pr
  | [], _ => rfl
  | _ :: _, [] => rfl
  | a :: r, b :: s => by
    show .tup [.int a, .int b] :: zipL (r.map D.int) (s.map D.int) = _
    rw [zip_prs r s]
    rfl
theorem asc_zip : ∀ {ns : List Int}, ns.Pairwise (· < ·) → ∀ p ∈ ns.zip ns.tail, p.1 < p.2
  | [], _, p, hp => by simp at hp
  | [n], _, p, hp => by simp at hp
  | n :: m :: r, h, p, hp => by
    obtain ⟨h1, h2⟩ := List.pairwise_cons.mp h
    simp only [List.tail_cons, List.zip_cons_cons, List.mem_cons] at hp
    rcases hp with rfl | hp
    · exact h1 m (by simp)
    · exact asc_zip h2 p hp
theorem all_true {α : Type} (xs : List α) : allD [.lst (xs.map fun _ => D.bl true)] = some (.bl true, false) := by
  have e : xs.map (fun _ => D.bl true) = (xs.map fun _ => true).map D.bl := by rw [List.map_map]; rfl
  rw [e, allD_bls]
  simp
theorem all_rep (n : Nat) : allD [.lst (List.replicate n (D.bl true))] = some (.bl true, false) := by
  have := all_true (List.replicate n ())
  rw [List.map_replicate] at this
  exact this
theorem m_are_ascending (lo hi : Int) (ns : List Int) (h : Asc lo hi ns) : s_are_ascending [.lst (ns.map D.int), .int lo, .int hi] = .ok (.bl true, false, []) := by
  have c1 : compLoop (tgName 3) tTrue (eCall s_is_between (aCons (eVar 3) (aCons (eVar 1) (aCons (eVar 2) aNil)))) [3] (ns.map D.int) [] [some (.val (.lst (ns.map D.int))), some (.val (.int lo)), some (.val (.int hi)), none, none] =
      .ok (ns.map fun _ => D.bl true, [some (.val (.lst (ns.map D.int))), some (.val (.int lo)), some (.val (.int hi)), none, none]) := by
    rw [comp_go D.int (fun _ => some (D.bl true)) ns]
    · simp
    · intro x hx acc rest
      rw [compLoop_c]
      have := h.1 x hx
      simp [m_is_between, this]
  have c2 : compLoop (tgTup [3, 4]) tTrue (eBin ltD (eVar 3) (eVar 4)) [3, 4] ((ns.zip ns.tail).map pr) [] [some (.val (.lst (ns.map D.int))), some (.val (.int lo)), some (.val (.int hi)), none, none] =
      .ok ((ns.zip ns.tail).map fun _ => D.bl true, [some (.val (.lst (ns.map D.int))), some (.val (.int lo)), some (.val (.int hi)), none, none]) := by
    rw [comp_go pr (fun _ => some (D.bl true)) (ns.zip ns.tail)]
    · simp
    · intro x hx acc rest
      rw [compLoop_c]
      have := asc_zip h.2 x hx
      simp [pr, this]
  have e1 : slD (.lst (ns.map D.int)) (some 1) none = some (.lst (ns.map D.int).tail, true) := by
    show some (D.lst (cutD (ns.map D.int) (some 1) none), true) = _
    rw [cut_tail]
  have e2 : zipL (ns.map D.int) (ns.map D.int).tail = (ns.zip ns.tail).map pr := by
    rw [← List.map_tail, zip_prs]
  unfold s_are_ascending b_are_ascending runFn initE finE
  simp [isB, tyD, Bty.is, itemsD, c1, e1, e2, c2, all_true, all_rep]
theorem m_are_marks (lo hi : Int) (ns cs : List Int) (h : Asc lo hi ns) (h2 : Asc lo hi cs) (hl : ns.length ≤ 400) (hc : ∀ c ∈ cs, c ∈ ns) :
    s_are_marks [.lst (ns.map D.int), .lst (cs.map D.int), .int lo, .int hi] = .ok (.bl true, false, []) := by
  have hp : ∀ c ∈ cs, s_has_place [.lst (ns.map D.int), .int c] = .ok (.bl true, false, []) := fun c hm => by
    have := m_has_place false ns c h.2 (by omega)
    rw [show decide (c ∈ ns) = true from decide_eq_true (hc c hm)] at this
    exact this
  have c1 : compLoop (tgName 4) tTrue (eCall s_has_place (aCons (eVar 0) (aCons (eVar 4) aNil))) [4] (cs.map D.int) [] [some (.val (.lst (ns.map D.int))), some (.val (.lst (cs.map D.int))), some (.val (.int lo)), some (.val (.int hi)), none] =
      .ok (cs.map fun _ => D.bl true, [some (.val (.lst (ns.map D.int))), some (.val (.lst (cs.map D.int))), some (.val (.int lo)), some (.val (.int hi)), none]) := by
    rw [comp_go D.int (fun _ => some (D.bl true)) cs]
    · simp
    · intro x hx acc rest
      rw [compLoop_c]
      simp [hp x hx]
  have hl' : ¬ (400 : Int) < (ns.length : Int) := by omega
  unfold s_are_marks b_are_marks runFn initE finE
  simp [m_are_ascending lo hi ns h, m_are_ascending lo hi cs h2, lenD, itemsD, c1, all_true, all_rep, hl']
/-! ### rows -/
theorem lk_c (f n : Str) (d : D) (r : List (Str × D)) : List.lookup f ((n, d) :: r) = if f = n then some d else List.lookup f r := by
  rw [List.lookup_cons]
  by_cases h : f = n
  · subst h
    simp
  · rw [if_neg h, beq_eq_false_iff_ne.mpr h]

def rowF : List Str := ["kept_length", "kept_marks", "kept_strict"]
def rowD (len : Int) (ns cs : List Int) : D := .obj 0 rowF [.int len, .tup (ns.map D.int), .tup (cs.map D.int)]
structure RowOk (len : Int) (ns cs : List Int) : Prop where
  one : 1 ≤ len
  a : Asc 1 (len - 1) ns
  b : Asc 1 (len - 1) cs
  few : ns.length ≤ 400
  sub : ∀ c ∈ cs, c ∈ ns
theorem m_row {len : Int} {ns cs : List Int} (h : RowOk len ns cs) : s_Rowd__initd_ [.int len, .lst (ns.map D.int), .lst (cs.map D.int)] = .ok (rowF, [.int len, .tup (ns.map D.int), .tup (cs.map D.int)]) := by
  have h1 := h.one
  unfold s_Rowd__initd_ b_Rowd__initd_ runInit initI
  simp (decide := true) [m_is_between0, m_are_marks 1 (len - 1) ns cs h.a h.b h.few h.sub, h1, sFld1, setFld, optS, tupD, finI, rowF]
theorem m_make {len : Int} {ns cs : List Int} (h : RowOk len ns cs) {fa : Ea} {e e' : En} (ha : fa e = .ok ([.int len, .lst (ns.map D.int), .lst (cs.map D.int)], e')) : eMake 0 s_Rowd__initd_ fa e = .ok (rowD len ns cs, false, e') := by
  simp [ha, m_row h, rowD]
theorem m_Row_length (len : Int) (ns cs : List Int) : s_Row_length [rowD len ns cs] = .ok (.int len, false, []) := by
  unfold s_Row_length b_Row_length runFn initE finE
  simp (decide := true) [rowD, rowF, lk_c]
theorem m_Row_marks (len : Int) (ns cs : List Int) : s_Row_marks [rowD len ns cs] = .ok (.lst (ns.map D.int), true, []) := by
  unfold s_Row_marks b_Row_marks runFn initE finE
  simp (decide := true) [rowD, rowF, listD, lk_c]
theorem m_Row_strict (len : Int) (ns cs : List Int) : s_Row_strict [rowD len ns cs] = .ok (.lst (cs.map D.int), true, []) := by
  unfold s_Row_strict b_Row_strict runFn initE finE
  simp (decide := true) [rowD, rowF, listD, lk_c]
theorem m_Row_eq (len : Int) (ns cs : List Int) : s_Rowd__eqd_ [rowD len ns cs, rowD len ns cs] = .ok (.bl true, false, []) := by
  have e : eqX (.tup [.int len, .tup (ns.map D.int), .tup (cs.map D.int)]) (.tup [.int len, .tup (ns.map D.int), .tup (cs.map D.int)]) = some (.bl true, false) := eqX_refl (k := 5) (by decide) (by
    show (okD 4 (.int len) && (okD 4 (.tup (ns.map D.int)) && (okD 4 (.tup (cs.map D.int)) && true))) = true
    rw [show okD 4 (.tup (ns.map D.int)) = okDs 3 (ns.map D.int) from rfl, show okD 4 (.tup (cs.map D.int)) = okDs 3 (cs.map D.int) from rfl, okDs_ints, okDs_ints]
    rfl)
  have sz : (3 : Nat) ≤ sizeLine := by rw [sizeLine_eq]; decide
  unfold s_Rowd__eqd_ b_Rowd__eqd_ runFn initE finE
  simp (decide := true) [rowD, rowF, lk_c, tab_Row, sz, e]
/-! ### tracks, next cuts -/
def trkF : List Str := ["last", "marked", "chosen", "least", "normal", "greatest"]
def trkD (len : Int) (ns cs : List Int) (l n g : Int) : D := .obj 1 trkF [.int len, .tup (ns.map D.int), .tup (cs.map D.int), .int l, .int n, .int g]
theorem m_track {len : Int} {ns cs : List Int} {l n g : Int} : s_Trackd__initd_ [.int len, .lst (ns.map D.int), .lst (cs.map D.int), .tup [.int l, .int n, .int g]] = .ok (trkF, [.int len, .tup (ns.map D.int), .tup (cs.map D.int), .int l, .int n, .int g]) := by
  unfold s_Trackd__initd_ b_Trackd__initd_ runInit initI
  simp (decide := true) [sFld1, sFldT, setFlds, setFld, optS, tupD, finI, trkF]
theorem m_track_of (len : Int) (ns cs : List Int) (l n g : Int) : s_track_of [rowD len ns cs, .tup [.int l, .int n, .int g]] = .ok (trkD len ns cs l n g, false, []) := by
  unfold s_track_of b_track_of runFn initE finE
  have h1 := m_Row_length len ns cs
  have h2 := m_Row_marks len ns cs
  have h3 := m_Row_strict len ns cs
  unfold rowD at h1 h2 h3 ⊢
  simp [h1, h2, h3, m_track, trkD]
/-- the first of the places that is not below x, if it lies below f -/
def upd1 (x f : Int) (ns : List Int) : Int := match ns[cl x ns]? with
  | some y => if y < f then y else f
  | none => f
theorem upd1_spec {x f : Int} {ns : List Int} (hs : ns.Pairwise (· < ·)) : (upd1 x f ns = f ∨ (upd1 x f ns ∈ ns ∧ x ≤ upd1 x f ns ∧ upd1 x f ns < f)) ∧ upd1 x f ns ≤ f ∧ ∀ y ∈ ns, x ≤ y → upd1 x f ns ≤ y := by
  obtain ⟨c1, c2, c3⟩ := cl_spec (x := x) hs
  unfold upd1
  cases hq : ns[cl x ns]? with
  | none =>
    refine ⟨.inl rfl, Int.le_refl _, fun y hy hx => ?_⟩
    obtain ⟨i, hi, rfl⟩ := List.getElem_of_mem hy
    have := c2 i hi (by have := List.getElem?_eq_none_iff.mp hq; omega)
    omega
  | some z =>
    obtain ⟨hz, rfl⟩ := List.getElem?_eq_some_iff.mp hq
    have low : ∀ y ∈ ns, x ≤ y → ns[cl x ns] ≤ y := fun y hy hx => by
      obtain ⟨i, hi, rfl⟩ := List.getElem_of_mem hy
      rcases Nat.lt_trichotomy i (cl x ns) with q | q | q
      · have := c2 i hi q
        omega
      · subst q
        exact Int.le_refl _
      · exact Int.le_of_lt (asc_get hs hz hi q)
    by_cases hf : ns[cl x ns] < f
    · dsimp only
      rw [if_pos hf]
      exact ⟨.inr ⟨List.getElem_mem hz, c3 _ hz (Nat.le_refl _), hf⟩, Int.le_of_lt hf, low⟩
    · dsimp only
      rw [if_neg hf]
      exact ⟨.inl rfl, Int.le_refl _, fun y hy hx => by have := low y hy hx; omega⟩
structure Nx (len : Int) (ns cs : List Int) (l n g p r : Int) : Prop where
  top : r ≤ min len (p + g)
  at_ : r = min len (p + g) ∨ (p + l ≤ r ∧ (r ∈ cs ∨ (r ∈ ns ∧ p + n ≤ r)))
  no : ∀ y, p + l ≤ y → y < r → ¬ (y ∈ cs ∨ (y ∈ ns ∧ p + n ≤ y))
theorem Nx.one {len : Int} {ns cs : List Int} {l n g p r r' : Int} (h : Nx len ns cs l n g p r) (h' : Nx len ns cs l n g p r') : r = r' := by
  rcases Int.lt_trichotomy r r' with q | q | q
  · rcases h.at_ with z | ⟨z1, z2⟩
    · have := h'.top
      omega
    · exact absurd z2 (h'.no r z1 q)
  · exact q
  · rcases h'.at_ with z | ⟨z1, z2⟩
    · have := h.top
      omega
    · exact absurd z2 (h.no r' z1 q)
def nxt (len : Int) (ns cs : List Int) (l n g p : Int) : Int := upd1 (p + n) (upd1 (p + l) (min len (p + g)) cs) ns
theorem nxt_ok {len : Int} {ns cs : List Int} {l n g p : Int} (hs : ns.Pairwise (· < ·)) (hc : cs.Pairwise (· < ·)) (hln : l ≤ n) : Nx len ns cs l n g p (nxt len ns cs l n g p) := by
  obtain ⟨a1, a2, a3⟩ := upd1_spec (x := p + l) (f := min len (p + g)) hc
  obtain ⟨b1, b2, b3⟩ := upd1_spec (x := p + n) (f := upd1 (p + l) (min len (p + g)) cs) hs
  unfold nxt
  refine ⟨Int.le_trans b2 a2, ?_, fun y y1 y2 => ?_⟩
  · rcases b1 with z | ⟨z1, z2, z3⟩
    · rw [z]
      rcases a1 with q | ⟨q1, q2, q3⟩
      · exact .inl q
      · exact .inr ⟨q2, .inl q1⟩
    · exact .inr ⟨by omega, .inr ⟨z1, z2⟩⟩
  · rintro (q | ⟨q1, q2⟩)
    · have := a3 y q y1
      omega
    · have := b3 y q1 q2
      omega
theorem min_ite (a b : Int) : (if b < a then b else a) = min a b := by
  split <;> omega
theorem m_next_of {len : Int} {ns cs : List Int} {l n g p : Int} (hs : ns.Pairwise (· < ·)) (hc : cs.Pairwise (· < ·)) (zn : ns.length ≤ 90000) (zc : cs.length ≤ 90000) :
    s_Track_next_of [trkD len ns cs l n g, .int p] = .ok (.int (nxt len ns cs l n g p), false, []) := by
  have f1 := fun x => m_first_at true ns x hs zn
  have f2 := fun x => m_first_at true cs x hc zc
  unfold sq at f1 f2
  simp only [if_true] at f1 f2
  have at1 : ∀ (z : Int) (ks : List Int), ks.Pairwise (· < ·) → cl z ks < ks.length → ∃ y, atI (ks.map D.int) ((cl z ks : Nat) : Int) = some (.int y) ∧ ∀ f, upd1 z f ks = if y < f then y else f := fun z ks hk h => by
    refine ⟨ks[cl z ks], at_ints h, fun f => ?_⟩
    unfold upd1
    rw [List.getElem?_eq_getElem h]
  have at0 : ∀ (z : Int) (ks : List Int), ¬ cl z ks < ks.length → ∀ f, upd1 z f ks = f := fun z ks h f => by
    unfold upd1
    rw [List.getElem?_eq_none (by omega)]
  have mn : ∀ a b : Int, minD [.int a, .int b] = some (.int (min a b), false) := fun a b => by
    show some (D.int (if b < a then b else a), false) = _
    rw [min_ite]
  refine eq_of_all ?_
  unfold s_Track_next_of
  refine w_run rfl ?_
  unfold b_Track_next_of nxt
  let st : D → D → D → En := fun a b c => [some (.val (trkD len ns cs l n g)), some (.val (.int p)), some (.val a), some (.val b), some (.val c)]
  refine k_step (e1 := [some (.val (trkD len ns cs l n g)), some (.val (.int p)), some (.val (.int (p + g))), none, none]) (by simp (decide := true) [trkD, trkF, lk_c]) ?_
  refine k_step (e1 := [some (.val (trkD len ns cs l n g)), some (.val (.int p)), some (.val (.int (p + g))), some (.val (.int (min len (p + g)))), none]) (by simp (decide := true) [trkD, trkF, lk_c, mn]) ?_
  refine k_step (e1 := st (.int (p + g)) (.int (min len (p + g))) (.int (cl (p + l) cs : Nat))) (by simp (decide := true) [trkD, trkF, lk_c, f2, st]) ?_
  refine k_step (e1 := st (.int (p + g)) (.int (upd1 (p + l) (min len (p + g)) cs)) (.int (cl (p + l) cs : Nat))) ?_ ?_
  · by_cases h2 : cl (p + l) cs < cs.length
    · obtain ⟨y2, a2, u2⟩ := at1 _ _ hc h2
      rw [u2]
      by_cases h3 : y2 < min len (p + g)
      · have h3' : y2 < len ∧ y2 < p + g := by omega
        simp (decide := true) [trkD, trkF, lk_c, st, lenD, h2, a2, h3, h3']
      · have h3' : ¬ (y2 < len ∧ y2 < p + g) := by omega
        simp (decide := true) [trkD, trkF, lk_c, st, lenD, h2, a2, h3, h3']
    · rw [at0 _ _ h2]
      simp (decide := true) [trkD, trkF, lk_c, st, lenD, h2]
  generalize upd1 (p + l) (min len (p + g)) cs = f1'
  refine k_step (e1 := st (.int (p + g)) (.int f1') (.int (cl (p + n) ns : Nat))) (by simp (decide := true) [trkD, trkF, lk_c, f1, st]) ?_
  refine k_step (e1 := st (.int (p + g)) (.int (upd1 (p + n) f1' ns)) (.int (cl (p + n) ns : Nat))) ?_ ?_
  · by_cases h2 : cl (p + n) ns < ns.length
    · obtain ⟨y2, a2, u2⟩ := at1 _ _ hs h2
      rw [u2]
      by_cases h3 : y2 < f1'
      · simp (decide := true) [trkD, trkF, lk_c, st, lenD, h2, a2, h3]
      · simp (decide := true) [trkD, trkF, lk_c, st, lenD, h2, a2, h3]
    · rw [at0 _ _ h2]
      simp (decide := true) [trkD, trkF, lk_c, st, lenD, h2]
  exact k_ret (k_var rfl rfl)
structure Set3 (l n g : Int) : Prop where
  a : 1 ≤ l
  b : l ≤ n
  c : n ≤ g
  z : l < 2 ^ 200
def thD (l n g : Int) : D := .tup [.int l, .int n, .int g]
theorem m_are_settings {l n g : Int} (h : Set3 l n g) : s_are_settings [thD l n g] = .ok (.bl true, false, []) := by
  have h1 := h.a
  have h2 := h.b
  have h3 := h.c
  unfold s_are_settings b_are_settings runFn initE finE
  simp [thD, isB, tyD, Bty.is, lenD, m_is_between0, h1, h2, h3]
theorem m_need_settings {l n g : Int} (h : Set3 l n g) : s_need_settings [thD l n g] = .ok (.non, false, []) := by
  unfold s_need_settings b_need_settings runFn initE finE
  simp [m_are_settings h]
theorem m_need_place {p lo hi : Int} (h : lo ≤ p) (h2 : p ≤ hi) : s_need_place [.int p, .int lo, .int hi] = .ok (.non, false, []) := by
  unfold s_need_place b_need_place runFn initE finE
  simp [m_is_between, h, h2]
theorem m_need_short {l n g len : Int} (h : Set3 l n g) (hl : len ≤ 200 * l) : s_need_short [.int len, thD l n g] = .ok (.non, false, []) := by
  have h1 := h.a
  have lg := log_le (i := l) (k := 200) (by omega) h.z
  have e : mulD (.int 200) (.int l) = some (.int (200 * l), false) := by
    rw [x_mulI, if_pos]
    have : (200 : Int).natAbs.log2 = 7 := by decide
    omega
  have hl' : ¬ 200 * l < len := by omega
  unfold s_need_short b_need_short runFn initE finE
  simp [thD, e, hl', -x_mulI]
/-! ### the law's own next cut -/
def prsOk (ms : List (Int × Int)) : Prop := ∀ m ∈ ms, m.2 = 1 ∨ m.2 = 2
def fsts (ms : List (Int × Int)) : List Int := ms.map (·.1)
def stricts (ms : List (Int × Int)) : List Int := (ms.filter fun m => decide (m.2 = 2)).map (·.1)
theorem mem_fsts {ms : List (Int × Int)} (h : prsOk ms) (y : Int) : y ∈ fsts ms ↔ ((y, 1) ∈ ms ∨ (y, 2) ∈ ms) := by
  unfold fsts
  rw [List.mem_map]
  constructor
  · rintro ⟨⟨a, b⟩, h1, rfl⟩
    rcases h _ h1 with z | z
    · exact .inl (by rw [← z]; exact h1)
    · exact .inr (by rw [← z]; exact h1)
  · rintro (h | h) <;> exact ⟨_, h, rfl⟩
theorem mem_stricts {ms : List (Int × Int)} (y : Int) : y ∈ stricts ms ↔ (y, 2) ∈ ms := by
  unfold stricts
  rw [List.mem_map]
  constructor
  · rintro ⟨⟨a, b⟩, h1, rfl⟩
    rw [List.mem_filter] at h1
    have : b = 2 := by simpa using h1.2
    rw [← this]
    exact h1.1
  · intro h
    exact ⟨_, List.mem_filter.mpr ⟨h, by simp⟩, rfl⟩
def rawD (len : Int) (ms : List (Int × Int)) (l n g : Int) : D := .tup [.int len, .lst (ms.map pr), thD l n g]
theorem m_slow {len : Int} {ms : List (Int × Int)} {l n g p : Int} (hm : prsOk ms) (hs : (fsts ms).Pairwise (· < ·)) (hc : (stricts ms).Pairwise (· < ·)) (h : Set3 l n g) (h0 : 0 ≤ p) (hl : len < 2 ^ 60) (hp : p ≤ len) (hl1 : l < 2 ^ 60) (hw : min len (p + g) - (p + l) ≤ 16777216) :
    s__law_slow [rawD len ms l n g, .int p] = .ok (.int (nxt len (fsts ms) (stricts ms) l n g p), false, []) := by
  have mn : ∀ a b : Int, minD [.int a, .int b] = some (.int (min a b), false) := fun a b => by
    show some (D.int (if b < a then b else a), false) = _
    rw [min_ite]
  have h1 := h.a
  have h2 := h.b
  have h3 := h.c
  have ok := nxt_ok (len := len) (l := l) (n := n) (g := g) (p := p) hs hc h2
  have fin : ∀ r, Nx len (fsts ms) (stricts ms) l n g p r → (D.int r, false, ([] : List D)) = (D.int (nxt len (fsts ms) (stricts ms) l n g p), false, []) := fun r hr => by rw [hr.one ok]
  refine eq_of_all ?_
  unfold s__law_slow
  refine w_run rfl ?_
  unfold b__law_slow
  let E : Option SV → En := fun z => [some (.val (rawD len ms l n g)), some (.val (.int p)), some (.val (.int len)), some (.val (.lst (ms.map pr))), some (.val (thD l n g)), z]
  refine k_step (e1 := E none) (by simp [rawD, E]) ?_
  let G : Int → Prop := fun y => y ∈ stricts ms ∨ (y ∈ fsts ms ∧ p + n ≤ y)
  let I : Nat → En → Prop := fun k e => ∃ z, e = E z ∧ ∀ y, p + l ≤ y → y < p + l + (k : Int) → ¬ G y
  have e1 : iRange2 (aCons (eBin addD (eVar 1) (eBin ixD (eVar 4) (eC (.int 0)))) (aCons (eBlt minD (aCons (eBin addD (eVar 1) (eBin ixD (eVar 4) (eC (.int 2)))) (aCons (eVar 2) aNil))) aNil)) (E none) =
      .ok (rangeL (p + l) (min (p + g) len - (p + l)).toNat, E none) := by
    have c : (-(2 ^ 62) ≤ p + l ∧ p + l < 2 ^ 62 ∧ -(2 ^ 62) ≤ min (p + g) len ∧ min (p + g) len < 2 ^ 62) ∧ min (p + g) len - (p + l) ≤ 16777216 := by omega
    simp only [x_iRange2, x_aCons, x_eBin, x_eVar, x_eC, x_eBlt, x_aNil, E, thD]
    simp [mn]
    omega
  refine k_seq (k_for (k_eq e1 ?_))
  refine w_for I _ 0 _ ⟨none, rfl, fun y y1 y2 => by omega⟩ ?_ ?_
  · rintro k d e hk ⟨z, rfl, hI⟩
    have hlt : k < (min (p + g) len - (p + l)).toNat := by
      have := (List.getElem?_eq_some_iff.mp hk).1
      rw [rangeL_len] at this
      exact this
    rw [rangeL_get _ _ _ hlt] at hk
    cases hk
    rw [Nat.zero_add] at hI ⊢
    generalize hy : p + l + (k : Int) = y at hI ⊢
    have ylt : y < min len (p + g) := by omega
    have ylo : p + l ≤ y := by omega
    have ret : G y → (D.int y, false, ([] : List D)) = (D.int (nxt len (fsts ms) (stricts ms) l n g p), false, []) := fun hg => fin y ⟨by omega, .inr ⟨ylo, hg⟩, fun y' a b => hI y' a b⟩
    have skip : ¬ G y → I (k + 1) (E (some (.val (.int y)))) := fun hg => ⟨_, rfl, fun y' a b => by
      by_cases q : y' = y
      · subst q
        exact hg
      · exact hI y' a (by omega)⟩
    rw [w_so]
    show (sIf _ _ _ (E (some (.val (.int y))))).all _ _ _ _
    refine k_if (k_or2 (k_cmp (k_tup (k_cons (k_var rfl (k_cons (k_c (k_nil ⟨by show 2 ≤ 1000; decide, k_var rfl ⟨_, _, inD_pr _ _ _, ?_, ?_⟩⟩)))))))) 
    · intro h5
      have h5 : (y, 2) ∈ ms := of_decide_eq_true h5
      exact ⟨fun _ => k_ret (k_var rfl (ret (.inl ((mem_stricts y).mpr h5)))), fun z => nomatch z⟩
    · intro h5
      have h5 : ¬ (y, 2) ∈ ms := of_decide_eq_false h5
      refine k_and2 (k_cmp (k_tup (k_cons (k_var rfl (k_cons (k_c (k_nil ⟨by show 2 ≤ 1000; decide, k_var rfl ⟨_, _, inD_pr _ _ _, ?_, ?_⟩⟩)))))))
      · intro h6
        have h6 : (y, 1) ∈ ms := of_decide_eq_true h6
        refine k_cmp (k_var rfl (k_bin (k_var rfl (k_bin (k_var rfl (k_c ⟨.int n, false, by simp [thD], _, _, rfl, _, _, rfl, ?_, ?_⟩))))))
        · intro h7
          have h7 : p + n ≤ y := of_decide_eq_true h7
          skip
          exact k_ret (k_var rfl (ret (.inr ⟨(mem_fsts hm y).mpr (.inl h6), h7⟩)))
        · intro h7
          have h7 : ¬ p + n ≤ y := of_decide_eq_false h7
          refine skip fun z => ?_
          rcases z with z | ⟨_, z⟩
          · exact h5 ((mem_stricts y).mp z)
          · exact h7 z
      · intro h6
        have h6 : ¬ (y, 1) ∈ ms := of_decide_eq_false h6
        refine ⟨fun z => (nomatch z), fun _ => k_skip (skip fun z => ?_)⟩
        rcases z with z | ⟨z, _⟩
        · exact h5 ((mem_stricts y).mp z)
        · rcases (mem_fsts hm y).mp z with q | q
          · exact h6 q
          · exact h5 q
  · rintro e ⟨z, rfl, hI⟩
    rw [Nat.zero_add, rangeL_len] at hI
    refine k_ret (k_blt (k_cons (k_bin (k_var rfl (k_bin (k_var rfl (k_c ⟨.int g, false, by simp [thD], _, _, rfl, k_cons (k_var rfl (k_nil ⟨_, _, mn _ _, ?_⟩))⟩)))))))
    show (D.int (min (p + g) len), false, ([] : List D)) = _
    refine fin _ ⟨by omega, .inl (by omega), fun y a b => hI y a (by omega)⟩
/-! ### raw rows -/
structure RawOk (len : Int) (ms : List (Int × Int)) : Prop where
  one : 1 ≤ len
  prs : prsOk ms
  asc : (fsts ms).Pairwise (· < ·)
  rng : ∀ m ∈ ms, 1 ≤ m.1 ∧ m.1 ≤ len - 1
  few : ms.length ≤ 400
theorem RawOk.casc {len : Int} {ms : List (Int × Int)} (h : RawOk len ms) : (stricts ms).Pairwise (· < ·) := by
  have : (stricts ms).Sublist (fsts ms) := by
    unfold stricts fsts
    exact (List.filter_sublist).map _
  exact h.asc.sublist this
theorem RawOk.row {len : Int} {ms : List (Int × Int)} (h : RawOk len ms) : RowOk len (fsts ms) (stricts ms) where
  one := h.one
  a := ⟨fun n hn => by
    obtain ⟨m, hm, rfl⟩ := List.mem_map.mp hn
    exact h.rng m hm, h.asc⟩
  b := ⟨fun n hn => by
    obtain ⟨m, hm, rfl⟩ := List.mem_map.mp hn
    exact h.rng m (List.mem_filter.mp hm).1, h.casc⟩
  few := by
    unfold fsts
    rw [List.length_map]
    exact h.few
  sub := fun c hc => by
    obtain ⟨m, hm, rfl⟩ := List.mem_map.mp hc
    exact List.mem_map.mpr ⟨m, (List.mem_filter.mp hm).1, rfl⟩
theorem RawOk.zc {len : Int} {ms : List (Int × Int)} (h : RawOk len ms) : (stricts ms).length ≤ 400 := by
  unfold stricts
  rw [List.length_map]
  exact Nat.le_trans (List.length_filter_le _ _) h.few
theorem m_heap {len : Int} {ms : List (Int × Int)} {l n g : Int} (h : RawOk len ms) : s__law_heap [rawD len ms l n g] = .ok (rowD len (fsts ms) (stricts ms), false, []) := by
  let E : En := [some (.val (rawD len ms l n g)), none, none]
  have c1 : compLoop (tgTup [1, 2]) tTrue (eVar 1) [1, 2] (ms.map pr) [] E = .ok ((fsts ms).map D.int, E) := by
    rw [comp_go pr (fun m => some (D.int m.1)) ms]
    · simp [fsts]
    · intro x hx acc rest
      rw [compLoop_c]
      simp [pr, E]
  have c2 : compLoop (tgTup [1, 2]) (tCmp2 eqX (eVar 2) (eC (.int 2))) (eVar 1) [1, 2] (ms.map pr) [] E = .ok ((stricts ms).map D.int, E) := by
    rw [comp_go pr (fun m => if m.2 = 2 then some (D.int m.1) else none) ms]
    · have e : ms.filterMap (fun m => if m.2 = 2 then some (D.int m.1) else none) = (stricts ms).map D.int := by
        unfold stricts
        clear h c1 E
        induction ms with
        | nil => rfl
        | cons m r ih =>
          rw [List.filterMap_cons, List.filter_cons]
          by_cases q : m.2 = 2
          · simp [q, ih]
          · simp [q, ih]
      rw [e]
      rfl
    · intro x hx acc rest
      rw [compLoop_c]
      by_cases q : x.2 = 2
      · simp [pr, E, q]
      · simp [pr, E, q]
  have b1 : eComp (iSeq (eBin ixD (eVar 0) (eC (.int 1)))) (tgTup [1, 2]) tTrue (eVar 1) [1, 2] E = .ok (.lst ((fsts ms).map D.int), true, E) := by
    have : iSeq (eBin ixD (eVar 0) (eC (.int 1))) E = .ok (ms.map pr, E) := by simp [E, rawD, itemsD]
    rw [x_eComp, this]
    show (compLoop (tgTup [1, 2]) tTrue (eVar 1) [1, 2] (ms.map pr) [] E).bind _ = _
    rw [c1]
    rfl
  have b2 : eComp (iSeq (eBin ixD (eVar 0) (eC (.int 1)))) (tgTup [1, 2]) (tCmp2 eqX (eVar 2) (eC (.int 2))) (eVar 1) [1, 2] E = .ok (.lst ((stricts ms).map D.int), true, E) := by
    have : iSeq (eBin ixD (eVar 0) (eC (.int 1))) E = .ok (ms.map pr, E) := by simp [E, rawD, itemsD]
    rw [x_eComp, this]
    show (compLoop (tgTup [1, 2]) (tCmp2 eqX (eVar 2) (eC (.int 2))) (eVar 1) [1, 2] (ms.map pr) [] E).bind _ = _
    rw [c2]
    rfl
  refine eq_of_all ?_
  unfold s__law_heap
  refine w_run rfl ?_
  unfold b__law_heap
  refine k_ret (k_make (k_cons (k_bin (k_var rfl (k_c ⟨.int len, false, by simp [rawD], k_cons (k_eq b1 (k_cons (k_eq b2 (k_nil ?_))))⟩)))))
  refine k_eq (m_row h.row) ?_
  rfl
end G

namespace G
open PySem PySem.Spec PyProof.Rows L2
local macro_rules | `(tactic| walk_at "g") => `(tactic| first
  | refine k_seq ?_ | refine k_set ?_ | refine k_ret ?_ | refine k_skip ?_ | refine k_expr ?_ | refine k_var rfl ?_ | refine k_c ?_ | refine k_nil ?_ | refine k_cons ?_ | refine k_bin ?_ | refine k_un ?_ | refine k_blt ?_
  | refine k_cmp ?_ | refine k_val ?_ | refine k_and2 ?_ | refine k_or2 ?_ | refine k_not1 ?_ | refine k_ifx ?_ | refine k_if ?_ | refine k_ixO rfl ?_ | refine k_callJ rfl ?_ | refine k_call ?_ | refine k_put ?_ | refine k_fz rfl ?_ | refine k_tg ?_ | refine k_own ?_ | refine k_for ?_
  | refine ⟨_, _, _, rfl, rfl, atI_0 _ _, ?_⟩ | refine ⟨_, _, _, rfl, rfl, atI_1 _ _ _, ?_⟩ | refine ⟨_, _, _, rfl, rfl, atI_2 _ _ _ _, ?_⟩ | refine ⟨_, _, rfl, ?_⟩)
local macro_rules | `(tactic| walk_at "s") => `(tactic| repeat walk_at "g")
/-! ### drawn rows -/
theorem m_three {n : Nat} {J : List D} {m : Int} {P : D × Bool × List D → Prop} (hJ : JarOk n J) (hn : n ≤ 100000000) (hm : 0 < m) (hm2 : m < 2 ^ 200)
    (h : ∀ (l nn g : Int) (J' : List D), 1 ≤ l → l ≤ m → l ≤ nn → nn ≤ l + m + 3 → nn ≤ g → g ≤ nn + m + 3 → JarOk (n + 7) J' → P (thD l nn g, false, J')) : (s__law_three [.lst J, .int m]).all P := by
  unfold s__law_three
  refine w_run rfl ?_
  unfold b__law_three
  refine k_seq (k_set (k_bin (k_c (k_callJ rfl (k_cons (k_var rfl (k_nil ⟨_, rfl, w_dip hJ (by omega) hm (by omega) fun d1 J1 a1 a2 j1 => ?_⟩)))))))
  have three : ∀ (x y z i : Int), 0 ≤ i → i < 3 → ∃ w, ixD (.lst [.int x, .int y, .int z]) (.int i) = some (.int w, false) ∧ (w = x ∨ w = y ∨ w = z) := fun x y z i i0 i1 => by
    obtain rfl | rfl | rfl : i = 0 ∨ i = 1 ∨ i = 2 := by omega
    · exact ⟨x, by simp, .inl rfl⟩
    · exact ⟨y, by simp, .inr (.inl rfl)⟩
    · exact ⟨z, by simp, .inr (.inr rfl)⟩
  refine ⟨_, _, rfl, ?_⟩
  try dsimp only [List.set_cons_zero, List.set_cons_succ]
  refine k_seq (k_set (k_bin (k_var rfl (k_bin (k_lst (k_cons (k_c (k_cons ?_))))))))
  refine k_callJ rfl (k_cons (k_var rfl (k_nil ⟨_, rfl, w_dip j1 (by omega) hm (by omega) fun d2 J2 b1 b2 j2 => ?_⟩)))
  try dsimp only [List.set_cons_zero, List.set_cons_succ]
  refine k_cons (k_callJ rfl (k_cons (k_c (k_nil ⟨_, rfl, w_dip j2 (by omega) (by decide) (by decide) fun d3 J3 c1 c2 j3 => ?_⟩))))
  try dsimp only [List.set_cons_zero, List.set_cons_succ]
  refine k_nil ⟨by show 3 ≤ 1000; decide, ?_⟩
  refine k_callJ rfl (k_cons (k_c (k_nil ⟨_, rfl, w_dip j3 (by omega) (by decide) (by decide) fun d4 J4 e1 e2 j4 => ?_⟩)))
  try dsimp only [List.set_cons_zero, List.set_cons_succ]
  obtain ⟨w1, hw1, rw1⟩ := three 0 d2 d3 d4 e1 e2
  refine ⟨_, _, hw1, _, _, rfl, ?_⟩
  try dsimp only [List.set_cons_zero, List.set_cons_succ]
  refine k_ret (k_tup (k_cons (k_var rfl (k_cons (k_var rfl (k_cons ?_))))))
  refine k_bin (k_var rfl (k_bin (k_lst (k_cons (k_c (k_cons ?_))))))
  refine k_callJ rfl (k_cons (k_var rfl (k_nil ⟨_, rfl, w_dip j4 (by omega) hm (by omega) fun d5 J5 f1 f2 j5 => ?_⟩)))
  try dsimp only [List.set_cons_zero, List.set_cons_succ]
  refine k_cons (k_bin (k_c (k_callJ rfl (k_cons (k_c (k_nil ⟨_, rfl, w_dip j5 (by omega) (by decide) (by decide) fun d6 J6 g1 g2 j6 => ?_⟩))))))
  try dsimp only [List.set_cons_zero, List.set_cons_succ]
  refine ⟨_, _, rfl, k_nil ⟨by show 3 ≤ 1000; decide, ?_⟩⟩
  refine k_callJ rfl (k_cons (k_c (k_nil ⟨_, rfl, w_dip j6 (by omega) (by decide) (by decide) fun d7 J7 q1 q2 j7 => ?_⟩)))
  try dsimp only [List.set_cons_zero, List.set_cons_succ]
  obtain ⟨w2, hw2, rw2⟩ := three 0 d5 (1 + d6) d7 q1 q2
  refine ⟨_, _, hw2, _, _, rfl, k_nil ⟨by show 3 ≤ 1000; decide, ?_⟩⟩
  exact h (1 + d1) (1 + d1 + w1) (1 + d1 + w1 + w2) J7 (by omega) (by omega) (by omega) (by omega) (by omega) (by omega) j7
section
variable {P : En → Prop} {R : D → Bool → En → Prop} {B C : En → Prop} {e : En}
theorem k_parF {is : List Nat} {fs : List (Bool × Ex)} (h : (evF fs e).all fun p => p.1.length = is.length ∧ P (setF is p.1 p.2)) : (sParF is fs e).all P R B C := by
  unfold sParF
  rw [w_so]
  refine h.mono fun p ⟨h1, h2⟩ => ?_
  rw [if_pos h1]
  exact h2
end
theorem k_evn {P : List (Bool × D) × En → Prop} {e : En} (h : P ([], e)) : (evF [] e).all P := h
theorem k_evc {P : List (Bool × D) × En → Prop} {e : En} {k : Bool} {f : Ex} {r : List (Bool × Ex)} (h : (f e).all fun p => (k = true → p.2.1 = true) ∧ (evF r p.2.2).all fun q => P ((k, p.1) :: q.1, q.2)) : (evF ((k, f) :: r) e).all P := by
  show ((f e).bind fun p => if k = true ∧ p.2.1 = false then .bad else (evF r p.2.2).bind fun q => .ok ((k, p.1) :: q.1, q.2)).all P
  rw [w_bind]
  refine h.mono fun p ⟨h1, h2⟩ => ?_
  rw [if_neg (fun z => by rw [h1 z.1] at z; cases z.2), w_bind]
  exact h2
theorem JarOk.up {n m : Nat} {J : List D} (h : JarOk n J) (hm : n ≤ m) : JarOk m J := by
  obtain ⟨a, b, c, e, h1, h2, h3, h4, h5⟩ := h
  exact ⟨a, b, c, e, h1, h2, h3, h4, by omega⟩
theorem maxD_ints (a b : Int) : maxD [.int a, .int b] = some (.int (max a b), false) := by
  show some (D.int (if b > a then b else a), false) = _
  have : (if b > a then b else a) = max a b := by split <;> omega
  rw [this]
theorem minD_ints (a b : Int) : minD [.int a, .int b] = some (.int (min a b), false) := by
  show some (D.int (if b < a then b else a), false) = _
  rw [min_ite]
theorem m_small {n : Nat} {J : List D} {m : Int} {P : D × Bool × List D → Prop} (hJ : JarOk n J) (hn : n ≤ 10000000) (hm : 0 < m) (hm2 : m ≤ 100)
    (h : ∀ (len : Int) (ms : List (Int × Int)) (l nn g : Int) (J' : List D), RawOk len ms → len ≤ m → 1 ≤ l → l ≤ 4 → l ≤ nn → nn ≤ g → g ≤ 18 → JarOk (n + 200) J' → P (rawD len ms l nn g, false, J')) : (s__law_small [.lst J, .int m]).all P := by
  unfold s__law_small
  refine w_run rfl ?_
  unfold b__law_small
  refine k_seq (k_parF (k_evc (k_bin (k_c (k_callJ rfl (k_cons (k_var rfl (k_nil ⟨_, rfl, w_dip hJ (by omega) hm (by omega) fun d1 J1 a1 a2 j1 => ?_⟩))))))))
  try dsimp only [List.set_cons_zero, List.set_cons_succ]
  refine ⟨_, _, rfl, fun z => (nomatch z), k_evc (k_callJ rfl (k_cons (k_c (k_nil ⟨_, rfl, w_dip j1 (by omega) (by decide) (by decide) fun way J2 b1 b2 j2 => ?_⟩))))⟩
  try dsimp only [List.set_cons_zero, List.set_cons_succ]
  refine ⟨fun z => (nomatch z), k_evc (k_lst (k_nil ⟨by show 0 ≤ 1000; decide, fun _ => rfl, k_evn ⟨rfl, ?_⟩⟩))⟩
  let st : List D → List (Int × Int) → Option SV → Option SV → En := fun J ms y z => [some (.own J), some (.val (.int m)), some (.val (.int (1 + d1))), some (.val (.int way)), some (.own (ms.map pr)), y, z]
  let I : Nat → En → Prop := fun k e => ∃ J ms y z, e = st J ms y z ∧ JarOk (n + 2 + k) J ∧ prsOk ms ∧ (fsts ms).Pairwise (· < ·) ∧ (∀ p ∈ ms, 1 ≤ p.1 ∧ p.1 < 1 + (k : Int)) ∧ ms.length ≤ k
  show (sSeq _ _ (st J2 [] none none)).all _ _ _ _
  have e1 : iRange2 (aCons (eC (.int 1)) (aCons (eVar 2) aNil)) (st J2 [] none none) = .ok (rangeL 1 (1 + d1 - 1).toNat, st J2 [] none none) := by
    have c : (-(2 ^ 62) ≤ (1 : Int) ∧ (1 : Int) < 2 ^ 62 ∧ -(2 ^ 62) ≤ 1 + d1 ∧ 1 + d1 < 2 ^ 62) ∧ 1 + d1 - 1 ≤ 16777216 := by omega
    show (if (-(2 ^ 62) ≤ (1 : Int) ∧ (1 : Int) < 2 ^ 62 ∧ -(2 ^ 62) ≤ 1 + d1 ∧ 1 + d1 < 2 ^ 62) ∧ 1 + d1 - 1 ≤ 16777216 then Ro.ok (rangeL 1 (1 + d1 - 1).toNat, st J2 [] none none) else .bad) = _
    rw [if_pos c]
  refine k_seq (k_for (k_eq e1 ?_))
  refine w_for I _ 0 _ ⟨J2, [], none, none, rfl, j2, (fun _ hz => nomatch hz), List.Pairwise.nil, (fun _ hz => nomatch hz), Nat.le_refl _⟩ ?_ ?_
  · rintro k d e hk ⟨J, ms, y, z, rfl, jk, pk, ak, rk, lk⟩
    have hlt : k < (1 + d1 - 1).toNat := by
      have := (List.getElem?_eq_some_iff.mp hk).1
      rw [rangeL_len] at this
      exact this
    rw [rangeL_get _ _ _ hlt] at hk
    cases hk
    rw [Nat.zero_add] at jk rk lk ⊢
    rw [w_so]
    show (sSeq _ _ (st J ms (some (.val (.int (1 + (k : Int))))) z)).all _ _ _ _
    have tail : ∀ (J' : List D) (kd : Int) (PP : En → Prop) (RR : D → Bool → En → Prop), JarOk (n + 2 + (k + 1)) J' → (kd ≤ 0 ∨ kd = 1 ∨ kd = 2) →
        (sIf (tAnd2 (tCmp2 gtD (eVar 6) (eC (.int 0))) (tCmp2 neX (eVar 3) (eC (.int 1)))) (sApp 4 (aCons (eTup (aCons (eVar 5) (aCons (eVar 6) aNil))) aNil)) sSkip (st J' ms (some (.val (.int (1 + (k : Int))))) (some (.val (.int kd))))).all (I (k + 1)) RR PP (I (k + 1)) := by
      intro J' kd PP RR j' hkd
      have skip : I (k + 1) (st J' ms (some (.val (.int (1 + (k : Int))))) (some (.val (.int kd)))) := ⟨J', ms, _, _, rfl, j', pk, ak, fun p hp => by have := rk p hp; omega, by omega⟩
      refine k_if (k_and2 (k_cmp (k_var rfl (k_c ⟨_, _, rfl, fun h1 => ?_, fun h1 => ⟨fun z => (nomatch z), fun _ => k_skip skip⟩⟩))))
      refine k_cmp (k_var rfl (k_c ⟨_, _, rfl, fun h2 => ?_, fun h2 => k_skip skip⟩))
      have h1 : 0 < kd := of_decide_eq_true h1
      refine k_app rfl (k_cons (k_tup (k_cons (k_var rfl (k_cons (k_var rfl (k_nil ⟨by show 2 ≤ 1000; decide, k_nil ⟨_, _, rfl, rfl, ?_, ?_⟩⟩)))))))
      · rw [List.length_map, sizeLine_eq]
        omega
      · refine ⟨J', ms ++ [(1 + (k : Int), kd)], some (.val (.int (1 + (k : Int)))), some (.val (.int kd)), ?_, j', ?_, ?_, ?_, ?_⟩
        · show (List.set (st J' ms (some (.val (.int (1 + (k : Int))))) (some (.val (.int kd)))) 4 (some (.own (ms.map pr ++ [.tup [.int (1 + (k : Int)), .int kd]])))) = _
          simp [st, pr]
        · intro p hp
          rcases List.mem_append.mp hp with q | q
          · exact pk p q
          · have : p = (1 + (k : Int), kd) := by simpa using q
            rw [this]
            show kd = 1 ∨ kd = 2
            omega
        · unfold fsts
          rw [List.map_append, List.pairwise_append]
          refine ⟨ak, List.pairwise_singleton _ _, fun a ha b hb => ?_⟩
          obtain ⟨p, hp, rfl⟩ := List.mem_map.mp ha
          have hb : b = 1 + (k : Int) := by simpa using hb
          have := rk p hp
          omega
        · intro p hp
          rcases List.mem_append.mp hp with q | q
          · have := rk p q
            omega
          · have : p = (1 + (k : Int), kd) := by simpa using q
            rw [this]
            show 1 ≤ 1 + (k : Int) ∧ 1 + (k : Int) < 1 + ((k + 1 : Nat) : Int)
            omega
        · simp
          omega
    refine k_seq (k_set (k_ifx (k_cmp (k_var rfl (k_c ⟨_, _, rfl, ?_, ?_⟩)))))
    · intro hw
      refine k_bin (k_c (k_callJ rfl (k_cons (k_c (k_nil ⟨_, rfl, w_dip jk (by omega) (by decide) (by decide) fun d J' c1 c2 j' => ?_⟩)))))
      dsimp only [List.set_cons_zero, List.set_cons_succ]
      refine ⟨_, _, rfl, ?_⟩
      exact tail J' (1 + d) _ _ (j'.up (by omega)) (by omega)
    · intro hw
      refine k_blt (k_cons (k_c (k_cons (k_bin (k_callJ rfl (k_cons (k_c (k_nil ⟨_, rfl, w_dip jk (by omega) (by decide) (by decide) fun d J' c1 c2 j' => ?_⟩))))))))
      dsimp only [List.set_cons_zero, List.set_cons_succ]
      refine k_c ⟨_, _, rfl, k_nil ⟨_, _, maxD_ints _ _, ?_⟩⟩
      exact tail J' (max 0 (d - 2)) _ _ (j'.up (by omega)) (by omega)
  · rintro e ⟨J, ms, y, z, rfl, jk, pk, ak, rk, lk⟩
    rw [Nat.zero_add, rangeL_len] at jk rk lk
    refine k_fz rfl (k_ret (k_tup (k_cons (k_var rfl (k_cons (k_var rfl (k_cons (k_callJ rfl (k_cons (k_c (k_nil ⟨_, rfl, ?_⟩)))))))))))
    refine m_three jk (by omega) (by decide) (by decide) fun l nn g J' t1 t2 t3 t4 t5 t6 j' => ?_
    refine k_nil ⟨by show 3 ≤ 1000; decide, ?_⟩
    exact h (1 + d1) ms l nn g J' ⟨by omega, pk, ak, fun p hp => by have := rk p hp; omega, by omega⟩ (by omega) t1 t2 t3 t5 (by omega) (j'.up (by omega))
theorem raw_ix0 (len : Int) (ms : List (Int × Int)) (l n g : Int) : ixD (rawD len ms l n g) (.int 0) = some (.int len, false) := by simp [rawD]
theorem raw_ix1 (len : Int) (ms : List (Int × Int)) (l n g : Int) : ixD (rawD len ms l n g) (.int 1) = some (.lst (ms.map pr), false) := by simp [rawD]
theorem raw_ix2 (len : Int) (ms : List (Int × Int)) (l n g : Int) : ixD (rawD len ms l n g) (.int 2) = some (thD l n g, false) := by simp [rawD]
theorem th_ix0 (l n g : Int) : ixD (thD l n g) (.int 0) = some (.int l, false) := by simp [thD]
theorem th_ix1 (l n g : Int) : ixD (thD l n g) (.int 1) = some (.int n, false) := by simp [thD]
theorem th_ix2 (l n g : Int) : ixD (thD l n g) (.int 2) = some (.int g, false) := by simp [thD]
theorem m_other {n : Nat} {J : List D} {len : Int} {ms : List (Int × Int)} {l nn g : Int} {P : D × Bool × List D → Prop} (hJ : JarOk n J) (hn : n ≤ 100000000) (h1 : 1 ≤ l) (h2 : l < 2 ^ 190)
    (h : ∀ (l' n' g' : Int) (J' : List D), l ≤ l' → l' ≤ 2 * l → l' ≤ n' → n' ≤ l' + l → n' ≤ g' → g' ≤ max n' g + l → JarOk (n + 3) J' → P (rawD len ms l' n' g', false, J')) : (s__law_other [.lst J, rawD len ms l nn g]).all P := by
  unfold s__law_other
  refine w_run rfl ?_
  unfold b__law_other
  refine k_seq (k_set (k_bin (k_bin (k_bin (k_var rfl (k_c ⟨_, _, raw_ix2 _ _ _ _ _, k_c ⟨_, _, th_ix0 _ _ _, ?_⟩⟩))))))
  refine k_callJ rfl (k_cons (k_bin (k_bin (k_bin (k_var rfl (k_c ⟨_, _, raw_ix2 _ _ _ _ _, k_c ⟨_, _, th_ix0 _ _ _, k_c ⟨_, _, rfl, k_nil ⟨_, rfl, w_dip hJ (by omega) (by omega) (by omega) fun d1 J1 a1 a2 j1 => ?_⟩⟩⟩⟩))))))
  try dsimp only [List.set_cons_zero, List.set_cons_succ]
  refine ⟨_, _, rfl, ?_⟩
  try dsimp only [List.set_cons_zero, List.set_cons_succ]
  refine k_seq (k_set (k_bin (k_var rfl ?_)))
  refine k_callJ rfl (k_cons (k_bin (k_bin (k_bin (k_var rfl (k_c ⟨_, _, raw_ix2 _ _ _ _ _, k_c ⟨_, _, th_ix0 _ _ _, k_c ⟨_, _, rfl, k_nil ⟨_, rfl, w_dip j1 (by omega) (by omega) (by omega) fun d2 J2 b1 b2 j2 => ?_⟩⟩⟩⟩))))))
  try dsimp only [List.set_cons_zero, List.set_cons_succ]
  refine ⟨_, _, rfl, ?_⟩
  try dsimp only [List.set_cons_zero, List.set_cons_succ]
  refine k_ret (k_tup (k_cons (k_bin (k_var rfl (k_c ⟨_, _, raw_ix0 _ _ _ _ _, k_cons (k_bin (k_var rfl (k_c ⟨_, _, raw_ix1 _ _ _ _ _, k_cons ?_⟩)))⟩)))))
  try dsimp only
  refine k_tup (k_cons (k_var rfl (k_cons (k_var rfl (k_cons ?_)))))
  refine k_bin (k_blt (k_cons (k_var rfl (k_cons (k_bin (k_bin (k_var rfl (k_c ⟨_, _, raw_ix2 _ _ _ _ _, k_c ⟨_, _, th_ix2 _ _ _, k_nil ⟨_, _, maxD_ints _ _, ?_⟩⟩⟩))))))))
  try dsimp only
  refine k_callJ rfl (k_cons (k_bin (k_bin (k_bin (k_var rfl (k_c ⟨_, _, raw_ix2 _ _ _ _ _, k_c ⟨_, _, th_ix0 _ _ _, k_c ⟨_, _, rfl, k_nil ⟨_, rfl, w_dip j2 (by omega) (by omega) (by omega) fun d3 J3 c1 c2 j3 => ?_⟩⟩⟩⟩))))))
  try dsimp only [List.set_cons_zero, List.set_cons_succ]
  refine ⟨_, _, rfl, k_nil ⟨by show 3 ≤ 1000; decide, k_nil ⟨by show 3 ≤ 1000; decide, ?_⟩⟩⟩
  exact h (l + d1) (l + d1 + d2) (max (l + d1 + d2) g + d3) J3 (by omega) (by omega) (by omega) (by omega) (by omega) (by omega) j3
end G

namespace G
open PySem PySem.Spec PyProof.Rows L2
def smallI (i : Int) : Prop := i.natAbs.log2 < 1920
theorem small_of {i : Int} (h0 : 0 ≤ i) (h : i < 2 ^ 200) : smallI i := Nat.lt_of_le_of_lt (log_le h0 h) (by decide)
theorem repr_all : ∀ (ns : List Int), (∀ n ∈ ns, smallI n) → PyData.showableAll (ns.map PyData.int) = true ∧ PyData.leavesShortAll 1922 (ns.map PyData.int) = true ∧ PyData.bulkAll (ns.map PyData.int) = ns.length ∧ PyData.depthAll (ns.map PyData.int) = 0
  | [], _ => ⟨rfl, rfl, rfl, rfl⟩
  | n :: r, h => by
    obtain ⟨h1, h2, h3, h4⟩ := repr_all r fun m hm => h m (by simp [hm])
    have hn := h n (by simp)
    have e1 : (PyData.int n).showable = true := decide_eq_true (show n.natAbs.log2 < 1920 from hn)
    have e2 : (PyData.int n).leavesShort 1922 = true := by
      have := int_text_length_le (k := 1920) (by decide) hn
      show decide ((PyData.shown (.int n)).length ≤ 1922) = true
      rw [decide_eq_true_eq]
      have e : (PyData.shown (.int n)).length = (toString n).length := PySem.ofString_length _
      omega
    refine ⟨?_, ?_, ?_, ?_⟩
    · show ((PyData.int n).showable && PyData.showableAll (r.map PyData.int)) = true
      rw [e1, h1]
      rfl
    · show ((PyData.int n).leavesShort 1922 && PyData.leavesShortAll 1922 (r.map PyData.int)) = true
      rw [e2, h2]
      rfl
    · show 0 + 1 + PyData.bulkAll (r.map PyData.int) = r.length + 1
      rw [h3]
      omega
    · show max 0 (PyData.depthAll (r.map PyData.int)) = 0
      rw [h4]
      rfl
theorem repr_lst (ns : List Int) (h : ∀ n ∈ ns, smallI n) (hl : ns.length ≤ 8000) : ∃ s, reprD [.lst (ns.map D.int)] = some (.str s, false) := by
  obtain ⟨h1, h2, h3, h4⟩ := repr_all ns h
  have ok : ReprOk (.list (ns.map PyData.int)) := ⟨rfl, h1, h2, by show PyData.bulkAll _ ≤ 8000; rw [h3]; exact hl, by show PyData.depthAll _ + 1 ≤ 10; rw [h4]; decide⟩
  have e : toP (.lst (ns.map D.int)) = some (.list (ns.map PyData.int)) := by
    show (toPs (ns.map D.int)).map PyData.list = _
    rw [toPs_ints]
    rfl
  refine ⟨PyData.shown (.list (ns.map PyData.int)), ?_⟩
  unfold reprD
  dsimp only
  rw [e]
  dsimp only
  rw [if_pos ok]
theorem repr_tup (ns : List Int) (h : ∀ n ∈ ns, smallI n) (hl : ns.length ≤ 8000) : ∃ s, reprD [.tup (ns.map D.int)] = some (.str s, false) := by
  obtain ⟨h1, h2, h3, h4⟩ := repr_all ns h
  have ok : ReprOk (.tuple (ns.map PyData.int)) := ⟨rfl, h1, h2, by show PyData.bulkAll _ ≤ 8000; rw [h3]; exact hl, by show PyData.depthAll _ + 1 ≤ 10; rw [h4]; decide⟩
  have e : toP (.tup (ns.map D.int)) = some (.tuple (ns.map PyData.int)) := by
    show (toPs (ns.map D.int)).map PyData.tuple = _
    rw [toPs_ints]
    rfl
  refine ⟨PyData.shown (.tuple (ns.map PyData.int)), ?_⟩
  unfold reprD
  dsimp only
  rw [e]
  dsimp only
  rw [if_pos ok]
structure Fit (len : Int) (ms : List (Int × Int)) (l n g : Int) : Prop where
  raw : RawOk len ms
  set : Set3 l n g
  short : len ≤ 200 * l
  len : len ≤ 1000000
  gs : g < 2 ^ 60
end G

namespace G
open PySem PySem.Spec PyProof.Rows L2
theorem k_tgn {P : En → Prop} {i : Nat} {d : D} {e : En} (hp : P (e.set i (some (.val d)))) : (tgName i d e).all P := hp
theorem k_fr {P : En → Prop} {R : D → Bool → En → Prop} {B C : En → Prop} {b : Sm} {i : Nat} {d : D} {e e' : En} (h : e.set i (some (.val d)) = e') (hp : (b e').all P R B C) : ((tgName i d e).so b).all P R B C := by
  rw [x_tgName, h]
  exact hp
theorem two_of {k : Nat} {d : D} (h : [D.int 1, D.int 2][k]? = some d) : d = .int 1 ∨ d = .int 2 := by
  match k, h with
  | 0, h => exact .inl (by simpa using h.symm)
  | 1, h => exact .inr (by simpa using h.symm)
  | k + 2, h => simp at h
theorem three_of {k : Nat} {d : D} (h : [D.int 0, D.int 1, D.int 2][k]? = some d) : d = .int 0 ∨ d = .int 1 ∨ d = .int 2 := by
  match k, h with
  | 0, h => exact .inl (by simpa using h.symm)
  | 1, h => exact .inr (.inl (by simpa using h.symm))
  | 2, h => exact .inr (.inr (by simpa using h.symm))
  | k + 3, h => simp at h
theorem it2 (e : En) : iSeq (eTup (aCons (eC (.int 1)) (aCons (eC (.int 2)) aNil))) e = .ok ([D.int 1, D.int 2], e) := by
  have sz : (2 : Nat) ≤ sizeLine := by rw [sizeLine_eq]; decide
  simp [sz, itemsD]
theorem it3 (e : En) : iSeq (eTup (aCons (eC (.int 0)) (aCons (eC (.int 1)) (aCons (eC (.int 2)) aNil)))) e = .ok ([D.int 0, D.int 1, D.int 2], e) := by
  have sz : (3 : Nat) ≤ sizeLine := by rw [sizeLine_eq]; decide
  simp [sz, itemsD]
section
variable {J : List D} {l nn g spot : Int} {y4 y5 y6 y7 y8 x : Option SV}
end
end G

namespace G
open PySem PySem.Spec PyProof.Rows L2
theorem m_jar (ns : List Int) (k : Nat) (hk : k ≤ 5) : (s__law_jar [.scr ns, .int (k : Int)]).all fun p => ∃ J, p = (.lst J, true, []) ∧ JarOk 0 J := by
  unfold s__law_jar
  refine w_run rfl ?_
  unfold b__law_jar
  have tail : ∀ (c : Int), 0 ≤ c → (sRet (eLst (aCons (eBlt maxD (aCons (eC (.int 0)) (aCons (eBin subD (eVar 2) (eBin powD (eC (.int 10)) (eC (.int 18)))) aNil))) (aCons (eBin addD (eBin mulD (eBin modD (eBlt intD (aCons (eVar 2) aNil)) (eBin addD (eBin powD (eC (.int 10)) (eC (.int 43))) (eC (.int 57)))) (eC (.int 101))) (eBin mulD (eC (.int 70001)) (eVar 1))) (aCons (eC (.int 0)) aNil)))) [some (.val (.scr ns)), some (.val (.int (k : Int))), some (.val (.int c))]).all
      (fun e' => (finE false .non false e').all fun p => ∃ J, p = (.lst J, true, []) ∧ JarOk 0 J) (fun d fr e' => (finE false d fr e').all fun p => ∃ J, p = (.lst J, true, []) ∧ JarOk 0 J) (fun _ => False) (fun _ => False) := by
    intro c hc
    have p18 : powD (.int 10) (.int 18) = some (.int (10 ^ (18 : Int).toNat), false) := by rw [x_powI, if_pos (by decide)]
    have p43 : powD (.int 10) (.int 43) = some (.int (10 ^ (43 : Int).toNat), false) := by rw [x_powI, if_pos (by decide)]
    have md : modD (.int c) (.int (10 ^ (43 : Int).toNat + 57)) = some (.int (c % (10 ^ (43 : Int).toNat + 57)), false) := by rw [x_modI, if_pos (by decide)]
    generalize hx : c % (10 ^ (43 : Int).toNat + 57) = x at md
    have x0 : 0 ≤ x := by rw [← hx]; exact Int.emod_nonneg _ (by decide)
    have x1 : x < 10 ^ (43 : Int).toNat + 57 := by rw [← hx]; exact Int.emod_lt_of_pos _ (by decide)
    have x2 : (10 : Int) ^ (43 : Int).toNat + 57 ≤ 10 ^ 44 := by decide
    have m1 : mulD (.int x) (.int 101) = some (.int (x * 101), false) := by
      rw [x_mulI, if_pos]
      have l1 := log_le (i := x) (k := 200) x0 (by omega)
      have : (101 : Int).natAbs.log2 = 6 := by decide
      omega
    have m2 : mulD (.int 70001) (.int (k : Int)) = some (.int (70001 * (k : Int)), false) := by
      rw [x_mulI, if_pos]
      have l1 := log_le (i := (k : Int)) (k := 200) (by omega) (by omega)
      have : (70001 : Int).natAbs.log2 = 16 := by decide
      omega
    refine k_ret (k_lst (k_cons (k_blt (k_cons (k_c (k_cons (k_bin (k_var rfl (k_bin (k_c (k_c ⟨_, _, p18, _, _, rfl, k_nil ⟨_, _, maxD_ints _ _, ?_⟩⟩)))))))))))
    refine k_cons (k_bin (k_bin (k_bin (k_blt (k_cons (k_var rfl (k_nil ⟨_, _, rfl, k_bin (k_bin (k_c (k_c ⟨_, _, p43, k_c ⟨_, _, rfl, ?_⟩⟩)))⟩)))))))
    refine ⟨_, _, md, k_c ⟨_, _, m1, k_bin (k_c (k_var rfl ⟨_, _, m2, _, _, rfl, k_cons (k_c (k_nil ⟨by show 3 ≤ 1000; decide, ?_⟩))⟩))⟩⟩
    refine ⟨_, rfl, max 0 (c - 10 ^ (18 : Int).toNat), x * 101 + 70001 * (k : Int), 0, rfl, by omega, by omega, ?_, by decide, by decide⟩
    unfold JB
    omega
  refine k_seq (k_set (k_ifx (k_cmp (k_var rfl (k_blt (k_cons (k_var rfl (k_nil ⟨_, _, rfl, _, _, rfl, ?_, ?_⟩))))))))
  · intro h
    have h : (k : Int) < (ns.length : Int) := of_decide_eq_true h
    have hk' : k < ns.length := by omega
    refine k_blt (k_cons (k_bin (k_var rfl (k_var rfl ⟨.int ns[k], false, ?_, k_nil ⟨_, _, rfl, ?_⟩⟩))))
    · show (atI ns (k : Int)).map (fun d => (D.int d, false)) = _
      rw [atI_pos _ _ (by omega) h]
      simp [hk']
    · exact tail _ (by split <;> omega)
  · intro h
    exact k_c (tail 0 (by decide))
def okS : So → Bool
  | .ret (.bl b) _ _ => b
  | _ => false
end G

namespace G
open PySem PySem.Spec PyProof.Rows L2
/-! ### walks -/
theorem atI_last {α : Type} (xs : List α) (x : α) : atI (xs ++ [x]) (-1) = some x := by
  unfold L2.atI L2.ixN
  have h : (-1 + ((xs.length : Int) + 1)).toNat = xs.length := by omega
  have h2 : (1 : Int) ≤ (xs.length : Int) + 1 := by omega
  simp [h, h2]
structure St3 (ns cs : List Int) (l n g : Int) : Prop where
  asc : ns.Pairwise (· < ·)
  casc : cs.Pairwise (· < ·)
  a : 1 ≤ l
  b : l ≤ n
  c : n ≤ g
section
variable {len : Int} {ns cs : List Int} {l n g : Int}
theorem nxt_lt (h : St3 ns cs l n g) {p : Int} (hp : p < len) : p < nxt len ns cs l n g p ∧ nxt len ns cs l n g p ≤ len ∧ (nxt len ns cs l n g p = len ∨ p + l ≤ nxt len ns cs l n g p) := by
  have ok := nxt_ok (len := len) (p := p) (g := g) h.asc h.casc h.b
  have h1 := h.a
  have h2 := h.b
  have h3 := h.c
  have t := ok.top
  rcases ok.at_ with q | ⟨q, _⟩ <;> omega
variable (len ns cs l n g)
inductive Wk : Int → List Int → Prop
  | stop {p : Int} : ¬ p < len → Wk p [p]
  | go {p : Int} {L : List Int} : p < len → Wk (nxt len ns cs l n g p) L → Wk p (p :: L)
def wk : Nat → Int → List Int
  | 0, p => [p]
  | f + 1, p => if p < len then p :: wk f (nxt len ns cs l n g p) else [p]
def wkL (p : Int) : List Int := wk len ns cs l n g (len - p).toNat p
variable {len ns cs l n g}
theorem Wk.det {p : Int} {L L' : List Int} (h : Wk len ns cs l n g p L) (h' : Wk len ns cs l n g p L') : L = L' := by
  induction h generalizing L' with
  | stop h0 => cases h' with
    | stop _ => rfl
    | go h1 _ => exact absurd h1 h0
  | go h0 _ ih => cases h' with
    | stop h1 => exact absurd h0 h1
    | go _ h2 => rw [ih h2]
theorem wk_ok (h : St3 ns cs l n g) : ∀ (f : Nat) (p : Int), (len - p).toNat ≤ f → Wk len ns cs l n g p (wk len ns cs l n g f p)
  | 0, p, hf => .stop (by omega)
  | f + 1, p, hf => by
    unfold wk
    by_cases hp : p < len
    · rw [if_pos hp]
      have := nxt_lt h hp
      exact .go hp (wk_ok h f _ (by omega))
    · rw [if_neg hp]
      exact .stop hp
theorem wkL_ok (h : St3 ns cs l n g) (p : Int) : Wk len ns cs l n g p (wkL len ns cs l n g p) := wk_ok h _ _ (Nat.le_refl _)
theorem wkL_go (h : St3 ns cs l n g) {p : Int} (hp : p < len) : wkL len ns cs l n g p = p :: wkL len ns cs l n g (nxt len ns cs l n g p) := (wkL_ok h p).det (.go hp (wkL_ok h _))
theorem wkL_stop (h : St3 ns cs l n g) {p : Int} (hp : ¬ p < len) : wkL len ns cs l n g p = [p] := (wkL_ok h p).det (.stop hp)
/-- induction along a walk -/
theorem wk_ind (h : St3 ns cs l n g) {M : Int → Prop} (hs : ∀ p, ¬ p < len → M p) (hg : ∀ p, p < len → M (nxt len ns cs l n g p) → M p) (p : Int) : M p := by
  have : ∀ (f : Nat) (p : Int), (len - p).toNat ≤ f → M p := by
    intro f
    induction f with
    | zero => exact fun p hf => hs p (by omega)
    | succ f ih =>
      intro p hf
      by_cases hp : p < len
      · have := nxt_lt h hp
        exact hg p hp (ih _ (by omega))
      · exact hs p hp
  exact this _ p (Nat.le_refl _)
theorem wkL_hd (h : St3 ns cs l n g) (p : Int) : ∃ L, wkL len ns cs l n g p = p :: L := by
  by_cases hp : p < len
  · exact ⟨_, wkL_go h hp⟩
  · exact ⟨[], wkL_stop h hp⟩
theorem wkL_len (h : St3 ns cs l n g) (p : Int) (hp : p ≤ len) : ((wkL len ns cs l n g p).length : Int) ≤ (len - p) / l + 2 := by
  refine wk_ind (len := len) (M := fun p => p ≤ len → ((wkL len ns cs l n g p).length : Int) ≤ (len - p) / l + 2) h (fun p hp _ => ?_) (fun p hp ih _ => ?_) p hp
  · rw [wkL_stop h hp]
    have : 0 ≤ (len - p) / l := Int.ediv_nonneg (by omega) (by have := h.a; omega)
    simp
    omega
  · rw [wkL_go h hp]
    obtain ⟨n1, n2, n3⟩ := nxt_lt h hp
    have := h.a
    have pos : 0 ≤ (len - p) / l := Int.ediv_nonneg (by omega) (by omega)
    rcases n3 with e | e
    · rw [e, wkL_stop h (by omega)]
      simp
      omega
    · have i := ih n2
      have z : (len - nxt len ns cs l n g p) / l ≤ (len - p) / l - 1 := by
        have z1 : (len - nxt len ns cs l n g p) / l ≤ (len - p - l) / l := Int.ediv_le_ediv (by omega) (by omega)
        have z2 : (len - p - l) / l = (len - p) / l - 1 := by
          have := Int.add_mul_ediv_right (len - p) (-1) (c := l) (by omega)
          rw [show len - p - l = len - p + -1 * l by omega, this]
          omega
        omega
      simp only [List.length_cons]
      omega
theorem wkL_mem (h : St3 ns cs l n g) (p : Int) (hp : p ≤ len) : ∀ y ∈ wkL len ns cs l n g p, p ≤ y ∧ y ≤ len := by
  refine wk_ind (len := len) (M := fun p => p ≤ len → ∀ y ∈ wkL len ns cs l n g p, p ≤ y ∧ y ≤ len) h (fun p hp h2 => ?_) (fun p hp ih h2 => ?_) p hp
  · rw [wkL_stop h hp]
    intro y hy
    simp at hy
    omega
  · rw [wkL_go h hp]
    obtain ⟨n1, n2, n3⟩ := nxt_lt h hp
    intro y hy
    rcases List.mem_cons.mp hy with rfl | hy
    · omega
    · have := ih n2 y hy
      omega
theorem wkL_asc (h : St3 ns cs l n g) (p : Int) (hp : p ≤ len) : (wkL len ns cs l n g p).Pairwise (· < ·) := by
  refine wk_ind (len := len) (M := fun p => p ≤ len → (wkL len ns cs l n g p).Pairwise (· < ·)) h (fun p hp h2 => ?_) (fun p hp ih h2 => ?_) p hp
  · rw [wkL_stop h hp]
    exact List.pairwise_singleton _ _
  · rw [wkL_go h hp]
    obtain ⟨n1, n2, n3⟩ := nxt_lt h hp
    exact List.pairwise_cons.mpr ⟨fun y hy => by have := wkL_mem h _ n2 y hy; omega, ih n2⟩
theorem wkL_end (h : St3 ns cs l n g) (p : Int) (hp : p ≤ len) : len ∈ wkL len ns cs l n g p := by
  refine wk_ind (len := len) (M := fun p => p ≤ len → len ∈ wkL len ns cs l n g p) h (fun p hp h2 => ?_) (fun p hp ih h2 => ?_) p hp
  · rw [wkL_stop h hp]
    have : len = p := by omega
    simp [this]
  · rw [wkL_go h hp]
    exact List.mem_cons_of_mem _ (ih (nxt_lt h hp).2.1)
/-- how many cuts from lo to hi, hi not included -/
def cnt (lo hi : Int) (L : List Int) : Nat := (L.filter fun c => decide (lo ≤ c ∧ c < hi)).length
theorem wkL_cnt (h : St3 ns cs l n g) (p : Int) (hp : p ≤ len) : ∀ lo, lo ≤ p → cnt lo len (wkL len ns cs l n g p) + 1 = (wkL len ns cs l n g p).length := by
  unfold cnt
  refine wk_ind (len := len) (M := fun p => p ≤ len → ∀ lo, lo ≤ p → ((wkL len ns cs l n g p).filter fun c => decide (lo ≤ c ∧ c < len)).length + 1 = (wkL len ns cs l n g p).length) h (fun p hp h2 lo hl => ?_) (fun p hp ih h2 lo hl => ?_) p hp
  · rw [wkL_stop h hp]
    simp [hp]
  · rw [wkL_go h hp]
    obtain ⟨n1, n2, n3⟩ := nxt_lt h hp
    have := ih n2 lo (by omega)
    rw [List.filter_cons, if_pos (by simp; omega)]
    simp only [List.length_cons]
    omega
/-- the first cut of a walk that is not before x -/
def ff (x : Int) (L : List Int) : Int := (L.find? fun c => decide (x ≤ c)).getD 0
theorem ff_hd {x p : Int} {L : List Int} (h : x ≤ p) : ff x (p :: L) = p := by
  unfold ff
  rw [List.find?_cons_of_pos (by simpa using h)]
  rfl
theorem ff_tl {x p : Int} {L : List Int} (h : ¬ x ≤ p) : ff x (p :: L) = ff x L := by
  unfold ff
  rw [List.find?_cons_of_neg (by simpa using h)]
end
section
variable {len : Int} {ns cs : List Int} {l n g : Int}
theorem trk_notin : ¬ Str.ofString "next_of" ∈ trkF := by decide
theorem trk_last : (trkF.zip [D.int len, .tup (ns.map D.int), .tup (cs.map D.int), .int l, .int n, .int g]).lookup (Str.ofString "last") = some (D.int len) := by
  simp (decide := true) [trkF, lk_c]
end
/-! ### the program's calls -/
structure Run (len : Int) (ns cs : List Int) (l n g : Int) : Prop where
  row : RowOk len ns cs
  set : Set3 l n g
  short : len ≤ 200 * l
  zc : cs.length ≤ 400
theorem Run.st {len : Int} {ns cs : List Int} {l n g : Int} (h : Run len ns cs l n g) : St3 ns cs l n g := ⟨h.row.a.2, h.row.b.2, h.set.a, h.set.b, h.set.c⟩
theorem Run.zn {len : Int} {ns cs : List Int} {l n g : Int} (h : Run len ns cs l n g) : ns.length ≤ 90000 := by have := h.row.few; omega
theorem Run.few {len : Int} {ns cs : List Int} {l n g : Int} (h : Run len ns cs l n g) {p : Int} (h0 : 0 ≤ p) (hp : p ≤ len) : (wkL len ns cs l n g p).length ≤ 202 := by
  have z := wkL_len h.st p hp
  have l1 := h.set.a
  have : (len - p) / l ≤ 200 := Int.ediv_le_of_le_mul (by omega) (by have := h.short; omega)
  omega
/-- a comprehension that keeps some of a list of ints -/
theorem comp_filter {e0 : En} {L : List Int} {iv : Nat} {c : Et} (f : Int → Bool) (hn : e0[iv]? = some none) (hc : ∀ x ∈ L, c (e0.set iv (some (.val (.int x)))) = .ok (f x, e0.set iv (some (.val (.int x))))) :
    compLoop (tgName iv) c (eVar iv) [iv] (L.map D.int) [] e0 = .ok ((L.filter f).map D.int, e0) := by
  have hv : iv < e0.length := (List.getElem?_eq_some_iff.mp hn).1
  have sn : e0.set iv none = e0 := by
    refine List.ext_getElem? fun i => ?_
    rw [List.getElem?_set]
    split
    · rename_i q
      rw [← q, hn]
    · rfl
  rw [comp_go D.int (fun c => if f c = true then some (D.int c) else none) L]
  · rw [List.nil_append]
    congr 2
    clear hc
    induction L with
    | nil => rfl
    | cons x r ih =>
      rw [List.filterMap_cons, List.filter_cons]
      by_cases q : f x = true
      · simp [q, ih]
      · simp [q, ih]
  · intro x hx acc rest
    rw [compLoop_c]
    have g3 : (e0.set iv (some (.val (.int x))))[iv]? = some (some (.val (.int x))) := by rw [List.getElem?_set_self hv]
    by_cases q1 : f x = true
    · simp [hc x hx, g3, q1, sn]
    · simp [hc x hx, q1, sn]
theorem within_test {e0 : En} {iv il ih : Nat} {lo hi x : Int} (hlo : e0[il]? = some (some (.val (.int lo)))) (hhi : e0[ih]? = some (some (.val (.int hi)))) (hn : e0[iv]? = some none) (h1 : il ≠ iv) (h2 : ih ≠ iv) :
    tVal (eChain leD ltD (eVar il) (eVar iv) (eVar ih)) (e0.set iv (some (.val (.int x)))) = .ok (decide (lo ≤ x ∧ x < hi), e0.set iv (some (.val (.int x)))) := by
  have hv : iv < e0.length := (List.getElem?_eq_some_iff.mp hn).1
  have g1 : (e0.set iv (some (.val (.int x))))[il]? = some (some (.val (.int lo))) := by rw [List.getElem?_set_ne (Ne.symm h1)]; exact hlo
  have g2 : (e0.set iv (some (.val (.int x))))[ih]? = some (some (.val (.int hi))) := by rw [List.getElem?_set_ne (Ne.symm h2)]; exact hhi
  have g3 : (e0.set iv (some (.val (.int x))))[iv]? = some (some (.val (.int x))) := by rw [List.getElem?_set_self hv]
  by_cases q1 : lo ≤ x
  · by_cases q2 : x < hi
    · simp [g1, g2, g3, q1, q2]
    · simp [g1, g2, g3, q1, q2]
  · simp [g1, g2, g3, q1]
theorem comp_within {e0 : En} {L : List Int} {iv il ih : Nat} {lo hi : Int} (hlo : e0[il]? = some (some (.val (.int lo)))) (hhi : e0[ih]? = some (some (.val (.int hi)))) (hn : e0[iv]? = some none) (h1 : il ≠ iv) (h2 : ih ≠ iv) :
    compLoop (tgName iv) (tVal (eChain leD ltD (eVar il) (eVar iv) (eVar ih))) (eVar iv) [iv] (L.map D.int) [] e0 = .ok ((L.filter fun c => decide (lo ≤ c ∧ c < hi)).map D.int, e0) :=
  comp_filter _ hn fun x _ => within_test hlo hhi hn h1 h2
/-- cuts not before x -/
theorem comp_from {e0 : En} {L : List Int} {iv il : Nat} {lo : Int} (hlo : e0[il]? = some (some (.val (.int lo)))) (hn : e0[iv]? = some none) (h1 : il ≠ iv) :
    compLoop (tgName iv) (tCmp2 geD (eVar iv) (eVar il)) (eVar iv) [iv] (L.map D.int) [] e0 = .ok ((L.filter fun c => decide (lo ≤ c)).map D.int, e0) :=
  comp_filter _ hn fun x _ => by
    have hv : iv < e0.length := (List.getElem?_eq_some_iff.mp hn).1
    have g1 : (e0.set iv (some (.val (.int x))))[il]? = some (some (.val (.int lo))) := by rw [List.getElem?_set_ne (Ne.symm h1)]; exact hlo
    have g3 : (e0.set iv (some (.val (.int x))))[iv]? = some (some (.val (.int x))) := by rw [List.getElem?_set_self hv]
    simp [g1, g3]
theorem leastOf_asc {a : Int} : ∀ {r : List Int}, (∀ y ∈ r, a < y) → leastOf a r = a
  | [], _ => rfl
  | y :: r, h => by
    have h1 := h y List.mem_cons_self
    show leastOf (if y < a then y else a) r = a
    rw [if_neg (by omega)]
    exact leastOf_asc fun z hz => h z (List.mem_cons_of_mem _ hz)
theorem minD_asc {a : Int} {r : List Int} (h : (a :: r).Pairwise (· < ·)) : minD [.lst ((a :: r).map D.int)] = some (.int a, false) := by
  unfold minD
  dsimp only
  rw [intsOf_map]
  show some (D.int (leastOf a r), false) = _
  rw [leastOf_asc (List.pairwise_cons.mp h).1]
/-- the cuts from x on: the first of them, and the others -/
theorem from_hd {x z : Int} {L : List Int} (hz : z ∈ L) (hx : x ≤ z) : ∃ r, L.filter (fun c => decide (x ≤ c)) = ff x L :: r := by
  cases hf : L.filter (fun c => decide (x ≤ c)) with
  | nil =>
    have : z ∈ L.filter (fun c => decide (x ≤ c)) := List.mem_filter.mpr ⟨hz, by simpa using hx⟩
    rw [hf] at this
    cases this
  | cons a r =>
    refine ⟨r, ?_⟩
    have h := List.head?_filter (p := fun c => decide (x ≤ c)) (l := L)
    rw [hf] at h
    unfold ff
    rw [← h]
    rfl
theorem repr_int (i : Int) (h : smallI i) : ∃ s, reprD [.int i] = some (.str s, false) := by
  have hn := h
  have e1 : (PyData.int i).showable = true := decide_eq_true (show i.natAbs.log2 < 1920 from hn)
  have e2 : (PyData.int i).leavesShort 1922 = true := by
    have := int_text_length_le (k := 1920) (by decide) hn
    show decide ((PyData.shown (.int i)).length ≤ 1922) = true
    rw [decide_eq_true_eq]
    have e : (PyData.shown (.int i)).length = (toString i).length := PySem.ofString_length _
    omega
  have ok : ReprOk (.int i) := ⟨rfl, e1, e2, (show 0 ≤ 8000 by decide), (show 0 ≤ 10 by decide)⟩
  refine ⟨PyData.shown (.int i), ?_⟩
  unfold reprD
  dsimp only
  show (if ReprOk (PyData.int i) then some (D.str (PyData.int i).shown, false) else none) = _
  rw [if_pos ok]
end G

namespace G
open PySem PySem.Spec PyProof.Rows L2
theorem Fit.run {len : Int} {ms : List (Int × Int)} {l n g : Int} (h : Fit len ms l n g) : Run len (fsts ms) (stricts ms) l n g := ⟨h.raw.row, h.set, h.short, h.raw.zc⟩
/-- the walk of a raw row -/
def wkM (len : Int) (ms : List (Int × Int)) (l n g p : Int) : List Int := wkL len (fsts ms) (stricts ms) l n g p
theorem m_slow_walk {len : Int} {ms : List (Int × Int)} {l n g : Int} (h : Fit len ms l n g) {p : Int} (h0 : 0 ≤ p) (hp : p ≤ len) :
    s__law_slow_walk [rawD len ms l n g, .int p] = .ok (.lst ((wkM len ms l n g p).map D.int), true, []) := by
  have hz : (wkM len ms l n g p).length ≤ 202 := h.run.few h0 hp
  have st := h.run.st
  have hlen := h.len
  have hsh := h.short
  have l1 := h.set.a
  have l3 := h.set.b
  have l4 := h.set.c
  have hgs := h.gs
  have slow : ∀ q : Int, 0 ≤ q → q < len → s__law_slow [rawD len ms l n g, .int q] = .ok (.int (nxt len (fsts ms) (stricts ms) l n g q), false, []) := fun q q0 q1 =>
    m_slow h.raw.prs h.raw.asc h.raw.casc h.set q0 (by omega) (by omega) (by omega) (by omega)
  unfold wkM at hz ⊢
  refine eq_of_all ?_
  unfold s__law_slow_walk
  refine w_run rfl ?_
  unfold b__law_slow_walk
  refine k_seq (k_own (k_lst (k_cons (k_var rfl (k_nil ⟨by show 1 ≤ 1000; decide, _, rfl, rfl, ?_⟩)))))
  let I : Nat → En → Prop := fun m e => ∃ F q, e = [some (.val (rawD len ms l n g)), some (.val (.int p)), some (.own (F.map D.int ++ [D.int q]))] ∧ wkL len (fsts ms) (stricts ms) l n g p = F ++ wkL len (fsts ms) (stricts ms) l n g q ∧ 0 ≤ q ∧ q ≤ len ∧ m = (wkL len (fsts ms) (stricts ms) l n g q).length
  refine k_seq (w_while I ?_ fuel _ _ (by unfold fuel; omega) ⟨[], p, rfl, rfl, h0, hp, rfl⟩)
  rintro m e ⟨F, q, rfl, h1, q0, h2, rfl⟩
  refine k_cmp (k_ixO rfl (k_un (k_c ⟨_, _, rfl, _, _, _, rfl, rfl, atI_last _ _, k_bin (k_var rfl (k_c ⟨_, _, raw_ix0 _ _ _ _ _, _, _, rfl, ?_⟩))⟩)))
  by_cases hlt : q < len
  · have w := wkL_go st hlt
    have nl := nxt_lt st hlt
    rw [if_pos (decide_eq_true hlt)]
    refine k_app rfl (k_cons (k_call (k_cons (k_var rfl (k_cons (k_ixO rfl (k_un (k_c ⟨_, _, rfl, _, _, _, rfl, rfl, atI_last _ _, k_nil (k_eq (slow q q0 hlt) (k_nil ⟨_, _, rfl, rfl, ?_, ?_⟩))⟩))))))))
    · have : F.length ≤ 5000 := by
        rw [h1, List.length_append] at hz
        omega
      rw [List.length_append, List.length_map, sizeLine_eq]
      show F.length + 1 < _
      omega
    · refine ⟨_, ?_, F ++ [q], nxt len (fsts ms) (stricts ms) l n g q, ?_, ?_, by omega, nl.2.1, rfl⟩
      · rw [w]
        simp
      · simp
      · rw [h1, w]
        simp
  · rw [if_neg (by simpa using hlt)]
    have w := wkL_stop st hlt
    refine k_retO rfl ?_
    rw [h1, w]
    simp [finE]
section
variable {J : List D} {made raw : D} {len : Int} {y4 y5 y6 y7 y8 y9 y10 y11 y12 x : Option SV}
end
end G

namespace G
open PySem PySem.Spec PyProof.Rows L2
/-- a comprehension by an invariant -/
theorem w_comp {T : Tg} {c : Et} {el : Ex} {vs : List Nat} {P : List D × En → Prop} (I : Nat → List D → En → Prop) : ∀ (ds : List D) (i : Nat) (acc : List D) (e : En), I i acc e →
    (∀ k d acc e, ds[k]? = some d → I (i + k) acc e → (T d e).all fun e1 => (c e1).all fun p => (p.1 = true → (el p.2).all fun q => I (i + k + 1) (acc ++ [q.1]) (wipeE q.2.2 vs)) ∧ (p.1 = false → I (i + k + 1) acc (wipeE p.2 vs))) →
    (∀ acc e, I (i + ds.length) acc e → P (acc, e)) → (compLoop T c el vs ds acc e).all P
  | [], i, acc, e, h0, _, hf => hf acc e h0
  | d :: ds, i, acc, e, h0, hs, hf => by
    have h1 := hs 0 d acc e rfl h0
    have hs' : ∀ k d' acc' e', ds[k]? = some d' → I (i + 1 + k) acc' e' → (T d' e').all fun e1 => (c e1).all fun p => (p.1 = true → (el p.2).all fun q => I (i + 1 + k + 1) (acc' ++ [q.1]) (wipeE q.2.2 vs)) ∧ (p.1 = false → I (i + 1 + k + 1) acc' (wipeE p.2 vs)) := fun k d' acc' e' hk hI => by
      have z := hs (k + 1) d' acc' e' (by simpa using hk) (by rw [show i + (k + 1) = i + 1 + k by omega]; exact hI)
      rw [show i + (k + 1) + 1 = i + 1 + k + 1 by omega] at z
      exact z
    have hf' : ∀ acc e, I (i + 1 + ds.length) acc e → P (acc, e) := fun acc e h => hf acc e (by rw [List.length_cons, show i + (ds.length + 1) = i + 1 + ds.length by omega]; exact h)
    rw [compLoop_c, w_bind]
    refine h1.mono fun e1 h1 => ?_
    rw [w_bind]
    refine h1.mono fun p h1 => ?_
    by_cases hp : p.1 = true
    · rw [if_pos hp, w_bind]
      exact (h1.1 hp).mono fun q h => w_comp I ds (i + 1) _ _ h hs' hf'
    · rw [if_neg hp]
      exact w_comp I ds (i + 1) _ _ (h1.2 (by simpa using hp)) hs' hf'
theorem small_big {i : Int} (h0 : 0 ≤ i) (h : i < 2 ^ 1000) : smallI i := Nat.lt_of_le_of_lt (log_le h0 h) (by decide)
theorem mul_ok {i j : Int} (h0 : 0 ≤ i) (h1 : i < 2 ^ 1000) (h2 : 0 ≤ j) (h3 : j < 2 ^ 1000) : mulD (.int i) (.int j) = some (.int (i * j), false) := by
  have a := log_le h0 h1
  have b := log_le h2 h3
  rw [x_mulI, if_pos (by omega)]
theorem k_tt {P : Bool × En → Prop} {e : En} (h : P (true, e)) : (tTrue e).all P := h
theorem k_tgt {P : En → Prop} {is : List Nat} {ds : List D} {e : En} (hl : ds.length = is.length) (hp : P (setAll is ds e)) : (tgTup is (.tup ds) e).all P := by
  rw [x_tgTup, if_pos hl]
  exact hp
theorem k_frt {P : En → Prop} {R : D → Bool → En → Prop} {B C : En → Prop} {b : Sm} {is : List Nat} {ds : List D} {e e' : En} (hl : ds.length = is.length) (h : setAll is ds e = e') (hp : (b e').all P R B C) : ((tgTup is (.tup ds) e).so b).all P R B C := by
  rw [x_tgTup, if_pos hl, h]
  exact hp
/-- the items of a list of pairs -/
theorem pr_get {ms : List (Int × Int)} {k : Nat} {d : D} (h : (ms.map pr)[k]? = some d) : ∃ a b, ms[k]? = some (a, b) ∧ d = .tup [.int a, .int b] := by
  rw [List.getElem?_map] at h
  cases hq : ms[k]? with
  | none => rw [hq] at h; cases h
  | some p =>
    rw [hq] at h
    cases h
    exact ⟨p.1, p.2, rfl, rfl⟩
theorem int_get {ns : List Int} {k : Nat} {d : D} (h : (ns.map D.int)[k]? = some d) : ∃ a, ns[k]? = some a ∧ d = .int a := by
  rw [List.getElem?_map] at h
  cases hq : ns[k]? with
  | none => rw [hq] at h; cases h
  | some p =>
    rw [hq] at h
    cases h
    exact ⟨p, rfl, rfl⟩
/-! ### the next cut by all marks -/
theorem m_far {len : Int} {ms : List (Int × Int)} {l n g p : Int} (hm : RawOk len ms) (h1 : l ≤ n) (h2 : n ≤ g) :
    s__law_far [rawD len ms l n g, .int p] = .ok (.int (nxt len (fsts ms) (stricts ms) l n g p), false, []) := by
  have ok := nxt_ok (len := len) (l := l) (n := n) (g := g) (p := p) hm.asc hm.casc h1
  have fin : ∀ r, Nx len (fsts ms) (stricts ms) l n g p r → (D.int r, false, ([] : List D)) = (D.int (nxt len (fsts ms) (stricts ms) l n g p), false, []) := fun r hr => by rw [hr.one ok]
  let B : Int → Int := fun kd => if kd = 1 then n else l
  have hB : ∀ kd, kd = 1 ∨ kd = 2 → ixD (thD l n g) (.int (2 - kd)) = some (.int (B kd), false) := by
    rintro kd (rfl | rfl)
    · exact th_ix1 _ _ _
    · exact th_ix0 _ _ _
  have good : ∀ a kd, (a, kd) ∈ ms → (p + B kd ≤ a ↔ (p + l ≤ a ∧ (a ∈ stricts ms ∨ (a ∈ fsts ms ∧ p + n ≤ a)))) := by
    intro a kd hmem
    have once : ∀ kd', (a, kd') ∈ ms → kd' = kd := fun kd' h' => by
      obtain ⟨i, hi, ei⟩ := List.getElem_of_mem hmem
      obtain ⟨j, hj, ej⟩ := List.getElem_of_mem h'
      have fi : (fsts ms)[i]? = some a := by
        unfold fsts
        rw [List.getElem?_map, List.getElem?_eq_getElem hi, ei]
        rfl
      have fj : (fsts ms)[j]? = some a := by
        unfold fsts
        rw [List.getElem?_map, List.getElem?_eq_getElem hj, ej]
        rfl
      have : i = j := by
        rcases Nat.lt_trichotomy i j with q | q | q
        · obtain ⟨x1, x2⟩ := List.getElem?_eq_some_iff.mp fi
          obtain ⟨y1, y2⟩ := List.getElem?_eq_some_iff.mp fj
          have := asc_get hm.asc x1 y1 q
          omega
        · exact q
        · obtain ⟨x1, x2⟩ := List.getElem?_eq_some_iff.mp fi
          obtain ⟨y1, y2⟩ := List.getElem?_eq_some_iff.mp fj
          have := asc_get hm.asc y1 x1 q
          omega
      subst this
      rw [ei] at ej
      exact (Prod.mk.inj ej).2.symm
    rcases hm.prs _ hmem with z | z
    · have z : kd = 1 := z
      subst z
      show p + n ≤ a ↔ _
      constructor
      · intro q
        exact ⟨by omega, .inr ⟨(mem_fsts hm.prs a).mpr (.inl hmem), q⟩⟩
      · rintro ⟨_, q | q⟩
        · have := once 2 ((mem_stricts a).mp q)
          omega
        · exact q.2
    · have z : kd = 2 := z
      subst z
      show p + l ≤ a ↔ _
      constructor
      · intro q
        exact ⟨q, .inl ((mem_stricts a).mpr hmem)⟩
      · exact fun q => q.1
  refine eq_of_all ?_
  unfold s__law_far
  refine w_run rfl ?_
  unfold b__law_far
  let E : Option SV → Option SV → En := fun y z => [some (.val (rawD len ms l n g)), some (.val (.int p)), y, z]
  show (sSeq _ _ (E none none)).all _ _ _ _
  refine k_seq (k_for (k_seqI (k_bin (k_var rfl (k_c ⟨_, _, raw_ix1 _ _ _ _ _, _, rfl, ?_⟩)))))
  refine w_for (fun k e => ∃ y z, e = E y z ∧ ∀ j a kd, j < k → ms[j]? = some (a, kd) → ¬ (p + B kd ≤ a ∧ a ≤ p + g)) _ 0 _ ⟨_, _, rfl, fun j a kd hj => absurd hj (Nat.not_lt_zero _)⟩ ?_ ?_
  · rintro k d e hk ⟨y, z, rfl, hI⟩
    obtain ⟨a, kd, hq, rfl⟩ := pr_get hk
    rw [Nat.zero_add] at hI ⊢
    have hmem : (a, kd) ∈ ms := List.mem_of_getElem? hq
    have hkd : kd = 1 ∨ kd = 2 := hm.prs _ hmem
    have rng := hm.rng _ hmem
    have hB' := hB kd hkd
    have gd := good a kd hmem
    refine k_frt (e' := E (some (.val (.int a))) (some (.val (.int kd)))) rfl rfl ?_
    by_cases c1 : p + B kd ≤ a
    · by_cases c2 : a ≤ p + g
      · have nx : Nx len (fsts ms) (stricts ms) l n g p a := by
          refine ⟨by have : a ≤ len - 1 := rng.2; omega, .inr (gd.mp c1), fun y y1 y2 hy => ?_⟩
          have hyf : y ∈ fsts ms := by
            rcases hy with q | q
            · have := (mem_stricts y).mp q
              exact (mem_fsts hm.prs y).mpr (.inr this)
            · exact q.1
          obtain ⟨⟨y', kd'⟩, hm', rfl⟩ := List.mem_map.mp hyf
          have gd' := (good y' kd' hm').mpr ⟨y1, hy⟩
          obtain ⟨j, hj, ej⟩ := List.getElem_of_mem hm'
          obtain ⟨hkl, ek⟩ := List.getElem?_eq_some_iff.mp hq
          have jk : j < k := by
            rcases Nat.lt_trichotomy j k with q | q | q
            · exact q
            · subst q
              rw [ek] at ej
              have : a = y' := (Prod.mk.inj ej).1
              have : y' < a := y2
              omega
            · have f1 : (fsts ms)[k]'(by unfold fsts; rw [List.length_map]; exact hkl) = a := by unfold fsts; rw [List.getElem_map, ek]
              have f2 : (fsts ms)[j]'(by unfold fsts; rw [List.length_map]; exact hj) = y' := by unfold fsts; rw [List.getElem_map, ej]
              have := asc_get hm.asc (by unfold fsts; rw [List.length_map]; exact hkl) (by unfold fsts; rw [List.length_map]; exact hj) q
              have : y' < a := y2
              omega
          have y2 : y' < a := y2
          exact hI j y' kd' jk (by rw [List.getElem?_eq_getElem hj, ej]) ⟨gd', by omega⟩
        have ht : tVal (eChain leD leD (eBin addD (eVar 1) (eBin ixD (eBin ixD (eVar 0) (eC (.int 2))) (eBin subD (eC (.int 2)) (eVar 3)))) (eVar 2) (eBin addD (eVar 1) (eBin ixD (eBin ixD (eVar 0) (eC (.int 2))) (eC (.int 2))))) (E (some (.val (.int a))) (some (.val (.int kd)))) = .ok (true, E (some (.val (.int a))) (some (.val (.int kd)))) := by
          simp [E, raw_ix2, hB', th_ix2, c1, c2]
        refine k_if (k_eq ht ⟨fun _ => k_ret (k_var rfl (fin a nx)), fun z => (nomatch z)⟩)
      · have ht : tVal (eChain leD leD (eBin addD (eVar 1) (eBin ixD (eBin ixD (eVar 0) (eC (.int 2))) (eBin subD (eC (.int 2)) (eVar 3)))) (eVar 2) (eBin addD (eVar 1) (eBin ixD (eBin ixD (eVar 0) (eC (.int 2))) (eC (.int 2))))) (E (some (.val (.int a))) (some (.val (.int kd)))) = .ok (false, E (some (.val (.int a))) (some (.val (.int kd)))) := by
          simp [E, raw_ix2, hB', th_ix2, c1, c2]
        refine k_if (k_eq ht ⟨fun z => (nomatch z), fun _ => k_skip ⟨_, _, rfl, fun j a' kd' hj hm' => ?_⟩⟩)
        rcases Nat.lt_or_ge j k with q | q
        · exact hI j a' kd' q hm'
        · have : j = k := by omega
          subst this
          rw [hq] at hm'
          cases hm'
          exact fun z => c2 z.2
    · have ht : tVal (eChain leD leD (eBin addD (eVar 1) (eBin ixD (eBin ixD (eVar 0) (eC (.int 2))) (eBin subD (eC (.int 2)) (eVar 3)))) (eVar 2) (eBin addD (eVar 1) (eBin ixD (eBin ixD (eVar 0) (eC (.int 2))) (eC (.int 2))))) (E (some (.val (.int a))) (some (.val (.int kd)))) = .ok (false, E (some (.val (.int a))) (some (.val (.int kd)))) := by
        simp [E, raw_ix2, hB', c1]
      refine k_if (k_eq ht ⟨fun z => (nomatch z), fun _ => k_skip ⟨_, _, rfl, fun j a' kd' hj hm' => ?_⟩⟩)
      rcases Nat.lt_or_ge j k with q | q
      · exact hI j a' kd' q hm'
      · have : j = k := by omega
        subst this
        rw [hq] at hm'
        cases hm'
        exact fun z => c1 z.1
  · rintro e ⟨y, z, rfl, hI⟩
    rw [Nat.zero_add, List.length_map] at hI
    refine k_ret (k_blt (k_cons (k_bin (k_var rfl (k_c ⟨_, _, raw_ix0 _ _ _ _ _, k_cons (k_bin (k_var rfl (k_bin (k_bin (k_var rfl (k_c ⟨_, _, raw_ix2 _ _ _ _ _, k_c ⟨_, _, th_ix2 _ _ _, _, _, rfl, k_nil ⟨_, _, minD_ints _ _, ?_⟩⟩⟩))))))⟩)))))
    refine fin _ ⟨Int.le_refl _, .inl rfl, fun y y1 y2 hy => ?_⟩
    have hyf : y ∈ fsts ms := by
      rcases hy with q | q
      · have := (mem_stricts y).mp q
        exact (mem_fsts hm.prs y).mpr (.inr this)
      · exact q.1
    obtain ⟨⟨y', kd'⟩, hm', rfl⟩ := List.mem_map.mp hyf
    have gd' := (good y' kd' hm').mpr ⟨y1, hy⟩
    obtain ⟨j, hj, ej⟩ := List.getElem_of_mem hm'
    have y2 : y' < min len (p + g) := y2
    exact hI j y' kd' hj (by rw [List.getElem?_eq_getElem hj, ej]) ⟨gd', by omega⟩
end G

namespace G
open PySem PySem.Spec PyProof.Rows L2
/-- a raw row of any size, that its settings can walk -/
structure Big (len : Int) (ms : List (Int × Int)) (l n g : Int) : Prop where
  raw : RawOk len ms
  set : Set3 l n g
  short : len ≤ 200 * l
  gs : g < 2 ^ 200
theorem Big.run {len : Int} {ms : List (Int × Int)} {l n g : Int} (h : Big len ms l n g) : Run len (fsts ms) (stricts ms) l n g := ⟨h.raw.row, h.set, h.short, h.raw.zc⟩
theorem m_far_walk {len : Int} {ms : List (Int × Int)} {l n g : Int} (h : Big len ms l n g) {p : Int} (h0 : 0 ≤ p) (hp : p ≤ len) :
    s__law_far_walk [rawD len ms l n g, .int p] = .ok (.lst ((wkM len ms l n g p).map D.int), true, []) := by
  have hz : (wkM len ms l n g p).length ≤ 202 := h.run.few h0 hp
  have st := h.run.st
  have far : ∀ q : Int, s__law_far [rawD len ms l n g, .int q] = .ok (.int (nxt len (fsts ms) (stricts ms) l n g q), false, []) := fun q => m_far h.raw h.set.b h.set.c
  unfold wkM at hz ⊢
  refine eq_of_all ?_
  unfold s__law_far_walk
  refine w_run rfl ?_
  unfold b__law_far_walk
  refine k_seq (k_own (k_lst (k_cons (k_var rfl (k_nil ⟨by show 1 ≤ 1000; decide, _, rfl, rfl, ?_⟩)))))
  let I : Nat → En → Prop := fun m e => ∃ F q, e = [some (.val (rawD len ms l n g)), some (.val (.int p)), some (.own (F.map D.int ++ [D.int q]))] ∧ wkL len (fsts ms) (stricts ms) l n g p = F ++ wkL len (fsts ms) (stricts ms) l n g q ∧ q ≤ len ∧ m = (wkL len (fsts ms) (stricts ms) l n g q).length
  refine k_seq (w_while I ?_ fuel _ _ (by unfold fuel; omega) ⟨[], p, rfl, rfl, hp, rfl⟩)
  rintro m e ⟨F, q, rfl, h1, h2, rfl⟩
  refine k_cmp (k_ixO rfl (k_un (k_c ⟨_, _, rfl, _, _, _, rfl, rfl, atI_last _ _, k_bin (k_var rfl (k_c ⟨_, _, raw_ix0 _ _ _ _ _, _, _, rfl, ?_⟩))⟩)))
  by_cases hlt : q < len
  · have w := wkL_go st hlt
    have nl := nxt_lt st hlt
    rw [if_pos (decide_eq_true hlt)]
    refine k_app rfl (k_cons (k_call (k_cons (k_var rfl (k_cons (k_ixO rfl (k_un (k_c ⟨_, _, rfl, _, _, _, rfl, rfl, atI_last _ _, k_nil (k_eq (far q) (k_nil ⟨_, _, rfl, rfl, ?_, ?_⟩))⟩))))))))
    · have : F.length ≤ 5000 := by
        rw [h1, List.length_append] at hz
        omega
      rw [List.length_append, List.length_map, sizeLine_eq]
      show F.length + 1 < _
      omega
    · refine ⟨_, ?_, F ++ [q], nxt len (fsts ms) (stricts ms) l n g q, ?_, ?_, nl.2.1, rfl⟩
      · rw [w]
        simp
      · simp
      · rw [h1, w]
        simp
  · rw [if_neg (by simpa using hlt)]
    have w := wkL_stop st hlt
    refine k_retO rfl ?_
    rw [h1, w]
    simp [finE]
/-! ### drawn rows of great lengths -/
theorem ix3_of {x y z i : Int} (i0 : 0 ≤ i) (i1 : i < 3) : ∃ w, ixD (.lst [.int x, .int y, .int z]) (.int i) = some (.int w, false) ∧ (w = x ∨ w = y ∨ w = z) := by
  obtain rfl | rfl | rfl : i = 0 ∨ i = 1 ∨ i = 2 := by omega
  · exact ⟨x, by simp, .inl rfl⟩
  · exact ⟨y, by simp, .inr (.inl rfl)⟩
  · exact ⟨z, by simp, .inr (.inr rfl)⟩
theorem ix2_of {x y i : Int} (i0 : 0 ≤ i) (i1 : i < 2) : ∃ w, ixD (.lst [.int x, .int y]) (.int i) = some (.int w, false) ∧ (w = x ∨ w = y) := by
  obtain rfl | rfl : i = 0 ∨ i = 1 := by omega
  · exact ⟨x, by simp, .inl rfl⟩
  · exact ⟨y, by simp, .inr rfl⟩
theorem at_of {ds : List D} {i : Int} (i0 : 0 ≤ i) (i1 : i < ds.length) : ∃ d, ds[i.toNat]? = some d ∧ ixD (.lst ds) (.int i) = some (d, false) := by
  have h : i.toNat < ds.length := by omega
  refine ⟨ds[i.toNat], List.getElem?_eq_getElem h, ?_⟩
  rw [x_ixL, atI_pos _ _ i0 i1, List.getElem?_eq_getElem h]
  rfl
theorem ix4_of {x y z u i : Int} (i0 : 0 ≤ i) (i1 : i < 4) : ∃ w, ixD (.lst [.int x, .int y, .int z, .int u]) (.int i) = some (.int w, false) ∧ (w = x ∨ w = y ∨ w = z ∨ w = u) := by
  obtain ⟨d, h1, h2⟩ := at_of (ds := [.int x, .int y, .int z, .int u]) i0 i1
  obtain rfl | rfl | rfl | rfl : i = 0 ∨ i = 1 ∨ i = 2 ∨ i = 3 := by omega
  · cases h1
    exact ⟨x, h2, .inl rfl⟩
  · cases h1
    exact ⟨y, h2, .inr (.inl rfl)⟩
  · cases h1
    exact ⟨z, h2, .inr (.inr (.inl rfl))⟩
  · cases h1
    exact ⟨u, h2, .inr (.inr (.inr rfl))⟩
def EG (J : List D) (most : Int) (y2 y3 y4 y5 y6 y7 y8 y9 : Option SV) : En := [some (.own J), some (.val (.int most)), y2, y3, y4, y5, y6, y7, y8, y9]
section
variable {J : List D} {most : Int} {y2 y3 y4 y5 y6 y7 y8 y9 x : Option SV}
theorem EG6 : (EG J most y2 y3 y4 y5 y6 y7 y8 y9).set 6 x = EG J most y2 y3 y4 y5 x y7 y8 y9 := rfl
end
theorem ints_inner {ns : List Int} {len : Int} : ((ascI ns).filter fun x => decide (0 < x ∧ x < len)).Pairwise (· < ·) ∧ ∀ y ∈ (ascI ns).filter (fun x => decide (0 < x ∧ x < len)), 1 ≤ y ∧ y ≤ len - 1 := by
  refine ⟨(ascI_asc ns).sublist List.filter_sublist, fun y hy => ?_⟩
  have := (List.mem_filter.mp hy).2
  simp at this
  omega
theorem insI_len (x : Int) : ∀ r : List Int, (insI x r).length ≤ r.length + 1
  | [] => Nat.le_refl _
  | y :: r => by
    unfold insI
    split
    · simp
    · split
      · simp
      · have := insI_len x r
        simp
        omega
theorem ascI_len : ∀ r : List Int, (ascI r).length ≤ r.length
  | [] => Nat.le_refl _
  | y :: r => by
    have := insI_len y (ascI r)
    have := ascI_len r
    unfold ascI
    simp only [List.length_cons]
    omega
/-- what the kinds' comprehension gives: pairs of the places with drawn kinds -/
theorem comp_kinds {e : En} {J : List D} {n0 iv ij : Nat} {inner : List Int} {P : List D × En → Prop} (hij : e[ij]? = some (some (.own J))) (hn : e[iv]? = some none) (hne : ij ≠ iv) (hJ : JarOk n0 J) (hn0 : n0 + inner.length ≤ 100000000)
    (h : ∀ ms J', fsts ms = inner → prsOk ms → JarOk (n0 + inner.length) J' → P (ms.map pr, e.set ij (some (.own J')))) :
    (compLoop (tgName iv) tTrue (eTup (aCons (eVar iv) (aCons (eBin addD (eC (.int 1)) (eCallJ ij s__law_dip (aCons (eC (.int 2)) aNil))) aNil))) [iv] (inner.map D.int) [] e).all P := by
  have hv : iv < e.length := (List.getElem?_eq_some_iff.mp hn).1
  have hj : ij < e.length := (List.getElem?_eq_some_iff.mp hij).1
  refine w_comp (fun k acc e' => ∃ ms J', acc = ms.map pr ∧ e' = e.set ij (some (.own J')) ∧ fsts ms = inner.take k ∧ prsOk ms ∧ JarOk (n0 + k) J') _ 0 _ _ ⟨[], J, rfl, ?_, rfl, (fun _ hz => nomatch hz), hJ⟩ ?_ ?_
  · refine List.ext_getElem? fun i => ?_
    rw [List.getElem?_set]
    split
    · rename_i q
      subst q
      rw [hij]
    · rfl
  · rintro k d acc e' hk ⟨ms, J', rfl, rfl, h1, h2, h3⟩
    obtain ⟨a, ha, rfl⟩ := int_get hk
    rw [Nat.zero_add] at h1 h3 ⊢
    have hkl : k < inner.length := (List.getElem?_eq_some_iff.mp ha).1
    refine k_tgn (k_tt ⟨fun _ => ?_, fun z => (nomatch z)⟩)
    have g1 : ((e.set ij (some (.own J'))).set iv (some (.val (.int a))))[iv]? = some (some (.val (.int a))) := List.getElem?_set_self (by simpa using hv)
    have g2 : getOwn ij ((e.set ij (some (.own J'))).set iv (some (.val (.int a)))) = some J' := by
      unfold getOwn
      rw [List.getElem?_set_ne (Ne.symm hne), List.getElem?_set_self hj]
    refine k_tup (k_cons (k_var g1 (k_cons (k_bin (k_c (k_callJ (by rw [g2]; rfl) (k_cons (k_c (k_nil ⟨_, g2, w_dip h3 (by omega) (by decide) (by decide) fun d2 J2 b1 b2 j2 => ?_⟩)))))))))
    refine ⟨_, _, rfl, k_nil ⟨by show 2 ≤ 1000; decide, ms ++ [(a, 1 + d2)], J2, by simp [pr], ?_, ?_, ?_, j2⟩⟩
    · simp only [x_wipeE_c, x_wipeE_n]
      refine List.ext_getElem? fun i => ?_
      simp only [List.getElem?_set, List.length_set]
      by_cases q1 : ij = i
      · subst q1
        simp [hj, Ne.symm hne]
      · by_cases q2 : iv = i
        · subst q2
          rw [hn]
          simp [q1, hv]
        · simp [q1, q2]
    · unfold fsts at h1 ⊢
      rw [List.map_append, h1, List.take_succ, ha]
      rfl
    · intro p hp
      rcases List.mem_append.mp hp with q | q
      · exact h2 p q
      · have : p = (a, 1 + d2) := by simpa using q
        rw [this]
        show 1 + d2 = 1 ∨ 1 + d2 = 2
        omega
  · rintro acc e' ⟨ms, J', rfl, rfl, h1, h2, h3⟩
    rw [Nat.zero_add, List.length_map] at h1 h3
    rw [List.take_length] at h1
    exact h ms J' h1 h2 h3
theorem setD_ints {ns : List Int} (h : ns.length + 1 < 4096) : setD (.lst (ns.map D.int)) = some (.lst ((ascI ns).map D.int), true) := by
  unfold setD
  dsimp only
  rw [intsOf_map]
  show (if ns.length + 1 < 4096 then _ else _) = _
  rw [if_pos h]
theorem m_great {n0 : Nat} {J : List D} {m : Int} {P : D × Bool × List D → Prop} (hJ : JarOk n0 J) (hn : n0 ≤ 10000000) (hm : 0 < m) (hm2 : m ≤ 200)
    (h : ∀ (len : Int) (ms : List (Int × Int)) (l n g : Int) (J' : List D), Big len ms l n g → l ≤ 10 ^ 27 → g ≤ 10 ^ 28 → ms.length ≤ 16 → JarOk (n0 + 1000) J' → P (rawD len ms l n g, false, J')) : (s__law_great [.lst J, .int m]).all P := by
  have p3 : powD (.int 10) (.int 3) = some (.int (10 ^ (3 : Int).toNat), false) := by rw [x_powI, if_pos (by decide)]
  have p15 : powD (.int 10) (.int 15) = some (.int (10 ^ (15 : Int).toNat), false) := by rw [x_powI, if_pos (by decide)]
  have p27 : powD (.int 10) (.int 27) = some (.int (10 ^ (27 : Int).toNat), false) := by rw [x_powI, if_pos (by decide)]
  unfold s__law_great
  refine w_run rfl ?_
  unfold b__law_great
  refine k_seq (k_set ?_)
  refine k_callJ rfl (k_cons (k_bin (k_lst (k_cons (k_bin (k_c (k_c ⟨_, _, p3, k_cons (k_bin (k_c (k_c ⟨_, _, p15, k_cons (k_bin (k_c (k_c ⟨_, _, p27, k_nil ⟨by show 3 ≤ 1000; decide, ?_⟩⟩)))⟩)))⟩)))))))
  refine k_callJ rfl (k_cons (k_c (k_nil ⟨_, rfl, w_dip hJ (by omega) (by decide) (by decide) fun d1 J1 a1 a2 j1 => ?_⟩)))
  try dsimp only [List.set_cons_zero, List.set_cons_succ]
  obtain ⟨w, hw, hww⟩ := ix3_of (x := 10 ^ (3 : Int).toNat) (y := 10 ^ (15 : Int).toNat) (z := 10 ^ (27 : Int).toNat) a1 a2
  have w0 : 0 < w := by
    rcases hww with q | q | q <;> rw [q] <;> decide
  have w1 : w ≤ 10 ^ 27 := by
    rcases hww with q | q | q <;> rw [q] <;> decide
  refine ⟨_, _, hw, k_nil ⟨_, rfl, m_three j1 (by omega) w0 (by omega) fun l n g J2 t1 t2 t3 t4 t5 t6 j2 => ?_⟩⟩
  try dsimp only [List.set_cons_zero, List.set_cons_succ]
  show (sSeq _ _ (EG J2 m (some (.val (thD l n g))) none none none none none none none)).all _ _ _ _
  refine k_seq (k_set (k_bin (k_c (k_callJ rfl (k_cons (k_bin (k_bin (k_c (k_callJ rfl (k_cons (k_var rfl (k_nil ⟨_, rfl, w_dip j2 (by omega) hm (by omega) fun d2 J3 b1 b2 j3 => ?_⟩))))))))))))
  try dsimp only [List.set_cons_zero, List.set_cons_succ]
  refine ⟨_, _, rfl, k_bin (k_var rfl (k_c ⟨_, _, th_ix0 _ _ _, ?_⟩))⟩
  have ub : (1 + d2) * l ≤ 200 * 10 ^ 27 := Int.mul_le_mul (by omega) (by omega) (by omega) (by omega)
  have ub2 : (1 + d2) * l ≤ 200 * l := Int.mul_le_mul_of_nonneg_right (by omega) (by omega)
  have lb : 0 < (1 + d2) * l := Int.mul_pos (by omega) (by omega)
  refine ⟨_, _, mul_ok (by omega) (by omega) (by omega) (by omega), k_nil ⟨_, rfl, w_dip j3 (by omega) lb (by omega) fun d3 J4 c1 c2 j4 => ?_⟩⟩
  refine ⟨_, _, rfl, ?_⟩
  try dsimp only [List.set_cons_zero, List.set_cons_succ]
  generalize hlen : 1 + d3 = len
  have lenl : len ≤ (1 + d2) * l := by omega
  have len1 : 1 ≤ len := by omega
  show (sSeq _ _ (EG J4 m (some (.val (thD l n g))) (some (.val (.int len))) none none none none none none)).all _ _ _ _
  refine k_seq (k_parF (k_evc (k_lst (k_nil ⟨by show 0 ≤ 1000; decide, fun _ => rfl, k_evc (k_c ⟨fun z => (nomatch z), k_evn ⟨rfl, ?_⟩⟩)⟩))))
  show (sSeq _ _ (EG J4 m (some (.val (thD l n g))) (some (.val (.int len))) (some (.own [])) (some (.val (.int 0))) none none none none)).all _ _ _ _
  refine k_seq (k_for (k_rg1 (k_cons (k_callJ rfl (k_cons (k_c (k_nil ⟨_, rfl, w_dip j4 (by omega) (by decide) (by decide) fun c J5 e1 e2 j5 => ?_⟩)))))))
  try dsimp only [List.set_cons_zero, List.set_cons_succ]
  refine k_nil ⟨c, rfl, by omega, ?_⟩
  show (forL _ _ _ (EG J5 m (some (.val (thD l n g))) (some (.val (.int len))) (some (.own [])) (some (.val (.int 0))) none none none none)).all _ _ _ _
  refine w_for (fun k e => ∃ J xs spot y6 y7, e = EG J m (some (.val (thD l n g))) (some (.val (.int len))) (some (.own (xs.map D.int))) (some (.val (.int spot))) y6 y7 none none ∧ JarOk (n0 + 20 + 5 * k) J ∧ xs.length = k) _ 0 _ ⟨J5, [], 0, none, none, rfl, j5.up (by omega), rfl⟩ ?_ ?_
  · rintro k d e hk ⟨J, xs, spot, y6, y7, rfl, jk, hx⟩
    have hlt : k < c.toNat := by
      have := (List.getElem?_eq_some_iff.mp hk).1
      rw [rangeL_len] at this
      exact this
    clear hk
    rw [Nat.zero_add] at jk hx ⊢
    refine k_fr EG6 ?_
    refine k_seq (k_set (k_bin (k_lst (k_cons (k_bin (k_var rfl (k_c ⟨_, _, th_ix0 _ _ _, ?_⟩)))))))
    refine k_cons (k_bin (k_var rfl (k_c ⟨_, _, th_ix1 _ _ _, k_cons (k_bin (k_var rfl (k_c ⟨_, _, th_ix2 _ _ _, k_cons ?_⟩)))⟩)))
    refine k_bin (k_c (k_callJ rfl (k_cons (k_bin (k_c (k_bin (k_var rfl (k_c ⟨_, _, th_ix2 _ _ _, _, _, mul_ok (by omega) (by omega) (by omega) (by omega), k_nil ⟨_, rfl, w_dip jk (by omega) (by omega) (by omega) fun f1 J1 g1 g2 i1 => ?_⟩⟩))))))))
    try dsimp only [List.set_cons_zero, List.set_cons_succ]
    refine ⟨_, _, rfl, k_nil ⟨by show 4 ≤ 1000; decide, ?_⟩⟩
    refine k_callJ rfl (k_cons (k_c (k_nil ⟨_, rfl, w_dip i1 (by omega) (by decide) (by decide) fun f2 J2 g3 g4 i2 => ?_⟩)))
    try dsimp only [List.set_cons_zero, List.set_cons_succ]
    obtain ⟨gap, hgap, _⟩ := ix4_of (x := l) (y := n) (z := g) (u := 1 + f1) g3 g4
    refine ⟨_, _, hgap, ?_⟩
    show (sSeq _ _ (EG J2 m (some (.val (thD l n g))) (some (.val (.int len))) (some (.own (xs.map D.int))) (some (.val (.int spot))) (some (.val d)) (some (.val (.int gap))) none none)).all _ _ _ _
    refine k_seq (k_set (k_bin (k_bin (k_lst (k_cons (k_var rfl (k_cons ?_)))))))
    refine k_callJ rfl (k_cons (k_var rfl (k_nil ⟨_, rfl, w_dip i2 (by omega) (by omega) (by omega) fun f3 J3 g5 g6 i3 => ?_⟩)))
    try dsimp only [List.set_cons_zero, List.set_cons_succ]
    refine k_nil ⟨by show 2 ≤ 1000; decide, ?_⟩
    refine k_blt (k_cons (k_bin (k_callJ rfl (k_cons (k_c (k_nil ⟨_, rfl, w_dip i3 (by omega) (by decide) (by decide) fun f4 J4 g7 g8 i4 => ?_⟩))))))
    try dsimp only [List.set_cons_zero, List.set_cons_succ]
    refine k_c ⟨_, _, rfl, k_nil ⟨_, _, rfl, ?_⟩⟩
    obtain ⟨s0, hs0, _⟩ := ix2_of (x := spot) (y := f3) (i := if decide (f4 = 0) = true then 1 else 0) (by split <;> decide) (by split <;> decide)
    refine ⟨_, _, hs0, ?_⟩
    refine k_blt (k_cons (k_c (k_cons (k_bin (k_bin (k_var rfl ?_))))))
    refine k_callJ rfl (k_cons (k_c (k_nil ⟨_, rfl, w_dip i4 (by omega) (by decide) (by decide) fun f5 J5 g9 g10 i5 => ?_⟩)))
    try dsimp only [List.set_cons_zero, List.set_cons_succ]
    refine ⟨_, _, rfl, k_c ⟨_, _, rfl, k_nil ⟨_, _, maxD_ints _ _, _, _, rfl, ?_⟩⟩⟩
    generalize s0 + max 0 (gap + f5 - 1) = spot'
    show (sApp _ _ (EG J5 m (some (.val (thD l n g))) (some (.val (.int len))) (some (.own (xs.map D.int))) (some (.val (.int spot'))) (some (.val d)) (some (.val (.int gap))) none none)).all _ _ _ _
    refine k_app rfl (k_cons (k_var rfl (k_nil ⟨_, _, rfl, rfl, by rw [List.length_map, sizeLine_eq]; omega, ?_⟩)))
    refine ⟨J5, xs ++ [spot'], spot', some (.val d), some (.val (.int gap)), ?_, i5.up (by omega), by simp; omega⟩
    rw [List.map_append]
    rfl
  · rintro e ⟨J, xs, spot, y6, y7, rfl, jk, hx⟩
    rw [Nat.zero_add, rangeL_len] at jk hx
    refine k_seq (k_fz rfl (k_set (k_comp (k_seqI (k_un (k_var rfl ⟨_, _, setD_ints (by omega), _, rfl, ?_⟩))))))
    refine k_eq (comp_filter (fun x => decide (0 < x ∧ x < len)) rfl fun x _ => ?_) ?_
    · by_cases q1 : 0 < x
      · by_cases q2 : x < len
        · simp [EG, q1, q2]
        · simp [EG, q1, q2]
      · simp [EG, q1]
    obtain ⟨in1, in2⟩ := ints_inner (ns := xs) (len := len)
    have in3 : ((ascI xs).filter fun x => decide (0 < x ∧ x < len)).length ≤ 16 := by
      have := List.length_filter_le (fun x => decide (0 < x ∧ x < len)) (ascI xs)
      have := ascI_len xs
      omega
    generalize (ascI xs).filter (fun x => decide (0 < x ∧ x < len)) = inner at in1 in2 in3 ⊢
    generalize xs.map D.int = xd
    show (sRet _ (EG J m (some (.val (thD l n g))) (some (.val (.int len))) (some (.val (.lst xd))) (some (.val (.int spot))) y6 y7 (some (.val (.lst (inner.map D.int)))) none)).all _ _ _ _
    refine k_ret (k_tup (k_cons (k_var rfl (k_cons (k_comp (k_seqI (k_var rfl ⟨_, rfl, ?_⟩)))))))
    refine comp_kinds (ij := 0) (iv := 9) (J := J) rfl rfl (by decide) jk (by omega) fun ms J' h1 h2 j' => ?_
    refine k_cons (k_var rfl (k_nil ⟨by show 3 ≤ 1000; decide, ?_⟩))
    have ml : ms.length = inner.length := by
      rw [← h1]
      unfold fsts
      rw [List.length_map]
    refine h len ms l n g J' ⟨⟨len1, h2, by rw [h1]; exact in1, fun p hp => in2 p.1 (by rw [← h1]; exact List.mem_map_of_mem hp), by omega⟩, ⟨by omega, by omega, by omega, by omega⟩, by omega, by omega⟩ (by omega) (by omega) (by omega) (j'.up (by omega))
end G

namespace G
open PySem PySem.Spec PyProof.Rows L2
/-- a comprehension of ints, whose items draw from the jar -/
theorem comp_ints {T : Tg} {c : Et} {el : Ex} {vs : List Nat} {e : En} {ij n0 cc : Nat} {J : List D} {ds : List D} {P : List D × En → Prop} (Gd : Int → Prop) (hij : e[ij]? = some (some (.own J))) (hJ : JarOk n0 J)
    (hs : ∀ k d J', k < ds.length → ds[k]? = some d → JarOk (n0 + cc * k) J' → (T d (e.set ij (some (.own J')))).all fun e1 => (c e1).all fun p =>
      (p.1 = true → (el p.2).all fun q => ∃ x J2, q.1 = .int x ∧ Gd x ∧ wipeE q.2.2 vs = e.set ij (some (.own J2)) ∧ JarOk (n0 + cc * (k + 1)) J2) ∧ (p.1 = false → ∃ J2, wipeE p.2 vs = e.set ij (some (.own J2)) ∧ JarOk (n0 + cc * (k + 1)) J2))
    (h : ∀ (xs : List Int) J', (∀ x ∈ xs, Gd x) → xs.length ≤ ds.length → JarOk (n0 + cc * ds.length) J' → P (xs.map D.int, e.set ij (some (.own J')))) : (compLoop T c el vs ds [] e).all P := by
  have hj : ij < e.length := (List.getElem?_eq_some_iff.mp hij).1
  refine w_comp (fun k acc e' => ∃ (xs : List Int) (J' : List D), acc = xs.map D.int ∧ e' = e.set ij (some (.own J')) ∧ (∀ x ∈ xs, Gd x) ∧ xs.length ≤ k ∧ JarOk (n0 + cc * k) J') _ 0 _ _ ⟨[], J, rfl, ?_, (fun _ hz => nomatch hz), Nat.le_refl _, by simpa using hJ⟩ ?_ ?_
  · refine List.ext_getElem? fun i => ?_
    rw [List.getElem?_set]
    split
    · rename_i q
      subst q
      rw [hij]
    · rfl
  · rintro k d acc e' hk ⟨xs, J', rfl, rfl, h1, h2, h3⟩
    rw [Nat.zero_add] at h2 h3 ⊢
    refine (hs k d J' (List.getElem?_eq_some_iff.mp hk).1 hk h3).mono fun e1 h => h.mono fun p h => ⟨fun hp => (h.1 hp).mono fun q ⟨x, J2, e1, e2, e3, e4⟩ => ?_, fun hp => ?_⟩
    · refine ⟨xs ++ [x], J2, by rw [e1]; simp, e3, fun y hy => ?_, by simp; omega, e4⟩
      rcases List.mem_append.mp hy with q | q
      · exact h1 y q
      · have : y = x := by simpa using q
        rw [this]
        exact e2
    · obtain ⟨J2, e3, e4⟩ := h.2 hp
      exact ⟨xs, J2, rfl, e3, h1, by omega, e4⟩
  · rintro acc e' ⟨xs, J', rfl, rfl, h1, h2, h3⟩
    rw [Nat.zero_add] at h2 h3
    exact h xs J' h1 h2 h3
theorem addD_ints (xs ys : List Int) (h : xs.length + ys.length ≤ 8000) : addD (.lst (xs.map D.int)) (.lst (ys.map D.int)) = some (.lst ((xs ++ ys).map D.int), true) := by
  unfold addD
  dsimp only
  rw [if_pos (by rw [List.length_map, List.length_map, sizeLine_eq]; omega), List.map_append]
theorem sl_2 (x y : Int) (r : List Int) : slD (.lst ((x :: y :: r).map D.int)) none (some 2) = some (.lst [.int x, .int y], true) := by
  show some (D.lst (cutD _ none (some 2)), true) = _
  unfold cutD HT.sIx
  simp
end G

namespace G
open PySem PySem.Spec PyProof.Rows L2
theorem eqX_ints (ns : List Int) : eqX (.lst (ns.map D.int)) (.lst (ns.map D.int)) = some (.bl true, false) := eqX_refl (k := 5) (by decide) (show okDs 4 (ns.map D.int) = true from okDs_ints _ _)
theorem neX_ints (ns : List Int) : neX (.lst (ns.map D.int)) (.lst (ns.map D.int)) = some (.bl false, false) := neX_refl (k := 5) (by decide) (show okDs 4 (ns.map D.int) = true from okDs_ints _ _)
theorem wkL_last {len : Int} {ns cs : List Int} {l n g : Int} (h : St3 ns cs l n g) {p : Int} (hp : p < len) : ∃ F q, wkL len ns cs l n g p = F ++ [q, len] ∧ p ≤ q ∧ q < len ∧ nxt len ns cs l n g q = len := by
  refine wk_ind (len := len) (M := fun p => p < len → ∃ F q, wkL len ns cs l n g p = F ++ [q, len] ∧ p ≤ q ∧ q < len ∧ nxt len ns cs l n g q = len) h (fun p hp h2 => absurd h2 hp) (fun p hp ih _ => ?_) p hp
  obtain ⟨n1, n2, n3⟩ := nxt_lt h hp
  by_cases e : nxt len ns cs l n g p < len
  · obtain ⟨F, q, e1, e2, e3, e4⟩ := ih e
    exact ⟨p :: F, q, by rw [wkL_go h hp, e1]; rfl, by omega, e3, e4⟩
  · have e : nxt len ns cs l n g p = len := by omega
    exact ⟨[], p, by rw [wkL_go h hp, e, wkL_stop h (by omega)]; rfl, Int.le_refl _, hp, e⟩
theorem atI_last2 {α : Type} (xs : List α) (x y : α) : atI (xs ++ [x, y]) (-2) = some x := by
  unfold L2.atI L2.ixN
  have h : (-2 + ((xs.length : Int) + 2)).toNat = xs.length := by omega
  have h2 : (2 : Int) ≤ (xs.length : Int) + 2 := by omega
  simp [h, h2]
theorem emp_ints (neg : Bool) (i : Nat) (ns : List Int) {e : En} (h : getOwn i e = some (ns.map D.int)) : eEmpO neg i e = .ok (.bl (neg != ns.isEmpty), false, e) := by
  unfold eEmpO
  rw [h]
  obtain ⟨p, e1, e2, _⟩ := okD_shaped (k := 5) (by decide) (d := .lst (ns.map D.int)) (show okDs 4 (ns.map D.int) = true from okDs_ints _ _)
  dsimp only
  rw [e1]
  dsimp only
  rw [if_pos e2]
  cases ns <;> rfl
end G

namespace G
open PySem PySem.Spec PyProof.Rows L2
def lastI (xs : List Int) : Int := xs.getLast?.getD 0
theorem lastI_app (xs : List Int) (x : Int) : lastI (xs ++ [x]) = x := by simp [lastI]
theorem atI_lastI {xs : List Int} (h : xs ≠ []) : atI (xs.map D.int) (-1) = some (.int (lastI xs)) := by
  obtain ⟨ys, y, rfl⟩ : ∃ ys y, xs = ys ++ [y] := ⟨xs.dropLast, xs.getLast h, (List.dropLast_concat_getLast h).symm⟩
  rw [List.map_append, lastI_app]
  exact atI_last _ _
end G

namespace G
open PySem PySem.Spec PyProof.Rows L2
theorem fin_rest {r : So} {P B C : En → Prop} (z : okS r = true) : r.all P (fun d fr e' => (finE false d fr e').all fun p => p.1 = .bl true) B C := by
  cases r with
  | ret d fr e' =>
    cases d with
    | bl b =>
      have : b = true := z
      subst this
      rfl
    | _ => cases z
  | nx e' => cases z
  | brk e' => cases z
  | cnt e' => cases z
  | exc c e' => cases z
  | bad => cases z
theorem k_lenO {P : D × Bool × En → Prop} {e : En} {i : Nat} {ds : List D} (q : getOwn i e = some ds) (h : P (.int ds.length, false, e)) : (eLenO i e).all P := by
  unfold eLenO
  rw [q]
  exact h
theorem inD_ints (a : Int) (ns : List Int) : inD (.int a) (.lst (ns.map D.int)) = some (.bl (decide (a ∈ ns)), false) := by
  have e2 : toP (.lst (ns.map D.int)) = some (.list (ns.map PyData.int)) := by
    show (toPs (ns.map D.int)).map PyData.list = _
    rw [toPs_ints]
    rfl
  obtain ⟨q, f1, f2, f3⟩ := okD_shaped (k := 5) (by decide) (d := .lst (ns.map D.int)) (show okDs 4 (ns.map D.int) = true from okDs_ints _ _)
  rw [e2] at f1
  cases f1
  have e1 : toP (.int a) = some (.int a) := rfl
  unfold inD
  rw [e1, e2]
  dsimp only
  rw [if_pos ⟨by obtain ⟨q, g1, g2, g3⟩ := okD_shaped (k := 3) (by decide) (d := .int a) rfl; rw [e1] at g1; cases g1; exact g2, f2⟩]
  congr 2
  rw [List.any_map]
  congr 1
  rw [Bool.eq_iff_iff, List.any_eq_true, decide_eq_true_eq]
  constructor
  · rintro ⟨x, h1, h2⟩
    simp [PyData.eqv] at h2
    rw [← h2]
    exact h1
  · intro h
    exact ⟨a, h, by simp [PyData.eqv]⟩
theorem k_ext {P : En → Prop} {R : D → Bool → En → Prop} {B C : En → Prop} {e : En} {i : Nat} {f : Ea} (h0 : (getOwn i e).isSome = true) (h : (f e).all fun p => ∃ ds es, getOwn i p.2 = some ds ∧ p.1 = [.lst es] ∧ ds.length + es.length ≤ sizeLine ∧ P (p.2.set i (some (.own (ds ++ es))))) : (sExt i f e).all P R B C := by
  unfold sExt
  cases hq : getOwn i e with
  | none => rw [hq] at h0; cases h0
  | some ds0 =>
    dsimp only
    rw [w_so]
    refine h.mono fun p ⟨ds, es, h1, h2, h3, h4⟩ => ?_
    rw [h1, h2]
    dsimp only
    rw [if_pos h3]
    exact h4
end G

namespace G
open PySem PySem.Spec PyProof.Rows L2
/-! ### meetings -/
/-- the first of L that is in M -/
def fst2 (L M : List Int) : Int := (L.find? fun c => decide (c ∈ M)).getD 0
theorem fst2_of {L F M R : List Int} {q : Int} (h1 : L = F ++ q :: R) (h2 : ∀ x ∈ F, x ∉ M) (h3 : q ∈ M) : fst2 L M = q := by
  unfold fst2
  rw [h1, List.find?_append]
  have : F.find? (fun c => decide (c ∈ M)) = none := by
    rw [List.find?_eq_none]
    intro x hx
    simpa using h2 x hx
  rw [this, List.find?_cons_of_pos (by simpa using h3)]
  rfl
theorem m_meeting {len : Int} {ns cs : List Int} {l n g : Int} (h : Run len ns cs l n g) {p1 p2 : Int} (a0 : 0 ≤ p1) (a1 : p1 ≤ len) (b0 : 0 ≤ p2) (b1 : p2 ≤ len) :
    s_meeting [rowD len ns cs, thD l n g, .int p1, .int p2] = .ok (.int (fst2 (wkL len ns cs l n g p1) (wkL len ns cs l n g p2)), false, []) ∧
    fst2 (wkL len ns cs l n g p2) (wkL len ns cs l n g p1) = fst2 (wkL len ns cs l n g p1) (wkL len ns cs l n g p2) := by
  have st := h.st
  have e1 := m_need_settings h.set
  have e2 := m_need_place a0 a1
  have e2' := m_need_place b0 b1
  have e3 := m_need_short h.set h.short
  have e4 := m_track_of len ns cs l n g
  have e6 := m_Row_length len ns cs
  have f1 := h.few a0 a1
  have f2 := h.few b0 b1
  have key : (s_meeting [rowD len ns cs, thD l n g, .int p1, .int p2]).all fun r => ∃ q, r = (.int q, false, []) ∧ fst2 (wkL len ns cs l n g p1) (wkL len ns cs l n g p2) = q ∧ fst2 (wkL len ns cs l n g p2) (wkL len ns cs l n g p1) = q := by
    unfold s_meeting
    refine w_run rfl ?_
    unfold b_meeting
    let E : En := [some (.val (rowD len ns cs)), some (.val (thD l n g)), some (.val (.int p1)), some (.val (.int p2)), none]
    refine k_step (e1 := E) (by simp [e1, E]) ?_
    refine k_step (e1 := E) (by simp [E]; unfold rowD at e6 ⊢; simp [e6, e2]) ?_
    refine k_step (e1 := E) (by simp [E]; unfold rowD at e6 ⊢; simp [e6, e2']) ?_
    refine k_step (e1 := E) (by simp [E]; unfold rowD at e6 ⊢; simp [e6, e3]) ?_
    refine k_seq (k_set (k_call (k_cons (k_var rfl (k_cons (k_var rfl (k_nil (k_eq e4 ?_))))))))
    let I : Nat → En → Prop := fun m e => ∃ F1 q1 F2 q2, e = [some (.val (rowD len ns cs)), some (.val (thD l n g)), some (.val (.int q1)), some (.val (.int q2)), some (.val (trkD len ns cs l n g))] ∧
      wkL len ns cs l n g p1 = F1 ++ wkL len ns cs l n g q1 ∧ wkL len ns cs l n g p2 = F2 ++ wkL len ns cs l n g q2 ∧ q1 ≤ len ∧ q2 ≤ len ∧ (∀ x ∈ F1, x ∉ wkL len ns cs l n g p2) ∧ (∀ x ∈ F2, x ∉ wkL len ns cs l n g p1) ∧ m = (wkL len ns cs l n g q1).length + (wkL len ns cs l n g q2).length
    refine k_seq (w_while I ?_ fuel _ _ (by unfold fuel; omega) ⟨[], p1, [], p2, rfl, rfl, rfl, a1, b1, (fun _ z => nomatch z), (fun _ z => nomatch z), rfl⟩)
    rintro m e ⟨F1, q1, F2, q2, rfl, h1, h2, c1, c2, d1, d2, rfl⟩
    have zc := h.zc
    have step : ∀ q : Int, s_Track_next_of [trkD len ns cs l n g, .int q] = .ok (.int (nxt len ns cs l n g q), false, []) := fun q => m_next_of st.asc st.casc h.zn (by omega)
    refine k_cmp (k_var rfl (k_var rfl ⟨_, _, rfl, ?_⟩))
    by_cases he : q1 = q2
    · rw [if_neg (by simpa using he)]
      subst he
      obtain ⟨R, hR⟩ := wkL_hd (len := len) st q1
      refine k_ret (k_var rfl ⟨q1, rfl, ?_, ?_⟩)
      · exact fst2_of (h1.trans (by rw [hR])) d1 (by rw [h2, hR]; simp)
      · exact fst2_of (h2.trans (by rw [hR])) d2 (by rw [h1, hR]; simp)
    · rw [if_pos (by simpa using he)]
      refine k_if (k_cmp (k_var rfl (k_var rfl ⟨_, _, rfl, fun hlt => ?_, fun hlt => ?_⟩)))
      · have hlt : q1 < q2 := of_decide_eq_true hlt
        have w := wkL_go (len := len) st (p := q1) (by omega)
        have nl := nxt_lt (len := len) st (p := q1) (by omega)
        refine k_set (k_meth (k_var rfl ⟨_, _, rfl, trk_notin, k_cons (k_var rfl (k_nil (k_eq (step q1) ?_)))⟩))
        refine ⟨_, ?_, F1 ++ [q1], nxt len ns cs l n g q1, F2, q2, rfl, ?_, h2, nl.2.1, c2, ?_, d2, rfl⟩
        · rw [w]
          simp
        · rw [h1, w]
          simp
        · intro x hx
          rcases List.mem_append.mp hx with z | z
          · exact d1 x z
          · have : x = q1 := by simpa using z
            subst this
            rw [h2]
            intro hm
            rcases List.mem_append.mp hm with y | y
            · exact d2 x y (by rw [h1, w]; simp)
            · have := (wkL_mem st q2 c2 x y).1
              omega
      · have hlt : ¬ q1 < q2 := of_decide_eq_false hlt
        have w := wkL_go (len := len) st (p := q2) (by omega)
        have nl := nxt_lt (len := len) st (p := q2) (by omega)
        refine k_set (k_meth (k_var rfl ⟨_, _, rfl, trk_notin, k_cons (k_var rfl (k_nil (k_eq (step q2) ?_)))⟩))
        refine ⟨_, ?_, F1, q1, F2 ++ [q2], nxt len ns cs l n g q2, rfl, h1, ?_, c1, nl.2.1, d1, ?_, rfl⟩
        · rw [w]
          simp
        · rw [h2, w]
          simp
        · intro x hx
          rcases List.mem_append.mp hx with z | z
          · exact d2 x z
          · have : x = q2 := by simpa using z
            subst this
            rw [h1]
            intro hm
            rcases List.mem_append.mp hm with y | y
            · exact d1 x y (by rw [h2, w]; simp)
            · have := (wkL_mem st q1 c1 x y).1
              omega
  cases hq : s_meeting [rowD len ns cs, thD l n g, .int p1, .int p2] with
  | ok r =>
    rw [hq] at key
    obtain ⟨q, rfl, e1, e2⟩ := key
    exact ⟨by rw [e1], by rw [e1, e2]⟩
  | exc c e => rw [hq] at key; exact False.elim key
  | bad => rw [hq] at key; exact False.elim key
theorem fst2_in {L M : List Int} {z : Int} (h1 : z ∈ L) (h2 : z ∈ M) : fst2 L M ∈ L ∧ fst2 L M ∈ M ∧ ∃ r, L.filter (fun c => decide (c ∈ M)) = fst2 L M :: r := by
  cases hf : L.filter (fun c => decide (c ∈ M)) with
  | nil =>
    have : z ∈ L.filter (fun c => decide (c ∈ M)) := List.mem_filter.mpr ⟨h1, by simpa using h2⟩
    rw [hf] at this
    cases this
  | cons a r =>
    have h := List.head?_filter (p := fun c => decide (c ∈ M)) (l := L)
    rw [hf] at h
    have e : fst2 L M = a := by
      unfold fst2
      rw [← h]
      rfl
    have ha : a ∈ L.filter (fun c => decide (c ∈ M)) := by rw [hf]; exact List.mem_cons_self
    obtain ⟨m1, m2⟩ := List.mem_filter.mp ha
    rw [e]
    exact ⟨m1, by simpa using m2, r, rfl⟩
theorem comp_in {e0 : En} {L M : List Int} {iv il : Nat} (hlo : e0[il]? = some (some (.val (.lst (M.map D.int))))) (hn : e0[iv]? = some none) (h1 : il ≠ iv) :
    compLoop (tgName iv) (tCmp2 inD (eVar iv) (eVar il)) (eVar iv) [iv] (L.map D.int) [] e0 = .ok ((L.filter fun c => decide (c ∈ M)).map D.int, e0) :=
  comp_filter _ hn fun x _ => by
    have hv : iv < e0.length := (List.getElem?_eq_some_iff.mp hn).1
    have g1 : (e0.set iv (some (.val (.int x))))[il]? = some (some (.val (.lst (M.map D.int)))) := by rw [List.getElem?_set_ne (Ne.symm h1)]; exact hlo
    have g3 : (e0.set iv (some (.val (.int x))))[iv]? = some (some (.val (.int x))) := by rw [List.getElem?_set_self hv]
    simp [g1, g3, inD_ints]
end G


namespace G
open PySem PySem.Spec PyProof.Rows L2
theorem m_first {L M : List Int} {z : Int} (h1 : z ∈ L) (h2 : z ∈ M) : s__law_first [.lst (L.map D.int), .lst (M.map D.int)] = .ok (.int (fst2 L M), false, []) := by
  obtain ⟨_, _, r, hr⟩ := fst2_in h1 h2
  refine eq_of_all ?_
  unfold s__law_first
  refine w_run rfl ?_
  unfold b__law_first
  refine k_ret (k_bin (k_comp (k_seqI (k_var rfl ⟨_, rfl, k_eq (comp_in (iv := 2) (il := 1) (M := M) rfl rfl (by decide)) ?_⟩))))
  rw [hr]
  refine k_c ⟨.int (fst2 L M), false, by simp, ?_⟩
  rfl
theorem addD_l (a b : List D) (h : a.length + b.length ≤ 8000) : addD (.lst a) (.lst b) = some (.lst (a ++ b), true) := by
  unfold addD
  dsimp only
  rw [if_pos (by rw [sizeLine_eq]; omega)]
def E8 (made raw : D) (len : Int) (y3 y4 y5 y6 y7 : Option SV) : En := [some (.val made), some (.val raw), some (.val (.int len)), y3, y4, y5, y6, y7]
section
variable {made raw : D} {len : Int} {y3 y4 y5 y6 y7 x : Option SV}
theorem E8_5 : (E8 made raw len y3 y4 y5 y6 y7).set 5 x = E8 made raw len y3 y4 x y6 y7 := rfl
theorem E8_6 : (E8 made raw len y3 y4 y5 y6 y7).set 6 x = E8 made raw len y3 y4 y5 x y7 := rfl
end
theorem m_small_right {len : Int} {ms : List (Int × Int)} {l n g : Int} (h : Fit len ms l n g) (hlen : len ≤ 100) : s__law_small_right [rowD len (fsts ms) (stricts ms), rawD len ms l n g] = .ok (.bl true, false, []) := by
  have r := h.run
  have st := r.st
  have o1 := h.raw.one
  have hs : ∀ p, 0 ≤ p → p ≤ len → s__law_slow_walk [rawD len ms l n g, .int p] = .ok (.lst ((wkM len ms l n g p).map D.int), true, []) := fun p h0 h1 => m_slow_walk h h0 h1
  have hm : ∀ p q, 0 ≤ p → p ≤ len → 0 ≤ q → q ≤ len → s_meeting [rowD len (fsts ms) (stricts ms), thD l n g, .int p, .int q] = .ok (.int (fst2 (wkM len ms l n g p) (wkM len ms l n g q)), false, []) ∧ fst2 (wkM len ms l n g q) (wkM len ms l n g p) = fst2 (wkM len ms l n g p) (wkM len ms l n g q) := fun p q a b c d => m_meeting r a b c d
  have hi0 := raw_ix0 len ms l n g
  have hi2 := raw_ix2 len ms l n g
  have hh := m_heap (l := l) (n := n) (g := g) h.raw
  have he : cmpOD false 0 s_Rowd__eqd_ (rowD len (fsts ms) (stricts ms)) (rowD len (fsts ms) (stricts ms)) = some (.bl true, false) := by
    have e := m_Row_eq len (fsts ms) (stricts ms)
    unfold rowD at e ⊢
    show (if (0 : Nat) = 0 ∧ (0 : Nat) = 0 then blOf false (s_Rowd__eqd_ [_, _]) else none) = _
    rw [if_pos ⟨rfl, rfl⟩, e]
    rfl
  have wmem : ∀ p, p ≤ len → ∀ y ∈ wkM len ms l n g p, p ≤ y ∧ y ≤ len := fun p h1 => wkL_mem st p h1
  have wend : ∀ p, p ≤ len → len ∈ wkM len ms l n g p := fun p h1 => wkL_end st p h1
  refine eq_of_all ?_
  unfold s__law_small_right
  refine w_run rfl ?_
  unfold b__law_small_right
  refine k_seq (k_set (k_bin (k_var rfl (k_c ⟨_, _, hi0, ?_⟩))))
  show (sSeq _ _ (E8 (rowD len (fsts ms) (stricts ms)) (rawD len ms l n g) len none none none none none)).all _ _ _ _
  generalize rowD len (fsts ms) (stricts ms) = made at hm hh he ⊢
  generalize rawD len ms l n g = raw at hs hi0 hi2 hh ⊢
  generalize thD l n g = th at hi2 hm
  generalize wkM len ms l n g = W at hm hs wmem wend
  let WL : List D := (List.range (len + 1).toNat).map fun (i : Nat) => D.lst ((W (i : Int)).map D.int)
  have wix : ∀ p, 0 ≤ p → p ≤ len → ixD (.lst WL) (.int p) = some (.lst ((W p).map D.int), false) := fun p p0 p1 => by
    have hl : p.toNat < (len + 1).toNat := by omega
    rw [x_ixL, atI_pos _ _ p0 (by simp [WL]; omega)]
    have e : ((p.toNat : Nat) : Int) = p := by omega
    simp [WL, hl, e]
  have cw : compLoop (tgName 4) tTrue (eCall s__law_slow_walk (aCons (eVar 1) (aCons (eVar 4) aNil))) [4] (rangeL 0 (len + 1).toNat) [] (E8 made raw len none none none none none) = .ok (WL, E8 made raw len none none none none none) := by
    unfold rangeL
    rw [comp_go (fun (i : Nat) => D.int (0 + (i : Int))) (fun (i : Nat) => some (D.lst ((W (i : Int)).map D.int))) (List.range (len + 1).toNat)]
    · simp [WL]
    · intro x hx acc rest
      have hx : x < (len + 1).toNat := List.mem_range.mp hx
      rw [compLoop_c]
      have := hs (x : Int) (by omega) (by omega)
      simp [E8, this]
  refine k_seq (k_set (k_comp (k_rg1 (k_cons (k_bin (k_var rfl (k_c ⟨_, _, rfl, k_nil ⟨len + 1, rfl, by omega, k_eq cw ?_⟩⟩)))))))
  show (sSeq _ _ (E8 made raw len (some (.val (.lst WL))) none none none none)).all _ _ _ _
  generalize WL = wl at wix
  clear cw
  refine k_seq (k_for (k_rg1 (k_cons (k_bin (k_var rfl (k_c ⟨_, _, rfl, k_nil ⟨len + 1, rfl, by omega, ?_⟩⟩))))))
  refine w_for (fun _ e => ∃ y5 y6 y7, e = E8 made raw len (some (.val (.lst wl))) none y5 y6 y7) _ 0 _ ⟨_, _, _, rfl⟩ ?_ ?_
  · rintro k d e hk ⟨y5, y6, y7, rfl⟩
    have hlt : k < (len + 1).toNat := by
      have := (List.getElem?_eq_some_iff.mp hk).1
      rw [rangeL_len] at this
      exact this
    rw [rangeL_get _ _ _ hlt] at hk
    cases hk
    generalize hp : (0 : Int) + (k : Int) = p
    refine k_fr E8_5 ?_
    refine k_for (k_rg2 (k_cons (k_var rfl (k_cons (k_bin (k_var rfl (k_c ⟨_, _, rfl, k_nil ⟨p, len + 1, rfl, by omega, ?_⟩⟩)))))))
    refine w_for (fun _ e => ∃ y6 y7, e = E8 made raw len (some (.val (.lst wl))) none (some (.val (.int p))) y6 y7) _ 0 (E8 made raw len (some (.val (.lst wl))) none (some (.val (.int p))) y6 y7) ⟨y6, y7, rfl⟩ ?_ ?_
    · rintro k2 d e hk2 ⟨y6, y7, rfl⟩
      have hlt2 : k2 < (len + 1 - p).toNat := by
        have := (List.getElem?_eq_some_iff.mp hk2).1
        rw [rangeL_len] at this
        exact this
      rw [rangeL_get _ _ _ hlt2] at hk2
      cases hk2
      generalize hx : p + (k2 : Int) = q
      obtain ⟨m1, m2⟩ := hm p q (by omega) (by omega) (by omega) (by omega)
      obtain ⟨m3, _⟩ := hm q p (by omega) (by omega) (by omega) (by omega)
      rw [m2] at m3
      have ft := m_first (wend p (by omega)) (wend q (by omega))
      obtain ⟨f1, _⟩ := fst2_in (wend p (by omega)) (wend q (by omega))
      have f2 := wmem p (by omega) _ f1
      have w1 := wix p (by omega) (by omega)
      have w2 := wix q (by omega) (by omega)
      generalize fst2 (W p) (W q) = t at *
      obtain ⟨s, hs⟩ := repr_lst [t, t] (fun y hy => by
        have : y = t := by simpa using hy
        rw [this]
        exact small_of (by omega) (by omega)) (by show 2 ≤ 8000; decide)
      have hs : reprD [.lst [.int t, .int t]] = some (.str s, false) := hs
      refine k_fr E8_6 ?_
      refine k_seq (k_set (k_call (k_cons (k_bin (k_var rfl (k_var rfl ⟨_, _, w1, k_cons (k_bin (k_var rfl (k_var rfl ⟨_, _, w2, k_nil (k_eq ft ?_)⟩)))⟩))))))
      show (sIf _ _ _ (E8 made raw len (some (.val (.lst wl))) none (some (.val (.int p))) (some (.val (.int q))) (some (.val (.int t))))).all _ _ _ _
      refine k_if (k_cmp (k_blt (k_cons (k_lst (k_cons (k_call (k_cons (k_var rfl (k_cons (k_bin (k_var rfl (k_c ⟨_, _, hi2, ?_⟩))))))))))))
      refine k_cons (k_var rfl (k_cons (k_var rfl (k_nil (k_eq m1 (k_cons (k_call (k_cons (k_var rfl (k_cons (k_bin (k_var rfl (k_c ⟨_, _, hi2, ?_⟩)))))))))))))
      refine k_cons (k_var rfl (k_cons (k_var rfl (k_nil (k_eq m3 (k_nil ⟨by show 2 ≤ 1000; decide, k_nil ⟨_, _, hs, ?_⟩⟩))))))
      refine k_blt (k_cons (k_lst (k_cons (k_var rfl (k_cons (k_var rfl (k_nil ⟨by show 2 ≤ 1000; decide, k_nil ⟨_, _, hs, _, _, rfl, fun h7 => ?_, fun _ => k_skip ⟨_, _, rfl⟩⟩⟩)))))))
      simp at h7
    · rintro e ⟨y6, y7, rfl⟩
      exact ⟨_, _, _, rfl⟩
  · rintro e ⟨y5, y6, y7, rfl⟩
    refine k_ret (k_bin (k_var rfl (k_call (k_cons (k_var rfl (k_nil (k_eq hh ⟨_, _, he, ?_⟩)))))))
    rfl
end G

namespace G
open PySem PySem.Spec PyProof.Rows L2
theorem m_others {n0 : Nat} {J : List D} {len : Int} {ms : List (Int × Int)} {l n g : Int} {P : D × Bool × List D → Prop} (hJ : JarOk n0 J) (hn : n0 ≤ 1000000) (hs : Set3 l n g) (hg : g < 2 ^ 190)
    (h : ∀ (n1 l2 g2 : Int) (fr : Bool) (J' : List D), l ≤ n1 → n1 ≤ g → 1 ≤ l2 → l2 ≤ n → n ≤ g2 → g2 ≤ n + g → JarOk (n0 + 3) J' → P (.lst [rawD len ms l n1 g, rawD len ms l2 n g, rawD len ms l n g2, rawD len ms l n g], fr, J')) : (s__law_others [.lst J, rawD len ms l n g]).all P := by
  have a1 := hs.a
  have a2 := hs.b
  have a3 := hs.c
  have hi0 := raw_ix0 len ms l n g
  have hi1 := raw_ix1 len ms l n g
  have hi2 := raw_ix2 len ms l n g
  unfold s__law_others
  refine w_run rfl ?_
  unfold b__law_others
  refine k_seq (k_tg (k_bin (k_var rfl (k_c ⟨_, _, hi2, k_tgt rfl ?_⟩))))
  show (sSeq _ _ [some (.own J), some (.val (rawD len ms l n g)), some (.val (.int l)), some (.val (.int n)), some (.val (.int g)), none, none]).all _ _ _ _
  generalize hraw : rawD len ms l n g = raw at hi0 hi1 hi2
  refine k_seq (k_set (k_lst (k_cons (k_tup (k_cons (k_var rfl (k_cons (k_bin (k_var rfl (k_callJ rfl (k_cons (k_bin (k_bin (k_var rfl (k_var rfl ⟨_, _, rfl, k_c ⟨_, _, rfl, k_nil ⟨_, rfl, w_dip hJ (by omega) (by omega) (by omega) fun d1 J1 b1 b2 j1 => ?_⟩⟩⟩)))))))))))))))
  try dsimp only [List.set_cons_zero, List.set_cons_succ]
  refine ⟨_, _, rfl, k_cons (k_var rfl (k_nil ⟨by show 3 ≤ 1000; decide, k_nil ⟨by show 1 ≤ 1000; decide, ?_⟩⟩))⟩
  generalize hn1 : l + d1 = n1
  show (sSeq _ _ [some (.own J1), some (.val raw), some (.val (.int l)), some (.val (.int n)), some (.val (.int g)), some (.val (.lst [thD l n1 g])), none]).all _ _ _ _
  refine k_seq (k_set (k_bin (k_var rfl (k_lst (k_cons (k_tup (k_cons (k_bin (k_c (k_callJ rfl (k_cons (k_var rfl (k_nil ⟨_, rfl, w_dip j1 (by omega) (by omega) (by omega) fun d2 J2 c1 c2 j2 => ?_⟩)))))))))))))
  try dsimp only [List.set_cons_zero, List.set_cons_succ]
  refine ⟨_, _, rfl, k_cons (k_var rfl (k_cons (k_var rfl (k_nil ⟨by show 3 ≤ 1000; decide, k_nil ⟨by show 1 ≤ 1000; decide, _, _, addD_l _ _ (by show 1 + 1 ≤ 8000; decide), ?_⟩⟩))))⟩
  generalize hl2 : 1 + d2 = l2
  show (sSeq _ _ [some (.own J2), some (.val raw), some (.val (.int l)), some (.val (.int n)), some (.val (.int g)), some (.val (.lst [thD l n1 g, thD l2 n g])), none]).all _ _ _ _
  refine k_seq (k_set (k_bin (k_var rfl (k_lst (k_cons (k_tup (k_cons (k_var rfl (k_cons (k_var rfl (k_cons (k_bin (k_var rfl (k_callJ rfl (k_cons (k_bin (k_var rfl (k_c ⟨_, _, rfl, k_nil ⟨_, rfl, w_dip j2 (by omega) (by omega) (by omega) fun d3 J3 e1 e2 j3 => ?_⟩⟩))))))))))))))))))
  try dsimp only [List.set_cons_zero, List.set_cons_succ]
  refine ⟨_, _, rfl, k_nil ⟨by show 3 ≤ 1000; decide, k_cons (k_bin (k_var rfl (k_c ⟨_, _, hi2, k_nil ⟨by show 2 ≤ 1000; decide, _, _, addD_l _ _ (by show 2 + 2 ≤ 8000; decide), ?_⟩⟩)))⟩⟩
  generalize hg2 : n + d3 = g2
  show (sRet _ [some (.own J3), some (.val raw), some (.val (.int l)), some (.val (.int n)), some (.val (.int g)), some (.val (.lst [thD l n1 g, thD l2 n g, thD l n g2, thD l n g])), none]).all _ _ _ _
  have sz : (3 : Nat) ≤ sizeLine := by rw [sizeLine_eq]; decide
  have cl : ∀ (ts acc : List D) (e5 : D), compLoop (tgName 6) tTrue (eTup (aCons (eBin ixD (eVar 1) (eC (.int 0))) (aCons (eBin ixD (eVar 1) (eC (.int 1))) (aCons (eVar 6) aNil)))) [6] ts acc [some (.own J3), some (.val raw), some (.val (.int l)), some (.val (.int n)), some (.val (.int g)), some (.val e5), none] =
      .ok (acc ++ ts.map fun t => .tup [.int len, .lst (ms.map pr), t], [some (.own J3), some (.val raw), some (.val (.int l)), some (.val (.int n)), some (.val (.int g)), some (.val e5), none]) := by
    intro ts
    induction ts with
    | nil => intro acc e5; simp [compLoop]
    | cons t r ih =>
      intro acc e5
      rw [compLoop_c]
      simp [hi0, hi1, sz, ih]
  refine k_ret (k_comp (k_seqI (k_var rfl ⟨_, rfl, k_eq (cl _ _ _) ?_⟩)))
  have z := h n1 l2 g2 true J3 (by omega) (by omega) (by omega) (by omega) (by omega) (by omega) (j3.up (by omega))
  rw [hraw] at z
  rw [← hraw] at z
  exact z
def EH (J : List D) (made raw : D) (y3 y4 y5 y6 y7 y8 y9 y10 : Option SV) : En := [some (.own J), some (.val made), some (.val raw), y3, y4, y5, y6, y7, y8, y9, y10]
theorem EH6 {J : List D} {made raw : D} {y3 y4 y5 y6 y7 y8 y9 y10 x : Option SV} : (EH J made raw y3 y4 y5 y6 y7 y8 y9 y10).set 6 x = EH J made raw y3 y4 y5 x y7 y8 y9 y10 := rfl
theorem atI_of {ds : List D} {i : Int} (i0 : 0 ≤ i) (i1 : i < ds.length) : ∃ d, ds[i.toNat]? = some d ∧ atI ds i = some d := by
  have h : i.toNat < ds.length := by omega
  exact ⟨ds[i.toNat], List.getElem?_eq_getElem h, by rw [atI_pos _ _ i0 i1, List.getElem?_eq_getElem h]⟩
theorem m_great_right {n0 : Nat} {J : List D} {len : Int} {ms : List (Int × Int)} {l n g : Int} {P : D × Bool × List D → Prop} (hJ : JarOk n0 J) (hn : n0 ≤ 1000000) (h : Big len ms l n g) (hlen : len < 2 ^ 190)
    (hP : ∀ J', JarOk (n0 + 100) J' → P (.bl true, false, J')) : (s__law_great_right [.lst J, rowD len (fsts ms) (stricts ms), rawD len ms l n g]).all P := by
  have r := h.run
  have st := r.st
  have o1 := h.raw.one
  have few := h.raw.few
  have hs : ∀ p, 0 ≤ p → p ≤ len → s__law_far_walk [rawD len ms l n g, .int p] = .ok (.lst ((wkM len ms l n g p).map D.int), true, []) := fun p h0 h1 => m_far_walk h h0 h1
  have hm : ∀ p q, 0 ≤ p → p ≤ len → 0 ≤ q → q ≤ len → s_meeting [rowD len (fsts ms) (stricts ms), thD l n g, .int p, .int q] = .ok (.int (fst2 (wkM len ms l n g p) (wkM len ms l n g q)), false, []) ∧ fst2 (wkM len ms l n g q) (wkM len ms l n g p) = fst2 (wkM len ms l n g p) (wkM len ms l n g q) := fun p q a b c d => m_meeting r a b c d
  have hi0 := raw_ix0 len ms l n g
  have hi1 := raw_ix1 len ms l n g
  have hi2 := raw_ix2 len ms l n g
  have wlen : ∀ p, 0 ≤ p → p ≤ len → (wkM len ms l n g p).length ≤ 202 := fun p h0 h1 => r.few h0 h1
  have wend : ∀ p, p ≤ len → len ∈ wkM len ms l n g p := fun p h1 => wkL_end st p h1
  unfold s__law_great_right
  refine w_run rfl ?_
  unfold b__law_great_right
  obtain ⟨IT4, L4, h4, hL4, hn4⟩ : ∃ (IT : Ei) (L : List D), iRange1 (aCons (eC (.int 4)) aNil) = IT ∧ (∀ e, IT e = .ok (L, e)) ∧ L.length = 4 := ⟨_, _, rfl, fun e => rfl, rfl⟩
  rw [h4]
  refine k_seq (k_own (k_lst (k_cons (k_c (k_cons (k_bin (k_var rfl (k_c ⟨_, _, hi0, ?_⟩))))))))
  refine k_cons (k_callJ rfl (k_cons (k_bin (k_var rfl (k_c ⟨_, _, hi0, k_nil ⟨_, rfl, w_dip hJ (by omega) (by omega) (by omega) fun d1 J1 b1 b2 j1 => ?_⟩⟩)))))
  try dsimp only [List.set_cons_zero, List.set_cons_succ]
  refine k_nil ⟨by show 3 ≤ 1000; decide, _, rfl, rfl, ?_⟩
  show (sSeq _ _ (EH J1 (rowD len (fsts ms) (stricts ms)) (rawD len ms l n g) (some (.own ([0, len, d1].map D.int))) none none none none none none none)).all _ _ _ _
  generalize rowD len (fsts ms) (stricts ms) = made at hm ⊢
  generalize rawD len ms l n g = raw at hs hi0 hi1 hi2 ⊢
  generalize wkM len ms l n g = W at hm hs wlen wend
  refine k_seq (k_for (k_seqI (k_bin (k_var rfl (k_c ⟨_, _, hi1, _, rfl, ?_⟩)))))
  refine w_for (fun i e => ∃ (xs : List Int) (y4 y5 : Option SV), e = EH J1 made raw (some (.own (xs.map D.int))) y4 y5 none none none none none ∧ xs.length = 3 + 3 * i) _ 0 _ ⟨[0, len, d1], none, none, rfl, rfl⟩ ?_ ?_
  · rintro k d e hk ⟨xs, y4, y5, rfl, hx⟩
    obtain ⟨a, kd, hq, rfl⟩ := pr_get hk
    have hmem : (a, kd) ∈ ms := List.mem_of_getElem? hq
    have hkl : k < ms.length := (List.getElem?_eq_some_iff.mp hq).1
    refine k_frt (e' := EH J1 made raw (some (.own (xs.map D.int))) (some (.val (.int a))) (some (.val (.int kd))) none none none none none) rfl rfl ?_
    have hkd : ∃ b, ixD (thD l n g) (.int (2 - kd)) = some (.int b, false) := by
      rcases h.raw.prs _ hmem with z | z
      · have z : kd = 1 := z
        subst z
        exact ⟨n, th_ix1 _ _ _⟩
      · have z : kd = 2 := z
        subst z
        exact ⟨l, th_ix0 _ _ _⟩
    obtain ⟨b, hb⟩ := hkd
    refine k_ext rfl (k_cons (k_lst (k_cons (k_var rfl (k_cons (k_bin (k_var rfl (k_bin (k_bin (k_var rfl (k_c ⟨_, _, hi2, k_c ⟨_, _, th_ix2 _ _ _, _, _, rfl, ?_⟩⟩)))))))))))
    refine k_cons (k_bin (k_var rfl (k_bin (k_bin (k_var rfl (k_c ⟨_, _, hi2, k_bin (k_c (k_var rfl ⟨_, _, rfl, _, _, hb, _, _, rfl, ?_⟩))⟩))))))
    refine k_nil ⟨by show 3 ≤ 1000; decide, k_nil ⟨_, [D.int a, .int (a - g), .int (a - b)], rfl, rfl, ?_, ?_⟩⟩
    · rw [List.length_map, sizeLine_eq]
      show xs.length + 3 ≤ _
      omega
    · refine ⟨xs ++ [a, a - g, a - b], some (.val (.int a)), some (.val (.int kd)), ?_, by simp; omega⟩
      rw [List.map_append]
      rfl
  · rintro e ⟨xs, y4, y5, rfl, hx⟩
    rw [List.length_map] at hx
    refine k_seq (k_for (k_eq (hL4 _) ?_))
    refine w_for (fun i e => ∃ (J : List D) (y6 y7 y8 y9 y10 : Option SV), e = EH J made raw (some (.own (xs.map D.int))) y4 y5 y6 y7 y8 y9 y10 ∧ JarOk (n0 + 1 + 10 * i) J) _ 0 _ ⟨J1, _, _, _, _, _, rfl, j1⟩ ?_ ?_
    · rintro i d e hi ⟨J, y6, y7, y8, y9, y10, rfl, jk⟩
      have hi4 : i < 4 := by rw [← hn4]; exact (List.getElem?_eq_some_iff.mp hi).1
      refine k_fr EH6 ?_
      refine k_seq (k_set (k_blt (k_cons (k_bin (k_var rfl (k_c ⟨_, _, hi0, k_cons (k_blt (k_cons (k_c (k_cons (k_bin (k_bin (k_ixO rfl ?_)))))))⟩))))))
      refine k_callJ rfl (k_cons (k_lenO (ds := xs.map D.int) rfl (k_nil ⟨_, rfl, w_dip jk (by omega) (by rw [List.length_map]; omega) (by rw [List.length_map]; omega) fun d2 J2 c1 c2 j2 => ?_⟩)))
      try dsimp only [List.set_cons_zero, List.set_cons_succ]
      obtain ⟨y, hy1, hy2⟩ := atI_of c1 c2
      obtain ⟨y, hy, rfl⟩ := int_get hy1
      refine ⟨_, _, _, rfl, rfl, hy2, ?_⟩
      refine k_callJ rfl (k_cons (k_c (k_nil ⟨_, rfl, w_dip j2 (by omega) (by decide) (by decide) fun d3 J3 e1 e2 j3 => ?_⟩)))
      try dsimp only [List.set_cons_zero, List.set_cons_succ]
      refine ⟨_, _, rfl, k_c ⟨_, _, rfl, k_nil ⟨_, _, maxD_ints _ _, k_nil ⟨_, _, minD_ints _ _, ?_⟩⟩⟩⟩
      generalize hp : min len (max 0 (y + d3 - 1)) = p
      have p0 : 0 ≤ p := by omega
      have p1 : p ≤ len := by omega
      show (sSeq _ _ (EH J3 made raw (some (.own (xs.map D.int))) y4 y5 (some (.val d)) (some (.val (.int p))) y8 y9 y10)).all _ _ _ _
      refine k_seq (k_set (k_call (k_cons (k_var rfl (k_cons (k_var rfl (k_nil (k_eq (hs p p0 p1) ?_))))))))
      show (sSeq _ _ (EH J3 made raw (some (.own (xs.map D.int))) y4 y5 (some (.val d)) (some (.val (.int p))) (some (.val (.lst ((W p).map D.int)))) y9 y10)).all _ _ _ _
      refine k_seq (k_set (k_bin (k_lst (k_cons (k_ixO rfl ?_)))))
      refine k_callJ rfl (k_cons (k_lenO (ds := xs.map D.int) rfl (k_nil ⟨_, rfl, w_dip j3 (by omega) (by rw [List.length_map]; omega) (by rw [List.length_map]; omega) fun d4 J4 f1 f2 j4 => ?_⟩)))
      try dsimp only [List.set_cons_zero, List.set_cons_succ]
      obtain ⟨z, hz1, hz2⟩ := atI_of f1 f2
      obtain ⟨z, hz, rfl⟩ := int_get hz1
      refine ⟨_, _, _, rfl, rfl, hz2, k_cons (k_bin (k_var rfl ?_))⟩
      have wp := List.length_pos_of_mem (wend p p1)
      have wl := wlen p p0 p1
      refine k_callJ rfl (k_cons (k_blt (k_cons (k_var rfl (k_nil ⟨_, _, rfl, k_nil ⟨_, rfl, w_dip j4 (by omega) (by rw [List.length_map]; omega) (by rw [List.length_map]; omega) fun d5 J5 g1 g2 j5 => ?_⟩⟩)))))
      try dsimp only [List.set_cons_zero, List.set_cons_succ]
      obtain ⟨u, hu1, hu2⟩ := at_of g1 g2
      obtain ⟨u, hu, rfl⟩ := int_get hu1
      refine ⟨_, _, hu2, k_nil ⟨by show 2 ≤ 1000; decide, ?_⟩⟩
      refine k_callJ rfl (k_cons (k_c (k_nil ⟨_, rfl, w_dip j5 (by omega) (by decide) (by decide) fun d6 J6 g3 g4 j6 => ?_⟩)))
      try dsimp only [List.set_cons_zero, List.set_cons_succ]
      obtain ⟨v, hv, _⟩ := ix2_of (x := z) (y := u) g3 g4
      refine ⟨_, _, hv, ?_⟩
      show (sSeq _ _ (EH J6 made raw (some (.own (xs.map D.int))) y4 y5 (some (.val d)) (some (.val (.int p))) (some (.val (.lst ((W p).map D.int)))) (some (.val (.int v))) y10)).all _ _ _ _
      refine k_seq (k_set (k_blt (k_cons (k_bin (k_var rfl (k_c ⟨_, _, hi0, k_cons (k_blt (k_cons (k_c (k_cons (k_bin (k_var rfl ?_))))))⟩))))))
      refine k_callJ rfl (k_cons (k_c (k_nil ⟨_, rfl, w_dip j6 (by omega) (by decide) (by decide) fun d7 J7 g5 g6 j7 => ?_⟩)))
      try dsimp only [List.set_cons_zero, List.set_cons_succ]
      refine ⟨_, _, rfl, k_nil ⟨_, _, maxD_ints _ _, k_nil ⟨_, _, minD_ints _ _, ?_⟩⟩⟩
      generalize hq : min len (max 0 (v - d7)) = q
      have q0 : 0 ≤ q := by omega
      have q1 : q ≤ len := by omega
      show (sSeq _ _ (EH J7 made raw (some (.own (xs.map D.int))) y4 y5 (some (.val d)) (some (.val (.int p))) (some (.val (.lst ((W p).map D.int)))) (some (.val (.int q))) y10)).all _ _ _ _
      obtain ⟨m1, m2⟩ := hm p q p0 p1 q0 q1
      obtain ⟨m3, _⟩ := hm q p q0 q1 p0 p1
      rw [m2] at m3
      have ft := m_first (wend p p1) (wend q q1)
      generalize fst2 (W p) (W q) = t at *
      refine k_seq (k_set (k_call (k_cons (k_var rfl (k_cons (k_call (k_cons (k_var rfl (k_cons (k_var rfl (k_nil (k_eq (hs q q0 q1) (k_nil (k_eq ft ?_))))))))))))))
      show (sIf _ _ _ (EH J7 made raw (some (.own (xs.map D.int))) y4 y5 (some (.val d)) (some (.val (.int p))) (some (.val (.lst ((W p).map D.int)))) (some (.val (.int q))) (some (.val (.int t))))).all _ _ _ _
      refine k_if (k_cmp (k_lst (k_cons (k_call (k_cons (k_var rfl (k_cons (k_bin (k_var rfl (k_c ⟨_, _, hi2, ?_⟩))))))))))
      refine k_cons (k_var rfl (k_cons (k_var rfl (k_nil (k_eq m1 (k_cons (k_call (k_cons (k_var rfl (k_cons (k_bin (k_var rfl (k_c ⟨_, _, hi2, ?_⟩)))))))))))))
      refine k_cons (k_var rfl (k_cons (k_var rfl (k_nil (k_eq m3 (k_nil ⟨by show 2 ≤ 1000; decide, ?_⟩))))))
      refine k_lst (k_cons (k_var rfl (k_cons (k_var rfl (k_nil ⟨by show 2 ≤ 1000; decide, _, _, neX_ints [t, t], fun h7 => ?_, fun _ => k_skip ?_⟩)))))
      · cases h7
      · exact ⟨J7, _, _, _, _, _, rfl, j7.up (by omega)⟩
    · rintro e ⟨J, y6, y7, y8, y9, y10, rfl, jk⟩
      rw [hn4] at jk
      exact k_ret (k_c (hP J (jk.up (by omega))))
end G

namespace G
open PySem PySem.Spec PyProof.Rows L2
@[irreducible] def forS : Sm := (sFor (iSeq (eBin addD (eLst (aCons (eVar 4) aNil)) (eCallJ 2 s__law_others (aCons (eVar 4) aNil)))) (tgName 6) (sIf (tNot1 (tVal (eCall s__law_small_right (aCons (eVar 5) (aCons (eVar 6) aNil))))) (sRet (eC (.bl false))) sSkip))
@[irreducible] def forG : Sm := (sFor (iSeq (eLst (aCons (eCallJ 2 s__law_great (aCons (eC (.int 40)) aNil)) (aCons (eCallJ 2 s__law_great (aCons (eC (.int 12)) aNil)) aNil)))) (tgName 4) (sSeq (sSet 5 (eCall s__law_heap (aCons (eVar 4) aNil))) (sIf (tOr2 (tNot1 (tVal (eCallJ 2 s__law_great_right (aCons (eVar 5) (aCons (eVar 4) aNil))))) (tNot1 (tVal (eCallJ 2 s__law_great_right (aCons (eVar 5) (aCons (eCallJ 2 s__law_other (aCons (eVar 4) aNil)) aNil)))))) (sRet (eC (.bl false))) sSkip)))
@[irreducible] def itT : Ei := (iRange1 (aCons (eC (.int 2)) aNil))
@[irreducible] def ownL : Sm := (sOwn 2 (eCall s__law_jar (aCons (eVar 0) (aCons (eVar 1) aNil))))
@[irreducible] def itA : Ei := (iRange1 (aCons (eBlt maxD (aCons (eC (.int 1)) (aCons (eBlt minD (aCons (eC (.int 5)) (aCons (eBlt lenD (aCons (eVar 0) aNil)) aNil))) aNil))) aNil))
@[irreducible] def tailL : Sm := (sSeq (sSet 5 (eMake 0 s_Rowd__initd_ (aCons (eC (.int 20)) (aCons (eLst (aCons (eC (.int 3)) (aCons (eC (.int 7)) (aCons (eC (.int 8)) (aCons (eC (.int 13)) aNil))))) (aCons (eLst (aCons (eC (.int 3)) (aCons (eC (.int 8)) aNil))) aNil))))) (sSeq (sSet 7 (eLst (aCons (eCall s_meeting (aCons (eVar 5) (aCons (eTup (aCons (eC (.int 2)) (aCons (eC (.int 4)) (aCons (eC (.int 5)) aNil)))) (aCons (eC (.int 0)) (aCons (eC (.int 4)) aNil))))) (aCons (eCall s_meeting (aCons (eVar 5) (aCons (eTup (aCons (eC (.int 2)) (aCons (eC (.int 4)) (aCons (eC (.int 5)) aNil)))) (aCons (eC (.int 4)) (aCons (eC (.int 6)) aNil))))) (aCons (eCall s_meeting (aCons (eVar 5) (aCons (eTup (aCons (eC (.int 2)) (aCons (eC (.int 4)) (aCons (eC (.int 5)) aNil)))) (aCons (eC (.int 13)) (aCons (eC (.int 4)) aNil))))) aNil))))) (sSeq (sIf (tOr2 (tCmp2 neX (eVar 7) (eLst (aCons (eC (.int 20)) (aCons (eC (.int 8)) (aCons (eC (.int 13)) aNil))))) (tCmp2 neX (eCall s_meeting (aCons (eVar 5) (aCons (eTup (aCons (eC (.int 2)) (aCons (eC (.int 4)) (aCons (eC (.int 5)) aNil)))) (aCons (eC (.int 9)) (aCons (eC (.int 9)) aNil))))) (eC (.int 9)))) (sRet (eC (.bl false))) sSkip) (sRet (eAnd (eBin eqX (eCallK 0 4 [2, 3, 0, 1] s_meeting aNil (aCons (eC (.int 1)) (aCons (eC (.int 0)) (aCons (eVar 5) (aCons (eTup (aCons (eC (.int 2)) (aCons (eC (.int 4)) (aCons (eC (.int 5)) aNil)))) aNil))))) (eC (.int 3))) (eBin eqX (eCall s_meeting (aCons (eVar 5) (aCons (eTup (aCons (eC (.int 2)) (aCons (eC (.int 4)) (aCons (eC (.int 5)) aNil)))) (aCons (eC (.int 20)) (aCons (eC (.int 0)) aNil))))) (eC (.int 20))))))))
theorem b_law_eq : b_law = (sSeq (sFor itA (tgName 1) (sSeq ownL (sFor itT (tgName 3) (sSeq (sSet 4 (eCallJ 2 s__law_small (aCons (eC (.int 16)) aNil))) (sSeq (sSet 5 (eCall s__law_heap (aCons (eVar 4) aNil))) (sSeq forS forG)))))) tailL) := by
  unfold b_law forS forG itT ownL itA tailL
  rfl
def EL8 (ns : List Int) (y1 y2 y3 y4 y5 y6 y7 : Option SV) : En := [some (.val (.scr ns)), y1, y2, y3, y4, y5, y6, y7]
def EJ8 (ns : List Int) (k : Int) (J : List D) (y3 y4 y5 y6 y7 : Option SV) : En := [some (.val (.scr ns)), some (.val (.int k)), some (.own J), y3, y4, y5, y6, y7]
theorem tail_ok (ns : List Int) (y1 y2 y3 y4 y5 y6 y7 : Option SV) : okS (tailL (EL8 ns y1 y2 y3 y4 y5 y6 y7)) = true := by kernel_rfl
section
variable {ns : List Int} {k : Int} {J : List D} {x y1 y2 y3 y4 y5 y6 y7 : Option SV}
theorem set_EL1 : (EL8 ns y1 y2 y3 y4 y5 y6 y7).set 1 x = EL8 ns x y2 y3 y4 y5 y6 y7 := rfl
theorem set_EJ3 : (EJ8 ns k J y3 y4 y5 y6 y7).set 3 x = EJ8 ns k J x y4 y5 y6 y7 := rfl
theorem set_EJ4 : (EJ8 ns k J y3 y4 y5 y6 y7).set 4 x = EJ8 ns k J y3 x y5 y6 y7 := rfl
theorem set_EJ6 : (EJ8 ns k J y3 y4 y5 y6 y7).set 6 x = EJ8 ns k J y3 y4 y5 x y7 := rfl
end
theorem itA_eq (ns : List Int) (hns : ns.length ≤ 63) (y1 y2 y3 y4 y5 y6 y7 : Option SV) : ∃ m : Nat, m ≤ 5 ∧ itA (EL8 ns y1 y2 y3 y4 y5 y6 y7) = .ok (rangeL 0 m, EL8 ns y1 y2 y3 y4 y5 y6 y7) := by
  unfold itA
  refine ⟨(max 1 (min 5 (ns.length : Int))).toNat, by omega, ?_⟩
  have c : -(2 ^ 62) ≤ max 1 (min 5 (ns.length : Int)) ∧ max 1 (min 5 (ns.length : Int)) ≤ 16777216 := by omega
  simp only [x_iRange1, x_aCons, x_eBlt, x_eC, x_aNil, x_eVar, EL8, List.getElem?_cons_zero, Ro.bind_ok, lenD, up_some, minD_ints, maxD_ints]
  rw [if_pos c]
theorem own_ok {ns : List Int} {k : Nat} (hk : k ≤ 5) {y2 y3 y4 y5 y6 y7 : Option SV} {P : En → Prop} {R : D → Bool → En → Prop} {B C : En → Prop} (h : ∀ J, JarOk 0 J → P (EJ8 ns (k : Int) J y3 y4 y5 y6 y7)) :
    (ownL (EL8 ns (some (.val (.int (k : Int)))) y2 y3 y4 y5 y6 y7)).all P R B C := by
  unfold ownL
  refine k_own (k_call (k_cons (k_var rfl (k_cons (k_var rfl (k_nil ((m_jar ns k hk).mono fun p ⟨J, hp, hJ⟩ => ?_)))))))
  subst hp
  exact ⟨J, rfl, rfl, h J hJ⟩
theorem itT_eq : ∃ L : List D, L.length = 2 ∧ ∀ e, itT e = .ok (L, e) := by
  unfold itT
  exact ⟨_, rfl, fun e => rfl⟩
def InvJ (ns : List Int) (k : Int) (n : Nat) (e : En) : Prop := ∃ J y3 y4 y5 y6 y7, e = EJ8 ns k J y3 y4 y5 y6 y7 ∧ JarOk n J
theorem forS_ok {ns : List Int} {k : Int} {n0 : Nat} {J : List D} {y3 y6 y7 : Option SV} {len : Int} {ms : List (Int × Int)} {l n g : Int} {P : En → Prop} {R : D → Bool → En → Prop} {B C : En → Prop} (hJ : JarOk n0 J) (hn : n0 ≤ 1000000)
    (fit : Fit len ms l n g) (hlen : len ≤ 16) (hg : g < 2 ^ 40) (h : ∀ J y6, JarOk (n0 + 10) J → P (EJ8 ns k J y3 (some (.val (rawD len ms l n g))) (some (.val (rowD len (fsts ms) (stricts ms)))) y6 y7)) :
    (forS (EJ8 ns k J y3 (some (.val (rawD len ms l n g))) (some (.val (rowD len (fsts ms) (stricts ms)))) y6 y7)).all P R B C := by
  have s1 := fit.set.a
  have s2 := fit.set.b
  have s3 := fit.set.c
  unfold forS
  refine k_for (k_seqI (k_bin (k_lst (k_cons (k_var rfl (k_nil ⟨by show 1 ≤ 1000; decide, ?_⟩))))))
  refine k_callJ rfl (k_cons (k_var rfl (k_nil ⟨_, rfl, m_others hJ hn fit.set (by omega) fun n1 l2 g2 fr J2 a1 a2 a3 a4 a5 a6 j2 => ?_⟩)))
  try dsimp only [List.set_cons_zero, List.set_cons_succ]
  refine ⟨_, _, addD_l _ _ (by show 1 + 4 ≤ 8000; decide), _, rfl, ?_⟩
  have all : ∀ d ∈ [rawD len ms l n g] ++ [rawD len ms l n1 g, rawD len ms l2 n g, rawD len ms l n g2, rawD len ms l n g], ∃ l n g, d = rawD len ms l n g ∧ Fit len ms l n g := by
    intro d hd
    simp at hd
    rcases hd with rfl | rfl | rfl | rfl | rfl
    · exact ⟨_, _, _, rfl, fit⟩
    · exact ⟨_, _, _, rfl, fit.raw, ⟨s1, a1, a2, fit.set.z⟩, fit.short, fit.len, by omega⟩
    · exact ⟨_, _, _, rfl, fit.raw, ⟨a3, a4, s3, by omega⟩, by omega, fit.len, by omega⟩
    · exact ⟨_, _, _, rfl, fit.raw, ⟨s1, s2, a5, fit.set.z⟩, fit.short, fit.len, by omega⟩
    · exact ⟨_, _, _, rfl, fit⟩
  generalize [rawD len ms l n g] ++ [rawD len ms l n1 g, rawD len ms l2 n g, rawD len ms l n g2, rawD len ms l n g] = L at all
  generalize rawD len ms l n g = raw0 at h ⊢
  show (forL _ _ L (EJ8 ns k J2 y3 (some (.val raw0)) (some (.val (rowD len (fsts ms) (stricts ms)))) y6 y7)).all _ _ _ _
  refine w_for (fun i e => ∃ y6, e = EJ8 ns k J2 y3 (some (.val raw0)) (some (.val (rowD len (fsts ms) (stricts ms)))) y6 y7) _ 0 _ ⟨_, rfl⟩ ?_ ?_
  · rintro i d e hi ⟨y6, rfl⟩
    obtain ⟨l, n, g, rfl, ft⟩ := all d (List.mem_of_getElem? hi)
    refine k_fr set_EJ6 ?_
    refine k_if (k_not1 (k_val (k_call (k_cons (k_var rfl (k_cons (k_var rfl (k_nil (k_eq (m_small_right ft (by omega)) ⟨true, rfl, fun z => (nomatch z), fun _ => k_skip ⟨_, rfl⟩⟩)))))))))
  · rintro e ⟨y6, rfl⟩
    exact h J2 y6 (j2.up (by omega))
theorem forG_ok {ns : List Int} {k : Int} {n0 : Nat} {J : List D} {y3 y4 y5 y6 y7 : Option SV} {P : En → Prop} {R : D → Bool → En → Prop} {B C : En → Prop} (hJ : JarOk n0 J) (hn : n0 ≤ 900000)
    (h : ∀ e, InvJ ns k (n0 + 5000) e → P e) :
    (forG (EJ8 ns k J y3 y4 y5 y6 y7)).all P R B C := by
  unfold forG
  refine k_for (k_seqI (k_lst (k_cons (k_callJ rfl (k_cons (k_c (k_nil ⟨_, rfl, m_great hJ (by omega) (by decide) (by decide) fun len ms l n g J1 big c1 c2 c3 j1 => ?_⟩)))))))
  try dsimp only [List.set_cons_zero, List.set_cons_succ]
  refine k_cons (k_callJ rfl (k_cons (k_c (k_nil ⟨_, rfl, m_great j1 (by omega) (by decide) (by decide) fun len' ms' l' n' g' J2 big' c1' c2' c3' j2 => ?_⟩))))
  try dsimp only [List.set_cons_zero, List.set_cons_succ]
  refine k_nil ⟨by show 2 ≤ 1000; decide, _, rfl, ?_⟩
  have all : ∀ d ∈ [rawD len ms l n g, rawD len' ms' l' n' g'], ∃ len ms l n g, d = rawD len ms l n g ∧ Big len ms l n g ∧ l ≤ 10 ^ 27 ∧ g ≤ 10 ^ 28 := by
    intro d hd
    simp at hd
    rcases hd with rfl | rfl
    · exact ⟨_, _, _, _, _, rfl, big, c1, c2⟩
    · exact ⟨_, _, _, _, _, rfl, big', c1', c2'⟩
  have hl : [rawD len ms l n g, rawD len' ms' l' n' g'].length ≤ 2 := Nat.le_refl _
  generalize [rawD len ms l n g, rawD len' ms' l' n' g'] = L at all hl
  show (forL _ _ L (EJ8 ns k J2 y3 y4 y5 y6 y7)).all _ _ _ _
  refine w_for (fun i e => InvJ ns k (n0 + 2000 + 300 * i) e) _ 0 _ ⟨J2, _, _, _, _, _, rfl, j2.up (by omega)⟩ ?_ ?_
  · rintro i d e hi ⟨J, y3, y4, y5, y6, y7, rfl, jk⟩
    obtain ⟨len, ms, l, n, g, rfl, bg, d1, d2⟩ := all d (List.mem_of_getElem? hi)
    have hil : i < L.length := (List.getElem?_eq_some_iff.mp hi).1
    have s1 := bg.short
    have s2 := bg.set.a
    refine k_fr set_EJ4 ?_
    refine k_seq (k_set (k_call (k_cons (k_var rfl (k_nil (k_eq (m_heap bg.raw) ?_))))))
    show (sIf _ _ _ (EJ8 ns k J y3 (some (.val (rawD len ms l n g))) (some (.val (rowD len (fsts ms) (stricts ms)))) y6 y7)).all _ _ _ _
    refine k_if (k_or2 (k_not1 (k_val (k_callJ rfl (k_cons (k_var rfl (k_cons (k_var rfl (k_nil ⟨_, rfl, m_great_right jk (by omega) bg (by omega) fun J3 j3 => ?_⟩)))))))))
    try dsimp only [List.set_cons_zero, List.set_cons_succ]
    refine ⟨true, rfl, fun z => (nomatch z), fun _ => ?_⟩
    show (tNot1 _ (EJ8 ns k J3 y3 (some (.val (rawD len ms l n g))) (some (.val (rowD len (fsts ms) (stricts ms)))) y6 y7)).all _
    refine k_not1 (k_val (k_callJ rfl (k_cons (k_var rfl (k_cons (k_callJ rfl (k_cons (k_var rfl (k_nil ⟨_, rfl, m_other j3 (by omega) s2 (by omega) fun l' n' g' J4 e1 e2 e3 e4 e5 e6 j4 => ?_⟩)))))))))
    try dsimp only [List.set_cons_zero, List.set_cons_succ]
    have bg2 : Big len ms l' n' g' := ⟨bg.raw, ⟨by omega, e3, e5, by omega⟩, by omega, by omega⟩
    refine k_nil ⟨_, rfl, m_great_right j4 (by omega) bg2 (by omega) fun J5 j5 => ?_⟩
    try dsimp only [List.set_cons_zero, List.set_cons_succ]
    refine ⟨true, rfl, fun z => (nomatch z), fun _ => k_skip ?_⟩
    exact ⟨J5, y3, _, _, y6, y7, rfl, j5.up (by omega)⟩
  · rintro e ⟨J, y3, y4, y5, y6, y7, rfl, jk⟩
    exact h _ ⟨J, _, _, _, _, _, rfl, jk.up (by omega)⟩
theorem plain (ns : List Int) (hns : ns.length ≤ 63) : (s_law [.scr ns]).all fun p => p.1 = .bl true := by
  unfold s_law
  refine w_run (e := EL8 ns none none none none none none none) rfl ?_
  rw [b_law_eq]
  obtain ⟨m, hm, hA⟩ := itA_eq ns hns none none none none none none none
  obtain ⟨LT, hLT, hT⟩ := itT_eq
  refine k_seq (k_for (k_eq hA ?_))
  refine w_for (fun _ e => ∃ y1 y2 y3 y4 y5 y6 y7, e = EL8 ns y1 y2 y3 y4 y5 y6 y7) _ 0 _ ⟨_, _, _, _, _, _, _, rfl⟩ ?_ ?_
  · rintro k d e hk ⟨y1, y2, y3, y4, y5, y6, y7, rfl⟩
    have hlt := (List.getElem?_eq_some_iff.mp hk).1
    rw [rangeL_len] at hlt
    rw [rangeL_get _ _ _ hlt] at hk
    cases hk
    have e0 : (0 : Int) + (k : Int) = (k : Int) := by omega
    rw [e0]
    refine k_fr set_EL1 ?_
    refine k_seq (own_ok (by omega) fun J hJ => ?_)
    refine k_for (k_eq (hT _) ?_)
    refine w_for (fun i e => InvJ ns (k : Int) (6000 * i) e) _ 0 _ ⟨J, y3, y4, y5, y6, y7, rfl, hJ⟩ ?_ ?_
    · rintro i d e hi ⟨J', y3, y4, y5, y6, y7, rfl, j'⟩
      have hi4 : i < 2 := by rw [← hLT]; exact (List.getElem?_eq_some_iff.mp hi).1
      refine k_fr set_EJ3 ?_
      refine k_seq (k_set (k_callJ rfl (k_cons (k_c (k_nil ⟨_, rfl, m_small j' (by omega) (by decide) (by decide) fun len ms l nn g J1 hr c1 c2 c3 c4 c5 c6 j1 => ?_⟩)))))
      try dsimp only [List.set_cons_zero, List.set_cons_succ]
      have fit : Fit len ms l nn g := ⟨hr, ⟨c2, c4, c5, by omega⟩, by omega, by omega, by omega⟩
      refine k_seq (k_set (k_call (k_cons (k_var rfl (k_nil (k_eq (m_heap hr) ?_))))))
      show (sSeq _ _ (EJ8 ns k J1 (some (.val d)) (some (.val (rawD len ms l nn g))) (some (.val (rowD len (fsts ms) (stricts ms)))) y6 y7)).all _ _ _ _
      refine k_seq (forS_ok j1 (by omega) fit c1 (by omega) fun J2 y6 j2 => ?_)
      refine forG_ok j2 (by omega) fun e ⟨J, y3, y4, y5, y6, y7, he, jk⟩ => ?_
      exact ⟨J, y3, y4, y5, y6, y7, he, jk.up (by omega)⟩
    · rintro e ⟨J', y3, y4, y5, y6, y7, rfl, j'⟩
      exact ⟨_, _, _, _, _, _, _, rfl⟩
  · rintro e ⟨y1, y2, y3, y4, y5, y6, y7, rfl⟩
    exact fin_rest (tail_ok ns y1 y2 y3 y4 y5 y6 y7)
end G
theorem PySem.Challenge.cw_cutwalks_k20_meetings_of_walks_holds : PySem.Challenge.rw_cutwalks_k20_meetings_of_walks.Holds :=
  law_end G.plain

