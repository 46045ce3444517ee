import PyProof.Rows.All
import Wide.All
import OpenK.AllK
import Wide.FinOn
import HandS.ForMost
import HandS.ForExc
import HandS.Wide
import HandS.Gcd
import HandS.Zip
import HandS.Rev
import HandS.IsInst
import HandS.TryMany
import HandS.ExcIs
import HandS.Defaults
import HandS.HeadHook1
import HandS.TupAny
import HandS.TupMul
import PyProof.WalksMore
import HandS.CallSlots
import KE.GoesNew
import HandS.Head0
import HandS.Head1
import HandS.Head2
import HandS.HeadEnd
import HandS.HeadHook2
import PyProof.ExcBaseAll.ValueError
import HandS.Head3
import PySem.Challenge.RW_slipsgrowrare_k88_rules_gains_and_rests
set_option Elab.async false
set_option linter.all false
set_option maxRecDepth 100000
set_option maxHeartbeats 4000000
/-! Functionalization: data trees, how the abstract heap bears them, readings over them. -/
namespace Fz
open PySem PySem.Spec PyProof.Rows L2
abbrev Fr := PySem.W.Frag

/-- a value as a tree of data -/
inductive D where
  | non | bl (b : Bool) | int (i : Int) | str (x : Str)
  | lst (ds : List D) | scr (ds : List D) | tup (ds : List D)
  | ins (c : Str) (fs : List (Str × D))
  | exn (c : Str) (fs : List (Str × D))
instance : Inhabited D := ⟨.non⟩

/-! ### extension of abstract heaps -/
def Ex (H H' : Hp) : Prop := ∀ a o, H a = some o → H' a = some o
theorem Ex.rfl' (H : Hp) : Ex H H := fun _ _ h => h
theorem Ex.tr {H H1 H2 : Hp} (a : Ex H H1) (b : Ex H1 H2) : Ex H H2 := fun x o h => b x o (a x o h)
theorem Ex.new {H : Hp} {p : Addr} {o : HO} (h : H p = none) : Ex H (upd H p o) := fun a u e => by
  rw [upd_ne (ne_of_none e h)]
  exact e
theorem Ex.rd {H H' : Hp} {a : Addr} {u : HO} (e : Ex H H') (h : Rd H a u) : Rd H' a u := by
  rcases h with h | ⟨o, h⟩
  · exact Or.inl (e a _ h)
  · exact Or.inr ⟨o, e a _ h⟩
theorem Ex.sl {K : Fr} {H H' : Hp} {a : Addr} {xs : List V} (e : Ex H H') (h : SqL K H a xs) : SqL K H' a xs := h.imp (fun h => e.rd h) id
theorem Ex.st {K : Fr} {H H' : Hp} {a : Addr} {xs : List V} (e : Ex H H') (h : SqT K H a xs) : SqT K H' a xs := h.imp (fun h => e.rd h) id
theorem Ex.back {H H' : Hp} {a : Addr} (e : Ex H H') (h : H' a = none) : H a = none := by
  cases q : H a with
  | none => rfl
  | some o => rw [e a o q] at h; cases h
theorem Ex.live {H H' : Hp} {a : Addr} (e : Ex H H') (h : H a ≠ none) : H' a ≠ none := fun z => h (e.back z)

/-! ### how a heap bears a tree -/
mutual
inductive Rep (K : Fr) (B : Hp) : V → D → Prop
  | non : Rep K B .non .non
  | bl (b : Bool) : Rep K B (.bl b) (.bl b)
  | int (i : Int) : Rep K B (.int i) (.int i)
  | str (x : Str) : Rep K B (.str x) (.str x)
  | lst {a : Addr} {vs : List V} {ds : List D} : B a = some (.lst vs) → Reps K B vs ds → Rep K B (.ref a) (.lst ds)
  | scr {a : Addr} {vs : List V} {ds : List D} : SqL K B a vs → Reps K B vs ds → Rep K B (.ref a) (.scr ds)
  | tup {a : Addr} {vs : List V} {ds : List D} : SqT K B a vs → Reps K B vs ds → Rep K B (.ref a) (.tup ds)
  | ins {a dx : Addr} {c : Str} {fvs : List (Str × V)} {fs : List (Str × D)} : B a = some (.ins (He.ga K c) dx fvs) → RepF K B fvs fs → Rep K B (.ref a) (.ins c fs)
  | exn {a : Addr} {c : Str} {fs : List (Str × D)} : Rep K B (.ref a) (.exn c fs)
inductive Reps (K : Fr) (B : Hp) : List V → List D → Prop
  | nil : Reps K B [] []
  | cons {v : V} {d : D} {vs : List V} {ds : List D} : Rep K B v d → Reps K B vs ds → Reps K B (v :: vs) (d :: ds)
inductive RepF (K : Fr) (B : Hp) : List (Str × V) → List (Str × D) → Prop
  | nil : RepF K B [] []
  | cons {f : Str} {v : V} {d : D} {vs : List (Str × V)} {ds : List (Str × D)} : Rep K B v d → RepF K B vs ds → RepF K B ((f, v) :: vs) ((f, d) :: ds)
end
mutual
theorem Rep.mono {K : Fr} {B B' : Hp} (e : Ex B B') : ∀ {v : V} {d : D}, Rep K B v d → Rep K B' v d
  | _, _, .non => .non
  | _, _, .bl b => .bl b
  | _, _, .int i => .int i
  | _, _, .str x => .str x
  | _, _, .lst h r => .lst (e _ _ h) (Reps.mono e r)
  | _, _, .scr h r => .scr (e.sl h) (Reps.mono e r)
  | _, _, .tup h r => .tup (e.st h) (Reps.mono e r)
  | _, _, .ins h r => .ins (e _ _ h) (RepF.mono e r)
  | _, _, .exn => .exn
theorem Reps.mono {K : Fr} {B B' : Hp} (e : Ex B B') : ∀ {vs : List V} {ds : List D}, Reps K B vs ds → Reps K B' vs ds
  | _, _, .nil => .nil
  | _, _, .cons h r => .cons (Rep.mono e h) (Reps.mono e r)
theorem RepF.mono {K : Fr} {B B' : Hp} (e : Ex B B') : ∀ {vs : List (Str × V)} {ds : List (Str × D)}, RepF K B vs ds → RepF K B' vs ds
  | _, _, .nil => .nil
  | _, _, .cons h r => .cons (Rep.mono e h) (RepF.mono e r)
end
section
variable {K : Fr} {B : Hp}
theorem Reps.length : ∀ {vs : List V} {ds : List D}, Reps K B vs ds → vs.length = ds.length
  | _, _, .nil => rfl
  | _, _, .cons _ r => congrArg (· + 1) r.length
theorem Reps.get : ∀ {vs : List V} {ds : List D} {i : Nat} {d : D}, Reps K B vs ds → ds[i]? = some d → ∃ v, vs[i]? = some v ∧ Rep K B v d
  | _, _, _, _, .nil, e => by simp at e
  | _, _, 0, _, .cons r _, e => by simp at e; subst e; exact ⟨_, rfl, r⟩
  | _, _, i + 1, d, .cons _ t, e => by
    obtain ⟨u, h1, h2⟩ := Reps.get (i := i) (d := d) t (by simpa using e)
    exact ⟨u, by simpa using h1, h2⟩
theorem Reps.get' : ∀ {vs : List V} {ds : List D} {i : Nat} {v : V}, Reps K B vs ds → vs[i]? = some v → ∃ d, ds[i]? = some d ∧ Rep K B v d
  | _, _, _, _, .nil, e => by simp at e
  | _, _, 0, _, .cons r _, e => by simp at e; subst e; exact ⟨_, rfl, r⟩
  | _, _, i + 1, d, .cons _ t, e => by
    obtain ⟨u, h1, h2⟩ := Reps.get' (i := i) (v := d) t (by simpa using e)
    exact ⟨u, by simpa using h1, h2⟩
theorem Reps.append : ∀ {xs ys : List V} {ds es : List D}, Reps K B xs ds → Reps K B ys es → Reps K B (xs ++ ys) (ds ++ es)
  | _, _, _, _, .nil, s => s
  | _, _, _, _, .cons r t, s => .cons r (Reps.append t s)
theorem Reps.take : ∀ {xs : List V} {ds : List D} (n : Nat), Reps K B xs ds → Reps K B (xs.take n) (ds.take n)
  | _, _, 0, _ => .nil
  | _, _, _ + 1, .nil => .nil
  | _, _, n + 1, .cons r t => .cons r (Reps.take n t)
theorem Reps.drop : ∀ {xs : List V} {ds : List D} (n : Nat), Reps K B xs ds → Reps K B (xs.drop n) (ds.drop n)
  | _, _, 0, r => r
  | _, _, _ + 1, .nil => .nil
  | _, _, n + 1, .cons _ t => Reps.drop n t
theorem Reps.snoc {xs : List V} {ds : List D} {v : V} {d : D} (r : Reps K B xs ds) (h : Rep K B v d) : Reps K B (xs ++ [v]) (ds ++ [d]) := r.append (.cons h .nil)
theorem Reps.reverse : ∀ {xs : List V} {ds : List D}, Reps K B xs ds → Reps K B xs.reverse ds.reverse
  | _, _, .nil => .nil
  | _, _, .cons r t => by
    rw [List.reverse_cons, List.reverse_cons]
    exact (Reps.reverse t).snoc r
theorem Reps.set : ∀ {xs : List V} {ds : List D} {v : V} {d : D} (i : Nat), Reps K B xs ds → Rep K B v d → Reps K B (xs.set i v) (ds.set i d)
  | _, _, _, _, _, .nil, _ => .nil
  | _, _, _, _, 0, .cons _ t, h => .cons h t
  | _, _, _, _, i + 1, .cons r t, h => .cons r (Reps.set i t h)
theorem Reps.rep {v : V} {d : D} (h : Rep K B v d) : ∀ n : Nat, Reps K B (List.replicate n v) (List.replicate n d)
  | 0 => .nil
  | n + 1 => .cons h (Reps.rep h n)
theorem Reps.ints : ∀ {ns : List Int}, Reps K B (ns.map V.int) (ns.map D.int)
  | [] => .nil
  | n :: r => .cons (.int n) (Reps.ints (ns := r))
theorem Reps.ints' : ∀ {vs : List V} {ns : List Int}, Reps K B vs (ns.map D.int) → vs = ns.map V.int
  | _, [], .nil => rfl
  | _, n :: r, .cons h t => by
    cases h
    rw [Reps.ints' t] <;> rfl
theorem RepF.lookup : ∀ {vs : List (Str × V)} {ds : List (Str × D)} {f : Str} {d : D}, RepF K B vs ds → ds.lookup f = some d → ∃ v, vs.lookup f = some v ∧ Rep K B v d
  | _, _, _, _, .nil, e => by simp at e
  | _, _, f, d, .cons (f := g) (v := v) (d := d') r t, e => by
    unfold List.lookup at e ⊢
    cases q : f == g with
    | true =>
      rw [q] at e
      injection e with e
      subst e
      exact ⟨_, rfl, r⟩
    | false =>
      rw [q] at e
      exact RepF.lookup t e
theorem RepF.lookup_none : ∀ {vs : List (Str × V)} {ds : List (Str × D)} {f : Str}, RepF K B vs ds → ds.lookup f = none → vs.lookup f = none
  | _, _, _, .nil, _ => rfl
  | _, _, f, .cons (f := g) r t, e => by
    unfold List.lookup at e ⊢
    cases q : f == g with
    | true => rw [q] at e; cases e
    | false =>
      rw [q] at e
      exact RepF.lookup_none t e
theorem RepF.length : ∀ {vs : List (Str × V)} {ds : List (Str × D)}, RepF K B vs ds → vs.length = ds.length
  | _, _, .nil => rfl
  | _, _, .cons _ r => congrArg (· + 1) r.length
def putD (f : Str) (v : D) : List (Str × D) → List (Str × D)
  | [] => [(f, v)]
  | (g, u) :: r => if f = g then (g, v) :: r else (g, u) :: putD f v r
end

/-! ### who owns a list -/
/-- z: it never changes again; l k: a list of one's own, its items of kind k; i: an instance of one's own; at x: the instance at x; ex a C: the exception at a that a suite holds, of the class at C -/
inductive Ow where
  | z | l (k : Ow) | i | at (x : Addr) | ex (a C : Addr)
  deriving DecidableEq
inductive ROs (R : V → D → List Addr → Prop) : List V → List D → List Addr → Prop
  | nil : ROs R [] [] []
  | cons {v : V} {d : D} {f : List Addr} {vs : List V} {ds : List D} {fs : List Addr} : R v d f → ROs R vs ds fs → ROs R (v :: vs) (d :: ds) (f ++ fs)
def RepO (K : Fr) (B H : Hp) : Ow → V → D → List Addr → Prop
  | .z => fun v d f => Rep K B v d ∧ f = []
  | .l k => fun v d f => ∃ p vs ds fs, v = .ref p ∧ d = .lst ds ∧ H p = some (.lst vs) ∧ ROs (RepO K B H k) vs ds fs ∧ f = p :: fs
  | .i => fun v d f => ∃ x dx fvs c fs, v = .ref x ∧ d = .ins c fs ∧ H x = some (.ins (He.ga K c) dx fvs) ∧ RepF K B fvs fs ∧ f = [x]
  | .at x => fun v d f => ∃ dx fvs c fs, v = .ref x ∧ d = .ins c fs ∧ H x = some (.ins (He.ga K c) dx fvs) ∧ RepF K B fvs fs ∧ f = [x]
  | .ex a C => fun v d f => v = .ref a ∧ (∃ c fs, d = .exn c fs ∧ C = He.ga K c) ∧ f = []
section
variable {K : Fr}
theorem ROs.imp {R R' : V → D → List Addr → Prop} (h : ∀ v d f, R v d f → R' v d f) : ∀ {vs : List V} {ds : List D} {fs : List Addr}, ROs R vs ds fs → ROs R' vs ds fs
  | _, _, _, .nil => .nil
  | _, _, _, .cons r t => .cons (h _ _ _ r) (t.imp h)
theorem ROs.length {R : V → D → List Addr → Prop} : ∀ {vs : List V} {ds : List D} {fs : List Addr}, ROs R vs ds fs → vs.length = ds.length
  | _, _, _, .nil => rfl
  | _, _, _, .cons _ t => congrArg (· + 1) t.length
/-- the same on heaps that agree on the footprint -/
theorem RepO.on {B B' H H' : Hp} (eb : Ex B B') : ∀ (k : Ow) {v : V} {d : D} {f : List Addr}, (∀ a ∈ f, ∀ o, H a = some o → H' a = some o) → RepO K B H k v d f → RepO K B' H' k v d f
  | .z, _, _, _, _, ⟨r, e⟩ => ⟨r.mono eb, e⟩
  | .l k, _, _, f, hk, ⟨p, vs, ds, fs, e1, e2, hp, r, ef⟩ => by
    subst ef
    refine ⟨p, vs, ds, fs, e1, e2, hk p List.mem_cons_self _ hp, ?_, rfl⟩
    have go : ∀ {vs : List V} {ds : List D} {fs : List Addr}, (∀ a ∈ fs, ∀ o, H a = some o → H' a = some o) → ROs (RepO K B H k) vs ds fs → ROs (RepO K B' H' k) vs ds fs := by
      intro vs ds fs hf r
      induction r with
      | nil => exact .nil
      | cons r t ih => exact .cons (RepO.on eb k (fun a ha => hf a (List.mem_append_left _ ha)) r) (ih fun a ha => hf a (List.mem_append_right _ ha))
    exact go (fun a ha => hk a (List.mem_cons_of_mem _ ha)) r
  | .i, _, _, f, hk, ⟨x, dx, fvs, c, fs, e1, e2, hx, r, ef⟩ => by
    subst ef
    exact ⟨x, dx, fvs, c, fs, e1, e2, hk x List.mem_cons_self _ hx, r.mono eb, rfl⟩
  | .at x, _, _, f, hk, ⟨dx, fvs, c, fs, e1, e2, hx, r, ef⟩ => by
    subst ef
    exact ⟨dx, fvs, c, fs, e1, e2, hk x List.mem_cons_self _ hx, r.mono eb, rfl⟩
  | .ex _ _, _, _, _, _, h => h
theorem RepO.mono {B B' H H' : Hp} (eb : Ex B B') (e : Ex H H') {k : Ow} {v : V} {d : D} {f : List Addr} (r : RepO K B H k v d f) : RepO K B' H' k v d f := r.on eb k fun a _ o => e a o
theorem RepO.mem {B H : Hp} : ∀ (k : Ow) {v : V} {d : D} {f : List Addr}, RepO K B H k v d f → ∀ a ∈ f, H a ≠ none
  | .z, _, _, _, ⟨_, e⟩, a, ha => by subst e; cases ha
  | .l k, _, _, _, ⟨p, vs, ds, fs, _, _, hp, r, ef⟩, a, ha => by
    subst ef
    rcases List.mem_cons.mp ha with q | q
    · rw [q, hp]; simp
    · have go : ∀ {vs : List V} {ds : List D} {fs : List Addr}, ROs (RepO K B H k) vs ds fs → a ∈ fs → H a ≠ none := by
        intro vs ds fs r
        induction r with
        | nil => intro q; cases q
        | cons r t ih =>
          intro q
          rcases List.mem_append.mp q with q | q
          · exact RepO.mem k r a q
          · exact ih q
      exact go r q
  | .i, _, _, _, ⟨x, dx, fvs, c, fs, _, _, hx, _, ef⟩, a, ha => by
    subst ef
    have q : a = x := by simpa using ha
    rw [q, hx]; simp
  | .at x, _, _, _, ⟨dx, fvs, c, fs, _, _, hx, _, ef⟩, a, ha => by
    subst ef
    have q : a = x := by simpa using ha
    rw [q, hx]; simp
  | .ex _ _, _, _, _, ⟨_, _, e⟩, a, ha => by subst e; cases ha
/-- B with what stands at fs in H -/
def addB (B H : Hp) (fs : List Addr) : Hp := fun a => if a ∈ fs then H a else B a
theorem addB_ex {B H : Hp} {fs : List Addr} (h : ∀ a ∈ fs, B a = none) : Ex B (addB B H fs) := fun a o e => by
  unfold addB
  by_cases q : a ∈ fs
  · rw [h a q] at e; cases e
  · rw [if_neg q]; exact e
theorem addB_sub {B H : Hp} {fs : List Addr} (e : Ex B H) : Ex (addB B H fs) H := fun a o q => by
  unfold addB at q
  split at q
  · exact q
  · exact e a o q
theorem addB_out {B H : Hp} {fs : List Addr} {a : Addr} (h : a ∉ fs) : addB B H fs a = B a := if_neg h
theorem addB_in {B H : Hp} {fs : List Addr} {a : Addr} (h : a ∈ fs) : addB B H fs a = H a := if_pos h
/-- what is frozen is borne by the larger base -/
theorem RepO.rep {B H G : Hp} (eb : Ex B G) : ∀ (k : Ow) {v : V} {d : D} {f : List Addr}, (∀ a ∈ f, ∀ o, H a = some o → G a = some o) → RepO K B H k v d f → Rep K G v d
  | .z, _, _, _, _, ⟨r, _⟩ => r.mono eb
  | .l k, _, _, f, hk, ⟨p, vs, ds, fs, e1, e2, hp, r, ef⟩ => by
    subst ef e1 e2
    refine .lst (hk p List.mem_cons_self _ hp) ?_
    have go : ∀ {vs : List V} {ds : List D} {fs : List Addr}, (∀ a ∈ fs, ∀ o, H a = some o → G a = some o) → ROs (RepO K B H k) vs ds fs → Reps K G vs ds := by
      intro vs ds fs hf r
      induction r with
      | nil => exact .nil
      | cons r t ih => exact .cons (RepO.rep eb k (fun a ha => hf a (List.mem_append_left _ ha)) r) (ih fun a ha => hf a (List.mem_append_right _ ha))
    exact go (fun a ha => hk a (List.mem_cons_of_mem _ ha)) r
  | .i, _, _, f, hk, ⟨x, dx, fvs, c, fs, e1, e2, hx, r, ef⟩ => by
    subst ef e1 e2
    exact .ins (hk x List.mem_cons_self _ hx) (r.mono eb)
  | .at x, _, _, f, hk, ⟨dx, fvs, c, fs, e1, e2, hx, r, ef⟩ => by
    subst ef e1 e2
    exact .ins (hk x List.mem_cons_self _ hx) (r.mono eb)
  | .ex _ _, _, _, _, _, ⟨e1, ⟨c, fs, e2, _⟩, _⟩ => by
    subst e1 e2
    exact .exn
theorem RepO.freeze {B H : Hp} {k : Ow} {v : V} {d : D} {f : List Addr} (hb : ∀ a ∈ f, B a = none) (r : RepO K B H k v d f) : Rep K (addB B H f) v d :=
  r.rep (addB_ex hb) k fun a ha o e => by rw [addB_in ha]; exact e
theorem ROs.z {B H : Hp} : ∀ {vs : List V} {ds : List D} {fs : List Addr}, ROs (RepO K B H .z) vs ds fs → Reps K B vs ds ∧ fs = []
  | _, _, _, .nil => ⟨.nil, rfl⟩
  | _, _, _, .cons r t => by
    obtain ⟨h1, h2⟩ := ROs.z t
    obtain ⟨r1, r2⟩ := r
    subst r2 h2
    exact ⟨.cons r1 h1, rfl⟩
theorem ROs.ofz {B H : Hp} : ∀ {vs : List V} {ds : List D}, Reps K B vs ds → ROs (RepO K B H .z) vs ds []
  | _, _, .nil => .nil
  | _, _, .cons r t => ROs.cons (f := []) ⟨r, rfl⟩ (ROs.ofz t)
end

/-! ### growth -/
/-- the base grows by new objects alone, the heap grows -/
structure Gr (B H B' H' : Hp) : Prop where
  b : Ex B B'
  h : Ex H H'
  s : Ex B' H'
  f : ∀ a, H a ≠ none → B' a = B a
theorem Gr.rf {B H : Hp} (s : Ex B H) : Gr B H B H := ⟨Ex.rfl' _, Ex.rfl' _, s, fun _ _ => rfl⟩
theorem Gr.tr {B H B1 H1 B2 H2 : Hp} (a : Gr B H B1 H1) (b : Gr B1 H1 B2 H2) : Gr B H B2 H2 := ⟨a.b.tr b.b, a.h.tr b.h, b.s, fun x hx => (b.f x (a.h.live hx)).trans (a.f x hx)⟩
/-- a new object, tracked, in the base -/
theorem Gr.new {B H : Hp} {p : Addr} {o : HO} (s : Ex B H) (h : H p = none) : Gr B H (upd B p o) (upd H p o) where
  b := Ex.new (s.back h)
  h := Ex.new h
  s := fun a u e => by
    by_cases q : a = p
    · subst q; rw [upd_same] at e ⊢; exact e
    · rw [upd_ne q] at e ⊢; exact s a u e
  f := fun a ha => upd_ne fun q => ha (by rw [q]; exact h)
/-- a new object, tracked, outside of the base -/
theorem Gr.out {B H : Hp} {p : Addr} {o : HO} (s : Ex B H) (h : H p = none) : Gr B H B (upd H p o) := ⟨Ex.rfl' _, Ex.new h, s.tr (Ex.new h), fun _ _ => rfl⟩
theorem Gr.add {B H B' H' : Hp} (g : Gr B H B' H') {fs : List Addr} (h1 : ∀ a ∈ fs, H a = none ∧ B' a = none) : Gr B H (addB B' H' fs) H' :=
  ⟨g.b.tr (addB_ex fun a ha => (h1 a ha).2), g.h, addB_sub g.s, fun a ha => (addB_out fun q => ha (h1 a q).1).trans (g.f a ha)⟩

/-! ### the slots -/
abbrev Env := List (Option D)
structure Rel (K : Fr) (w : List Ow) (B H : Hp) (σ : L2.St) (env : Env) (fp : Nat → List Addr) : Prop where
  s : Ex B H
  len : σ.length = env.length
  sl : ∀ i d, env[i]? = some (some d) → ∃ v, σ[i]? = some (some v) ∧ RepO K B H (w.getD i .z) v d (fp i)
  nn : ∀ i, (∀ d, env[i]? ≠ some (some d)) → fp i = []
  nd : ∀ i, (fp i).Nodup
  dj : ∀ i j, i ≠ j → ∀ a ∈ fp i, a ∉ fp j
  bn : ∀ i, ∀ a ∈ fp i, B a = none
section
variable {K : Fr} {w w' : List Ow} {B H B' H' : Hp} {σ : L2.St} {env : Env} {fp : Nat → List Addr}
theorem Rel.live (R : Rel K w B H σ env fp) (i : Nat) : ∀ a ∈ fp i, H a ≠ none := fun a ha => by
  by_cases q : ∃ d, env[i]? = some (some d)
  · obtain ⟨d, e⟩ := q
    obtain ⟨v, _, r⟩ := R.sl i d e
    exact r.mem _ a ha
  · rw [R.nn i fun d e => q ⟨d, e⟩] at ha; cases ha
theorem Rel.gr (R : Rel K w B H σ env fp) (g : Gr B H B' H') : Rel K w B' H' σ env fp where
  s := g.s
  len := R.len
  sl := fun i d e => let ⟨v, h1, h2⟩ := R.sl i d e; ⟨v, h1, h2.mono g.b g.h⟩
  nn := R.nn
  nd := R.nd
  dj := R.dj
  bn := fun i a ha => (g.f a (R.live i a ha)).trans (R.bn i a ha)
/-- slot i is given another value -/
theorem Rel.set {i : Nat} {k : Ow} {v : V} {d : D} {f : List Addr} (R : Rel K w B H σ env fp) (hi : i < env.length) (r : RepO K B H k v d f) (nd : f.Nodup) (bn : ∀ a ∈ f, B a = none) (dj : ∀ j, j ≠ i → ∀ a ∈ f, a ∉ fp j)
    (hw : ∀ j, w'.getD j .z = if j = i then k else w.getD j .z) : Rel K w' B H (σ.set i (some v)) (env.set i (some d)) (fun j => if j = i then f else fp j) where
  s := R.s
  len := by simpa using R.len
  sl := fun j e he => by
    by_cases q : j = i
    · subst q
      rw [List.getElem?_set_self hi] at he
      injection he with he
      injection he with he
      subst he
      refine ⟨v, List.getElem?_set_self (by rw [R.len]; exact hi), ?_⟩
      rw [hw, if_pos rfl]
      simpa using r
    · rw [List.getElem?_set_ne (Ne.symm q)] at he ⊢
      obtain ⟨u, h1, h2⟩ := R.sl j e he
      refine ⟨u, h1, ?_⟩
      rw [hw, if_neg q]
      simpa [q] using h2
  nn := fun j hj => by
    by_cases q : j = i
    · subst q
      exact absurd (List.getElem?_set_self hi) (hj d)
    · rw [if_neg q]
      exact R.nn j fun e he => hj e (by rw [List.getElem?_set_ne (Ne.symm q)]; exact he)
  nd := fun j => by
    by_cases q : j = i
    · rw [if_pos q]; exact nd
    · rw [if_neg q]; exact R.nd j
  dj := fun j l hjl a ha => by
    by_cases q : j = i
    · rw [if_pos q] at ha
      rw [if_neg (fun z => hjl (q.trans z.symm))]
      exact dj l (fun z => hjl (q.trans z.symm)) a ha
    · rw [if_neg q] at ha
      by_cases q2 : l = i
      · rw [if_pos q2]
        exact fun z => dj j q a z ha
      · rw [if_neg q2]
        exact R.dj j l hjl a ha
  bn := fun j a ha => by
    by_cases q : j = i
    · rw [if_pos q] at ha; exact bn a ha
    · rw [if_neg q] at ha; exact R.bn j a ha
/-- some slots are frozen -/
theorem Rel.freeze (R : Rel K w B H σ env fp) (hw : ∀ j, w'.getD j .z = w.getD j .z ∨ w'.getD j .z = .z) :
    ∃ fs fp', Rel K w' (addB B H fs) H σ env fp' ∧ (∀ a ∈ fs, ∃ i, a ∈ fp i) ∧ ∀ i, ∀ a ∈ fp' i, a ∈ fp i := by
  refine ⟨(List.range env.length).flatMap fun i => if w'.getD i .z = w.getD i .z then [] else fp i, fun i => if w'.getD i .z = w.getD i .z then fp i else [], ?_, ?_, ?_⟩
  · have hin : ∀ {a : Addr}, a ∈ ((List.range env.length).flatMap fun i => if w'.getD i .z = w.getD i .z then [] else fp i) → ∃ i, w'.getD i .z ≠ w.getD i .z ∧ a ∈ fp i := fun {a} h => by
      obtain ⟨i, _, q⟩ := List.mem_flatMap.mp h
      split at q
      · cases q
      · exact ⟨i, by assumption, q⟩
    have hb : ∀ a ∈ ((List.range env.length).flatMap fun i => if w'.getD i .z = w.getD i .z then [] else fp i), B a = none := fun a ha => by
      obtain ⟨i, _, q⟩ := hin ha
      exact R.bn i a q
    refine ⟨addB_sub R.s, R.len, fun i d e => ?_, fun i hi => ?_, fun i => ?_, fun i j hij a ha => ?_, fun i a ha => ?_⟩
    · obtain ⟨v, h1, h2⟩ := R.sl i d e
      refine ⟨v, h1, ?_⟩
      by_cases q : w'.getD i .z = w.getD i .z
      · rw [q]
        simp only [q, if_true]
        exact h2.mono (addB_ex hb) (Ex.rfl' _)
      · have z := (hw i).resolve_left q
        simp only [q, if_false]
        rw [z]
        refine ⟨h2.rep (addB_ex hb) _ fun a ha o eo => ?_, rfl⟩
        have hi : i < env.length := (List.getElem?_eq_some_iff.mp e).1
        rw [addB_in (List.mem_flatMap.mpr ⟨i, List.mem_range.mpr hi, by rw [if_neg q]; exact ha⟩)]
        exact eo
    · split
      · exact R.nn i hi
      · rfl
    · split
      · exact R.nd i
      · exact List.nodup_nil
    · split at ha
      · split
        · exact R.dj i j hij a ha
        · simp
      · cases ha
    · split at ha
      · rename_i q
        rw [addB_out]
        · exact R.bn i a ha
        · intro z
          obtain ⟨j, qj, hj⟩ := hin z
          refine R.dj i j (fun e => ?_) a ha hj
          subst e
          exact qj q
      · cases ha
  · intro a ha
    obtain ⟨i, _, q⟩ := List.mem_flatMap.mp ha
    split at q
    · cases q
    · exact ⟨i, q⟩
  · intro i a ha
    dsimp only at ha
    split at ha
    · exact ha
    · cases ha
end

/-! ### outcomes -/
inductive Res (α : Type) where
  | ok (a : α) | exc (c : Str) (fs : List (Str × D)) | bad
def Res.bind {α β : Type} (r : Res α) (f : α → Res β) : Res β := match r with
  | .ok a => f a
  | .exc c fs => .exc c fs
  | .bad => .bad
inductive Out where
  | nx (e : Env) | bk (e : Env) | ct (e : Env) | ret (d : D) | exc (c : Str) (fs : List (Str × D)) (e : Env) | bad
/-- an exception's own dict -/
def ExcRep (K : Fr) (B H : Hp) (dct : Option Addr) (fs : List (Str × D)) : Prop := (fs = [] ∧ dct = none) ∨ (fs ≠ [] ∧ ∃ dd fvs, dct = some dd ∧ H dd = some (.xd fvs) ∧ RepF K B fvs fs)
theorem ExcRep.mono {K : Fr} {B H B' H' : Hp} {dct : Option Addr} {fs : List (Str × D)} (b : Ex B B') (h : Ex H H') (r : ExcRep K B H dct fs) : ExcRep K B' H' dct fs := by
  rcases r with r | ⟨r1, dd, fvs, r2, r3, r4⟩
  · exact .inl r
  · exact .inr ⟨r1, dd, fvs, r2, h _ _ r3, r4.mono b⟩

/-! ### the readings -/
/-- behind an expression: its value, borne by the grown base | an exception -/
def AfE (K : Fr) (W : WX) (k : Ow) (B : Hp) (σ : L2.St) (H : Hp) (Q : VK) : Res D → Prop
  | .ok d => ∀ v H' B' f, Gr B H B' H' → RepO K B' H' k v d f → f.Nodup → (∀ a ∈ f, H a = none ∧ B' a = none) → Q v H'
  | .exc c fs => ∀ H' B' dct, Gr B H B' H' → ExcRep K B' H' dct fs → W (.ref (He.ga K c)) dct σ H'
  | .bad => False
def rdE (K : Fr) (w : List Ow) (W : WX) (de : Env → Res D) (k : Ow) : TE := fun σ H Q => ∃ B env fp, Rel K w B H σ env fp ∧ AfE K W k B σ H Q (de env)
def AfT (K : Fr) (W : WX) (B : Hp) (σ : L2.St) (H : Hp) (Q : Bool → Hp → Prop) : Res Bool → Prop
  | .ok b => ∀ H' B', Gr B H B' H' → Q b H'
  | .exc c fs => ∀ H' B' dct, Gr B H B' H' → ExcRep K B' H' dct fs → W (.ref (He.ga K c)) dct σ H'
  | .bad => False
def rdT (K : Fr) (w : List Ow) (W : WX) (dt : Env → Res Bool) : TT := fun σ H Q => ∃ B env fp, Rel K w B H σ env fp ∧ AfT K W B σ H Q (dt env)
def AfA (K : Fr) (W : WX) (B : Hp) (σ : L2.St) (H : Hp) (Q : List V → Hp → Prop) : Res (List D) → Prop
  | .ok ds => ∀ vs H' B', Gr B H B' H' → Reps K B' vs ds → Q vs H'
  | .exc c fs => ∀ H' B' dct, Gr B H B' H' → ExcRep K B' H' dct fs → W (.ref (He.ga K c)) dct σ H'
  | .bad => False
def rdA (K : Fr) (w : List Ow) (W : WX) (da : Env → Res (List D)) : TA := fun σ H Q => ∃ B env fp, Rel K w B H σ env fp ∧ AfA K W B σ H Q (da env)
/-- the frame's own state over the entry (B0, H0) -/
def SRel (K : Fr) (w : List Ow) (B0 H0 B H : Hp) (σ : L2.St) (env : Env) : Prop :=
  ∃ fp, Rel K w B H σ env fp ∧ Ex B0 B ∧ Ex H0 H ∧ (∀ a, H0 a ≠ none → B a = B0 a) ∧ ∀ i, ∀ a ∈ fp i, H0 a = none
structure Ws where
  nx : List Ow
  bk : List Ow
  ct : List Ow
  rt : Ow
def AfS (K : Fr) (W : WX) (s : Ws) (B0 H0 : Hp) (D : Ends) : Out → Prop
  | .nx env => ∀ B σ H, SRel K s.nx B0 H0 B H σ env → D.nx σ H
  | .bk env => ∀ B σ H, SRel K s.bk B0 H0 B H σ env → D.bk σ H
  | .ct env => ∀ B σ H, SRel K s.ct B0 H0 B H σ env → D.ct σ H
  | .ret d => ∀ B H v f, Ex B0 B → Ex H0 H → Ex B H → (∀ a, H0 a ≠ none → B a = B0 a) → RepO K B H s.rt v d f → f.Nodup → (∀ a ∈ f, H0 a = none ∧ B a = none) → D.rt v H
  | .exc c fs env => ∀ B σ H dct, SRel K [] B0 H0 B H σ env → ExcRep K B H dct fs → W (.ref (He.ga K c)) dct σ H
  | .bad => False
def rdS (K : Fr) (w : List Ow) (W : WX) (b : Env → Out) (s : Ws) : TS := fun D σ H => ∃ B0 H0 B env, SRel K w B0 H0 B H σ env ∧ AfS K W s B0 H0 D (b env)

/-! ### weakening -/
section
variable {X : Cx}
theorem PE_weak {e : Expr} {t t' : TE} (h : PE X e t) (hw : ∀ σ H Q, t' σ H Q → t σ H Q) : PE X e t' := ⟨fun pins s σ H Q I q => h.run pins s σ H Q I (hw σ H Q q)⟩
theorem PT_weak {e : Expr} {t t' : TT} (h : PT X e t) (hw : ∀ σ H Q, t' σ H Q → t σ H Q) : PT X e t' := ⟨fun pins s σ H Q I q => h.run pins s σ H Q I (hw σ H Q q)⟩
theorem PW_weak {e : Expr} {t t' : TT} (h : PW X e t) (hw : ∀ σ H Q, t' σ H Q → t σ H Q) : PW X e t' := ⟨fun wh pins s σ H Q I q => h.run wh pins s σ H Q I (hw σ H Q q)⟩
theorem PA_weak {es : List Expr} {t t' : TA} (h : PA X es t) (hw : ∀ σ H Q, t' σ H Q → t σ H Q) : PA X es t' := ⟨fun pos pins s σ H Q I q => h.run pos pins s σ H Q I (hw σ H Q q)⟩
theorem PS_weak {st : Stmt} {t t' : TS} (h : PS X st t) (hw : ∀ D σ H, t' D σ H → t D σ H) : PS X st t' := ⟨fun pins s σ H D I q => h.run pins s σ H D I (hw D σ H q)⟩
theorem PSs_weak {st : List Stmt} {t t' : TS} (h : PSs X st t) (hw : ∀ D σ H, t' D σ H → t D σ H) : PSs X st t' := ⟨fun pins s σ H D I q => h.run pins s σ H D I (hw D σ H q)⟩
end
section
variable {K : Fr} {W : WX} {w w' : List Ow} {k : Ow} {de : Env → Res D}
/-- the value of an expression is frozen -/
theorem rdE_z {σ : L2.St} {H : Hp} {Q : VK} (h : rdE K w W de .z σ H Q) : rdE K w W de k σ H Q := by
  obtain ⟨B, env, fp, R, h⟩ := h
  refine ⟨B, env, fp, R, ?_⟩
  cases e : de env with
  | ok d =>
    rw [e] at h
    intro v H' B' f g r nd hf
    exact h v H' (addB B' H' f) [] (g.add hf) ⟨r.freeze fun a ha => (hf a ha).2, rfl⟩ List.nodup_nil fun a ha => by cases ha
  | exc c fs => rw [e] at h; exact h
  | bad => rw [e] at h; exact h
end
end Fz
set_option Elab.async false
set_option linter.all false
set_option maxRecDepth 100000
set_option maxHeartbeats 4000000
/-! Functionalization: expressions. -/
namespace Fz
open PySem PySem.Spec PyProof.Rows L2

/-! ### what expressions are worth, on data -/
def dv (i : Nat) : Env → Res D := fun env => match env[i]? with
  | some (some d) => .ok d
  | _ => .bad
def dc (d : D) : Env → Res D := fun _ => .ok d
def d1 (f : D → Res D) (a : Env → Res D) : Env → Res D := fun env => (a env).bind f
def d2 (f : D → D → Res D) (a b : Env → Res D) : Env → Res D := fun env => (a env).bind fun x => (b env).bind fun y => f x y
def dnil : Env → Res (List D) := fun _ => .ok []
def dcons (a : Env → Res D) (r : Env → Res (List D)) : Env → Res (List D) := fun env => (a env).bind fun x => (r env).bind fun ys => .ok (x :: ys)
def dcall (f : List D → Res D) (a : Env → Res (List D)) : Env → Res D := fun env => (a env).bind f
def tVal (a : Env → Res D) : Env → Res Bool := fun env => (a env).bind fun x => match x with
  | .bl b => .ok b
  | _ => .bad
def truD : D → Res Bool
  | .non => .ok false
  | .bl b => .ok b
  | .int i => .ok (i != 0)
  | .str x => if x.length ≤ 16777216 then .ok ((x.length : Int) != 0) else .bad
  | .lst ds => .ok (!ds.isEmpty)
  | .scr ds => .ok (!ds.isEmpty)
  | .tup ds => .ok (!ds.isEmpty)
  | _ => .bad
def tTru (a : Env → Res D) : Env → Res Bool := fun env => (a env).bind truD
def tNot (t : Env → Res Bool) : Env → Res Bool := fun env => (t env).bind fun b => .ok (!b)
def tAnd (t u : Env → Res Bool) : Env → Res Bool := fun env => (t env).bind fun b => if b = true then u env else .ok false
def tOr (t u : Env → Res Bool) : Env → Res Bool := fun env => (t env).bind fun b => if b = true then .ok true else u env
def dAnd (a b : Env → Res D) : Env → Res D := fun env => (a env).bind fun x => match x with
  | .bl true => b env
  | .bl false => .ok (.bl false)
  | _ => .bad
def dOr (a b : Env → Res D) : Env → Res D := fun env => (a env).bind fun x => match x with
  | .bl true => .ok (.bl true)
  | .bl false => b env
  | _ => .bad
def oNot : D → Res D
  | .bl b => .ok (.bl (!b))
  | _ => .bad
def dIf (t : Env → Res Bool) (a b : Env → Res D) : Env → Res D := fun env => (t env).bind fun c => if c = true then a env else b env
/-- a op1 b op2 c -/
def chainK (r : Res D) : D → Res D
  | .bl true => r
  | .bl false => .ok (.bl false)
  | _ => .bad
def dChain (f g : D → D → Res D) (a b c : Env → Res D) : Env → Res D := fun env => (a env).bind fun x => (b env).bind fun y => (f x y).bind (chainK ((c env).bind fun u => g y u))
/-- the same expression, its value (and an exception's fields) a scalar -/
def D.flat : D → Bool
  | .non => true
  | .bl _ => true
  | .int _ => true
  | .str _ => true
  | _ => false
def dflat (a : Env → Res D) : Env → Res D := fun env => match a env with
  | .ok d => if d.flat = true then .ok d else .bad
  | .exc c [] => .exc c []
  | _ => .bad
def tflat (t : Env → Res Bool) : Env → Res Bool := fun env => match t env with
  | .ok b => .ok b
  | .exc c [] => .exc c []
  | .bad => .bad
  | .exc _ (_ :: _) => .bad

/-! ### the operators -/
def mulOk (i j : Int) : Bool := decide (-(2 ^ 64) < i ∧ i < 2 ^ 64) || decide (-(2 ^ 64) < j ∧ j < 2 ^ 64) || decide (i.natAbs.log2 + j.natAbs.log2 < 1000000)
def divOk (j : Int) : Bool := decide (j ≠ 0) && (decide (j.natAbs < 1073741824) || decide (j.natAbs.log2 < 9000))
def powOk (i j : Int) : Bool := decide (0 ≤ j ∧ j ≤ 1000000 ∧ i.natAbs < 2 ^ 64)
def oAdd : D → D → Res D
  | .int i, .int j => .ok (.int (i + j))
  | .tup xs, .tup ys => if xs.length + ys.length ≤ 16777216 then .ok (.tup (xs ++ ys)) else .bad
  | .lst xs, .lst ys => if xs.length + ys.length ≤ 16777216 then .ok (.lst (xs ++ ys)) else .bad
  | .str x, .str y => if x.length + y.length ≤ 16777216 then .ok (.str (x ++ y)) else .bad
  | _, _ => .bad
def oAddL : D → D → Res D
  | .lst xs, .lst ys => if xs.length + ys.length ≤ 16777216 then .ok (.lst (xs ++ ys)) else .bad
  | _, _ => .bad
def oSub : D → D → Res D
  | .int i, .int j => .ok (.int (i - j))
  | _, _ => .bad
def oMul : D → D → Res D
  | .int i, .int j => if mulOk i j = true then .ok (.int (i * j)) else .bad
  | _, _ => .bad
def oRepL : D → D → Res D
  | .lst xs, .int k => if -(2 ^ 63) ≤ k ∧ k < 2 ^ 63 ∧ xs.length * k.toNat ≤ 16777216 then .ok (.lst (List.flatten (List.replicate k.toNat xs))) else .bad
  | _, _ => .bad
def oDiv : D → D → Res D
  | .int i, .int j => if divOk j = true then .ok (.int (i.fdiv j)) else .bad
  | _, _ => .bad
def oMod : D → D → Res D
  | .int i, .int j => if j ≠ 0 then .ok (.int (i.fmod j)) else .bad
  | _, _ => .bad
def oPow : D → D → Res D
  | .int i, .int j => if powOk i j = true then .ok (.int (i ^ j.toNat)) else .bad
  | _, _ => .bad
def oNeg : D → Res D
  | .int i => .ok (.int (-i))
  | _ => .bad
def cI (p : Int → Int → Bool) : D → D → Res D
  | .int i, .int j => .ok (.bl (p i j))
  | _, _ => .bad
abbrev cLt := cI fun i j => decide (i < j)
abbrev cLe := cI fun i j => decide (i ≤ j)
abbrev cGt := cI fun i j => decide (j < i)
abbrev cGe := cI fun i j => decide (j ≤ i)
mutual
def D.py : D → Option PyData
  | .non => some .none
  | .bl b => some (.bool b)
  | .int i => some (.int i)
  | .str x => some (.str x)
  | .lst ds => (D.pys ds).map .list
  | .scr ds => (D.pys ds).map .list
  | .tup ds => (D.pys ds).map .tuple
  | .ins _ _ => none
  | .exn _ _ => none
def D.pys : List D → Option (List PyData)
  | [] => some []
  | d :: r => match D.py d, D.pys r with
    | some p, some ps => some (p :: ps)
    | _, _ => none
end
def eqD (x y : D) : Option Bool := match x.py, y.py with
  | some p, some q => if SeqAt.shaped p = true ∧ SeqAt.shaped q = true then some (PyData.eqv p q) else none
  | _, _ => none
def cEq (x y : D) : Res D := match x, y with
  | .int i, .int j => .ok (.bl (decide (i = j)))
  | .str i, .str j => .ok (.bl (decide (i = j)))
  | .bl i, .bl j => .ok (.bl (decide (i = j)))
  | x, y => match eqD x y with
    | some b => .ok (.bl b)
    | none => .bad
def cNe (x y : D) : Res D := match x, y with
  | .int i, .int j => .ok (.bl (!decide (i = j)))
  | .str i, .str j => .ok (.bl (!decide (i = j)))
  | .bl i, .bl j => .ok (.bl (!decide (i = j)))
  | x, y => match eqD x y with
    | some b => .ok (.bl (!b))
    | none => .bad
def cIsN : D → Res D
  | .non => .ok (.bl true)
  | _ => .ok (.bl false)
def cNotN : D → Res D
  | .non => .ok (.bl false)
  | _ => .ok (.bl true)
def oIx : D → D → Res D
  | .lst xs, .int i => match atI xs i with | some d => .ok d | none => .bad
  | .scr xs, .int i => match atI xs i with | some d => .ok d | none => .bad
  | .tup xs, .int i => match atI xs i with | some d => .ok d | none => .bad
  | .str z, .int i => if z.length ≤ 16777216 then (match atI z.cps.toList i with | some c => .ok (.str ⟨#[c]⟩) | none => .bad) else .bad
  | _, _ => .bad
def oFld (cs : List Str) (f : Str) : D → Res D
  | .ins c fs => if cs.contains c = true then (match fs.lookup f with | some d => .ok d | none => .bad) else .bad
  | _ => .bad

/-! ### their rules, by values -/
def OpD (K : Fr) (r : R2) (f : D → D → Res D) (k : Ow) : Prop := ∀ (W : WX) (x y : V) (a b : D) (B H : Hp) (σ : L2.St) (Q : VK), Ex B H → Rep K B x a → Rep K B y b → AfE K W k B σ H Q (f a b) → r x y H Q
theorem AfE.val {K : Fr} {W : WX} {B H : Hp} {σ : L2.St} {Q : VK} {d : D} {v : V} (s : Ex B H) (h : AfE K W .z B σ H Q (.ok d)) (r : Rep K B v d) : Q v H :=
  h v H B [] (Gr.rf s) ⟨r, rfl⟩ List.nodup_nil fun a ha => by cases ha
/-- a new object at p that the base takes -/
theorem AfE.newB {K : Fr} {W : WX} {B H : Hp} {σ : L2.St} {Q : VK} {d : D} {p : Addr} {o : HO} (s : Ex B H) (h : AfE K W .z B σ H Q (.ok d)) (hp : H p = none) (r : Rep K (upd B p o) (.ref p) d) : Q (.ref p) (upd H p o) :=
  h (.ref p) _ (upd B p o) [] (Gr.new s hp) ⟨r, rfl⟩ List.nodup_nil fun a ha => by cases ha
/-- a new list of one's own -/
theorem AfE.newL {K : Fr} {W : WX} {B H : Hp} {σ : L2.St} {Q : VK} {ds : List D} {vs : List V} {p : Addr} (s : Ex B H) (h : AfE K W (.l .z) B σ H Q (.ok (.lst ds))) (hp : H p = none) (r : Reps K B vs ds) : Q (.ref p) (upd H p (.lst vs)) :=
  h (.ref p) _ B [p] (Gr.out s hp) ⟨p, vs, ds, [], rfl, rfl, upd_same, ROs.ofz r, rfl⟩ (by simp) fun a ha => by
    have q : a = p := by simpa using ha
    subst q
    exact ⟨hp, s.back hp⟩
theorem AfE.iff {K : Fr} {W : WX} {k : Ow} {B H : Hp} {σ : L2.St} {Q : VK} {c : Prop} [Decidable c] {r : Res D} (h : AfE K W k B σ H Q (if c then r else .bad)) : c ∧ AfE K W k B σ H Q r := by
  by_cases q : c
  · rw [if_pos q] at h; exact ⟨q, h⟩
  · rw [if_neg q] at h; exact h.elim
theorem Rep.intI {K : Fr} {B : Hp} {v : V} {i : Int} (r : Rep K B v (.int i)) : v = .int i := by cases r; rfl
section
variable {X : Cx} {K : Fr}
theorem OpR.or {f : Value → Value → Sem Value} {r r' : R2} (h : OpR X f r) (h' : OpR X f r') : OpR X f (fun x y H Q => r x y H Q ∨ r' x y H Q) := by
  intro pins s σ H x y v u Q I rx ry q
  rcases q with q | q
  · exact h pins s σ H x y v u Q I rx ry q
  · exact h' pins s σ H x y v u Q I rx ry q
abbrev rAddI : R2 := rI0 fun i j => .int (i + j)
abbrev rAddSt : R2 := fun x y H Q => ∃ i j, x = .str i ∧ y = .str j ∧ i.length + j.length ≤ sizeLine ∧ Q (.str (i ++ j)) H
def rAddAll (K : Fr) : R2 := fun x y H Q => rAddI x y H Q ∨ rCatA K x y H Q ∨ rCat x y H Q ∨ rAddSt x y H Q
theorem op_addAll : OpR X (binaryOp .Add) (rAddAll X.K) := OpR.or op_add (OpR.or op_catA (OpR.or op_cat op_add_str))
theorem sz {n : Nat} (h : n ≤ 16777216) : n ≤ sizeLine := by rw [sizeLine_eq]; exact h
theorem od_add : OpD K (rAddAll K) oAdd .z := by
  intro W x y a b B H σ Q s rx ry h
  cases rx with
  | int i =>
    cases ry with
    | int j => exact .inl ⟨i, j, rfl, rfl, AfE.val s h (.int _)⟩
    | _ => exact h.elim
  | str i =>
    cases ry with
    | str j =>
      obtain ⟨hz, h⟩ := AfE.iff (show AfE K W .z B σ H Q (if i.length + j.length ≤ 16777216 then _ else _) from h)
      exact .inr (.inr (.inr ⟨i, j, rfl, rfl, sz hz, AfE.val s h (.str _)⟩))
    | _ => exact h.elim
  | @tup p xs ds hp rs =>
    cases ry with
    | @tup q ys es hq qs =>
      obtain ⟨hz, h⟩ := AfE.iff (show AfE K W .z B σ H Q (if ds.length + es.length ≤ 16777216 then _ else _) from h)
      refine .inr (.inl ⟨p, q, xs, ys, rfl, rfl, s.st hp, s.st hq, sz (by rw [rs.length, qs.length]; exact hz), fun e => ?_, fun e e' => ?_, fun e e' t ht => ?_⟩)
      · subst e
        cases rs
        exact AfE.val s h (.tup hq qs)
      · subst e'
        cases qs
        rw [List.append_nil] at h
        exact AfE.val s h (.tup hp rs)
      · exact AfE.newB s h ht (.tup (SqT.of upd_same) ((rs.append qs).mono (Ex.new (s.back ht))))
    | _ => exact h.elim
  | @lst p xs ds hp rs =>
    cases ry with
    | @lst q ys es hq qs =>
      obtain ⟨hz, h⟩ := AfE.iff (show AfE K W .z B σ H Q (if ds.length + es.length ≤ 16777216 then _ else _) from h)
      refine .inr (.inr (.inl ⟨p, q, xs, ys, rfl, rfl, s _ _ hp, s _ _ hq, sz (by rw [rs.length, qs.length]; exact hz), fun t ht => ?_⟩))
      exact AfE.newB s h ht (.lst upd_same ((rs.append qs).mono (Ex.new (s.back ht))))
    | _ => exact h.elim
  | _ => exact h.elim
theorem od_addL : OpD K rCat oAddL (.l .z) := by
  intro W x y a b B H σ Q s rx ry h
  cases rx with
  | @lst p xs ds hp rs =>
    cases ry with
    | @lst q ys es hq qs =>
      obtain ⟨hz, h⟩ := AfE.iff (show AfE K W (.l .z) B σ H Q (if ds.length + es.length ≤ 16777216 then _ else _) from h)
      exact ⟨p, q, xs, ys, rfl, rfl, s _ _ hp, s _ _ hq, sz (by rw [rs.length, qs.length]; exact hz), fun t ht => AfE.newL s h ht (rs.append qs)⟩
    | _ => exact h.elim
  | _ => exact h.elim
/-- an operator of two ints -/
theorem od_int {C : Int → Int → Prop} {g : Int → Int → V} {f : D → D → Res D} (hf : ∀ a b, (∀ i j, a = .int i → b = .int j → False) → f a b = .bad)
    (hi : ∀ i j, (C i j ∧ ∃ d, f (.int i) (.int j) = .ok d ∧ ∀ B, Rep K B (g i j) d) ∨ f (.int i) (.int j) = .bad) : OpD K (rI C g) f .z := by
  intro W x y a b B H σ Q s rx ry h
  by_cases q : ∃ i j, a = .int i ∧ b = .int j
  · obtain ⟨i, j, rfl, rfl⟩ := q
    cases rx
    cases ry
    rcases hi i j with ⟨c, d, e, r⟩ | e
    · rw [e] at h
      exact ⟨i, j, rfl, rfl, c, AfE.val s h (r B)⟩
    · rw [e] at h
      exact h.elim
  · rw [hf a b fun i j e1 e2 => q ⟨i, j, e1, e2⟩] at h
    exact h.elim
abbrev rT (g : Int → Int → V) : R2 := rI (fun _ _ => True) g
theorem OpR.rI0 {f : Value → Value → Sem Value} {g : Int → Int → V} (h : OpR X f (L2.rI0 g)) : OpR X f (rT g) := fun pins s σ H x y v u Q I rx ry ⟨i, j, e1, e2, _, q⟩ => h pins s σ H x y v u Q I rx ry ⟨i, j, e1, e2, q⟩
theorem od_sub : OpD K (rT fun i j => .int (i - j)) oSub .z := od_int (fun a b h => by cases a <;> cases b <;> first | rfl | exact (h _ _ rfl rfl).elim) fun i j => .inl ⟨trivial, _, rfl, fun _ => .int _⟩
theorem od_cmp {p : Int → Int → Bool} : OpD K (rT fun i j => .bl (p i j)) (cI p) .z := od_int (fun a b h => by cases a <;> cases b <;> first | rfl | exact (h _ _ rfl rfl).elim) fun i j => .inl ⟨trivial, _, rfl, fun _ => .bl _⟩
def CMulA (i j : Int) : Prop := mulOk i j = true
theorem op_mulA : OpR X (binaryOp .Mult) (rI CMulA fun i j => .int (i * j)) := by
  intro pins s σ H x y v u Q I rx ry ⟨i, j, e1, e2, c, q⟩
  unfold CMulA mulOk at c
  simp only [Bool.or_eq_true, decide_eq_true_eq] at c
  rcases c with (c | c) | c
  · exact op_mul pins s σ H x y v u Q I rx ry ⟨i, j, e1, e2, .inl c, q⟩
  · exact op_mul pins s σ H x y v u Q I rx ry ⟨i, j, e1, e2, .inr c, q⟩
  · exact op_mulW pins s σ H x y v u Q I rx ry ⟨i, j, e1, e2, c, q⟩
theorem od_mul : OpD K (rI CMulA fun i j => .int (i * j)) oMul .z := od_int (fun a b h => by cases a <;> cases b <;> first | rfl | exact (h _ _ rfl rfl).elim) fun i j => by
  by_cases c : mulOk i j = true
  · exact .inl ⟨c, .int (i * j), if_pos c, fun _ => .int _⟩
  · exact .inr (if_neg c)
def CDivA (_ j : Int) : Prop := divOk j = true
theorem op_divA : OpR X (binaryOp .FloorDiv) (rI CDivA fun i j => .int (i.fdiv j)) := opI fun i j _ _ _ _ _ hc q => by
  unfold CDivA divOk at hc
  simp only [Bool.and_eq_true, Bool.or_eq_true, decide_eq_true_eq] at hc
  rcases hc.2 with c | c
  · exact floordiv_int hc.1 q (.inl (PyProof.noPylong_small c))
  · exact floordiv_int hc.1 q (.inl (PyProof.noPylong_of_log2 c))
theorem od_div : OpD K (rI CDivA fun i j => .int (i.fdiv j)) oDiv .z := od_int (fun a b h => by cases a <;> cases b <;> first | rfl | exact (h _ _ rfl rfl).elim) fun i j => by
  by_cases c : divOk j = true
  · exact .inl ⟨c, .int (i.fdiv j), if_pos c, fun _ => .int _⟩
  · exact .inr (if_neg c)
theorem od_mod : OpD K (rI (fun _ j => j ≠ 0) fun i j => .int (i.fmod j)) oMod .z := od_int (fun a b h => by cases a <;> cases b <;> first | rfl | exact (h _ _ rfl rfl).elim) fun i j => by
  by_cases c : j ≠ 0
  · exact .inl ⟨c, .int (i.fmod j), if_pos c, fun _ => .int _⟩
  · exact .inr (if_neg c)
theorem od_pow : OpD K (rI CPow fun i j => .int (i ^ j.toNat)) oPow .z := od_int (fun a b h => by cases a <;> cases b <;> first | rfl | exact (h _ _ rfl rfl).elim) fun i j => by
  by_cases c : powOk i j = true
  · have c' : 0 ≤ j ∧ j ≤ 1000000 ∧ i.natAbs < 2 ^ 64 := by unfold powOk at c; exact of_decide_eq_true c
    exact .inl ⟨c', .int (i ^ j.toNat), if_pos c, fun _ => .int _⟩
  · exact .inr (if_neg c)
theorem op_modA : OpR X (binaryOp .Mod) (rI (fun _ j => j ≠ 0) fun i j => .int (i.fmod j)) := op_modN

/-! ### data at any depth: == -/
mutual
theorem Rep.dp {B H : Hp} (s : Ex B H) : ∀ {v : V} {d : D} {p : PyData}, Rep K B v d → d.py = some p → L2.Dp K H v p
  | _, _, _, .non, e => by cases e; exact .non
  | _, _, _, .bl b, e => by cases e; exact .bl _
  | _, _, _, .int i, e => by cases e; exact .int _
  | _, _, _, .str x, e => by cases e; exact .str _
  | _, _, _, .lst h r, e => by
    unfold D.py at e
    obtain ⟨ps, h1, h2⟩ := Option.map_eq_some_iff.mp e
    subst h2
    exact .lst (SqL.of (s _ _ h)) (Reps.dp s r h1)
  | _, _, _, .scr h r, e => by
    unfold D.py at e
    obtain ⟨ps, h1, h2⟩ := Option.map_eq_some_iff.mp e
    subst h2
    exact .lst (s.sl h) (Reps.dp s r h1)
  | _, _, _, .tup h r, e => by
    unfold D.py at e
    obtain ⟨ps, h1, h2⟩ := Option.map_eq_some_iff.mp e
    subst h2
    exact .tup (s.st h) (Reps.dp s r h1)
  | _, _, _, .ins _ _, e => by cases e
  | _, _, _, .exn, e => by cases e
theorem Reps.dp {B H : Hp} (s : Ex B H) : ∀ {vs : List V} {ds : List D} {ps : List PyData}, Reps K B vs ds → D.pys ds = some ps → DpAll K H vs ps
  | _, _, _, .nil, e => by cases e; exact .nil
  | _, _, _, .cons (d := d) (ds := ds) h r, e => by
    unfold D.pys at e
    split at e
    · rename_i p ps h1 h2
      cases e
      exact .cons (Rep.dp s h h1) (Reps.dp s r h2)
    · cases e
end
end
end Fz
set_option Elab.async false
set_option linter.all false
set_option maxRecDepth 100000
set_option maxHeartbeats 4000000
/-! Functionalization: the rules of expressions over the canonical readings. -/
namespace Fz
open PySem PySem.Spec PyProof.Rows L2

section
variable {K : Fr} {W : WX} {w w' : List Ow} {k : Ow}
theorem AfE.gr {B H B1 H1 : Hp} {σ : L2.St} {Q : VK} (g : Gr B H B1 H1) : ∀ {r : Res D}, AfE K W k B σ H Q r → AfE K W k B1 σ H1 Q r
  | .ok d, h => fun v H' B' f g2 r nd hf => h v H' B' f (g.tr g2) r nd fun a ha => ⟨g.h.back (hf a ha).1, (hf a ha).2⟩
  | .exc c fs, h => fun H' B' dct g2 r => h H' B' dct (g.tr g2) r
  | .bad, h => h
theorem AfT.gr {B H B1 H1 : Hp} {σ : L2.St} {Q : Bool → Hp → Prop} (g : Gr B H B1 H1) : ∀ {r : Res Bool}, AfT K W B σ H Q r → AfT K W B1 σ H1 Q r
  | .ok d, h => fun H' B' g2 => h H' B' (g.tr g2)
  | .exc c fs, h => fun H' B' dct g2 r => h H' B' dct (g.tr g2) r
  | .bad, h => h
theorem AfA.gr {B H B1 H1 : Hp} {σ : L2.St} {Q : List V → Hp → Prop} (g : Gr B H B1 H1) : ∀ {r : Res (List D)}, AfA K W B σ H Q r → AfA K W B1 σ H1 Q r
  | .ok d, h => fun vs H' B' g2 r => h vs H' B' (g.tr g2) r
  | .exc c fs, h => fun H' B' dct g2 r => h H' B' dct (g.tr g2) r
  | .bad, h => h
/-- first a value, then more -/
theorem rdE_then {a : Env → Res D} {σ : L2.St} {H B : Hp} {env : Env} {fp : Nat → List Addr} {k' : Ow} {Q : VK} {Q2 : VK} {f : D → Res D} (R : Rel K w B H σ env fp) (h : AfE K W k' B σ H Q2 ((a env).bind f))
    (go : ∀ d v H1 B1, a env = .ok d → Gr B H B1 H1 → Rel K w B1 H1 σ env fp → Rep K B1 v d → AfE K W k' B1 σ H1 Q2 (f d) → Q v H1) : rdE K w W a .z σ H Q := by
  refine ⟨B, env, fp, R, ?_⟩
  cases e : a env with
  | ok d =>
    rw [e] at h
    intro v H1 B1 fs g r nd hf
    exact go d v H1 B1 e g (R.gr g) r.1 (AfE.gr g h)
  | exc c fs => rw [e] at h; exact h
  | bad => rw [e] at h; exact h
theorem rdE_thenT {a : Env → Res D} {σ : L2.St} {H B : Hp} {env : Env} {fp : Nat → List Addr} {Q : VK} {Q2 : Bool → Hp → Prop} {f : D → Res Bool} (R : Rel K w B H σ env fp) (h : AfT K W B σ H Q2 ((a env).bind f))
    (go : ∀ d v H1 B1, a env = .ok d → Gr B H B1 H1 → Rel K w B1 H1 σ env fp → Rep K B1 v d → AfT K W B1 σ H1 Q2 (f d) → Q v H1) : rdE K w W a .z σ H Q := by
  refine ⟨B, env, fp, R, ?_⟩
  cases e : a env with
  | ok d =>
    rw [e] at h
    intro v H1 B1 fs g r nd hf
    exact go d v H1 B1 e g (R.gr g) r.1 (AfT.gr g h)
  | exc c fs => rw [e] at h; exact h
  | bad => rw [e] at h; exact h
theorem rdE_thenA {a : Env → Res D} {σ : L2.St} {H B : Hp} {env : Env} {fp : Nat → List Addr} {Q : VK} {Q2 : List V → Hp → Prop} {f : D → Res (List D)} (R : Rel K w B H σ env fp) (h : AfA K W B σ H Q2 ((a env).bind f))
    (go : ∀ d v H1 B1, a env = .ok d → Gr B H B1 H1 → Rel K w B1 H1 σ env fp → Rep K B1 v d → AfA K W B1 σ H1 Q2 (f d) → Q v H1) : rdE K w W a .z σ H Q := by
  refine ⟨B, env, fp, R, ?_⟩
  cases e : a env with
  | ok d =>
    rw [e] at h
    intro v H1 B1 fs g r nd hf
    exact go d v H1 B1 e g (R.gr g) r.1 (AfA.gr g h)
  | exc c fs => rw [e] at h; exact h
  | bad => rw [e] at h; exact h
theorem rdA_then {a : Env → Res (List D)} {σ : L2.St} {H B : Hp} {env : Env} {fp : Nat → List Addr} {k' : Ow} {Q : List V → Hp → Prop} {Q2 : VK} {f : List D → Res D} (R : Rel K w B H σ env fp) (h : AfE K W k' B σ H Q2 ((a env).bind f))
    (go : ∀ ds vs H1 B1, a env = .ok ds → Gr B H B1 H1 → Rel K w B1 H1 σ env fp → Reps K B1 vs ds → AfE K W k' B1 σ H1 Q2 (f ds) → Q vs H1) : rdA K w W a σ H Q := by
  refine ⟨B, env, fp, R, ?_⟩
  cases e : a env with
  | ok ds =>
    rw [e] at h
    intro vs H1 B1 g r
    exact go ds vs H1 B1 e g (R.gr g) r (AfE.gr g h)
  | exc c fs => rw [e] at h; exact h
  | bad => rw [e] at h; exact h
theorem rdA_thenA {a : Env → Res (List D)} {σ : L2.St} {H B : Hp} {env : Env} {fp : Nat → List Addr} {Q : List V → Hp → Prop} {Q2 : List V → Hp → Prop} {f : List D → Res (List D)} (R : Rel K w B H σ env fp) (h : AfA K W B σ H Q2 ((a env).bind f))
    (go : ∀ ds vs H1 B1, a env = .ok ds → Gr B H B1 H1 → Rel K w B1 H1 σ env fp → Reps K B1 vs ds → AfA K W B1 σ H1 Q2 (f ds) → Q vs H1) : rdA K w W a σ H Q := by
  refine ⟨B, env, fp, R, ?_⟩
  cases e : a env with
  | ok ds =>
    rw [e] at h
    intro vs H1 B1 g r
    exact go ds vs H1 B1 e g (R.gr g) r (AfA.gr g h)
  | exc c fs => rw [e] at h; exact h
  | bad => rw [e] at h; exact h
/-- first a test, then more -/
theorem rdT_then {a : Env → Res Bool} {σ : L2.St} {H B : Hp} {env : Env} {fp : Nat → List Addr} {k' : Ow} {Q : Bool → Hp → Prop} {Q2 : VK} {f : Bool → Res D} (R : Rel K w B H σ env fp) (h : AfE K W k' B σ H Q2 ((a env).bind f))
    (go : ∀ d H1 B1, a env = .ok d → Gr B H B1 H1 → Rel K w B1 H1 σ env fp → AfE K W k' B1 σ H1 Q2 (f d) → Q d H1) : rdT K w W a σ H Q := by
  refine ⟨B, env, fp, R, ?_⟩
  cases e : a env with
  | ok d =>
    rw [e] at h
    intro H1 B1 g
    exact go d H1 B1 e g (R.gr g) (AfE.gr g h)
  | exc c fs => rw [e] at h; exact h
  | bad => rw [e] at h; exact h
theorem rdT_thenT {a : Env → Res Bool} {σ : L2.St} {H B : Hp} {env : Env} {fp : Nat → List Addr} {Q : Bool → Hp → Prop} {Q2 : Bool → Hp → Prop} {f : Bool → Res Bool} (R : Rel K w B H σ env fp) (h : AfT K W B σ H Q2 ((a env).bind f))
    (go : ∀ d H1 B1, a env = .ok d → Gr B H B1 H1 → Rel K w B1 H1 σ env fp → AfT K W B1 σ H1 Q2 (f d) → Q d H1) : rdT K w W a σ H Q := by
  refine ⟨B, env, fp, R, ?_⟩
  cases e : a env with
  | ok d =>
    rw [e] at h
    intro H1 B1 g
    exact go d H1 B1 e g (R.gr g) (AfT.gr g h)
  | exc c fs => rw [e] at h; exact h
  | bad => rw [e] at h; exact h
end

/-! ### names, constants -/
section
variable {X : Cx} {K : Fr} {W : WX} {w w' : List Ow} {k : Ow} {e a b c : Expr} {da db dc' : Env → Res D} {ta tb : Env → Res Bool} {pos : Pos}
theorem dv_some {i : Nat} {env : Env} {d : D} (h : env[i]? = some (some d)) : dv i env = .ok d := by unfold dv; rw [h]
theorem dv_cases (i : Nat) (env : Env) : (∃ d, env[i]? = some (some d) ∧ dv i env = .ok d) ∨ dv i env = .bad := by
  unfold dv
  cases h : env[i]? with
  | none => exact .inr rfl
  | some o =>
    cases o with
    | none => exact .inr rfl
    | some d => exact .inl ⟨d, rfl, rfl⟩
theorem e_var (i : Nat) {x : Str} (hw : w.getD i .z = .z := by rfl) (hN : X.N[i]? = some x := by rfl) (hv : Vis X.env.scope x := by first | exact Or.inl rfl | exact Or.inr (Or.inl rfl) | exact Or.inr (Or.inr rfl)) (hd : (x == ("__debug__" : Str)) = false := by decide)
    (hcd : (x == ("__classdict__" : Str)) = false := by decide) : PE X (.Name x pos) (rdE K w W (dv i) .z) := by
  refine PE_weak (pe_var hN hv hd hcd) fun σ H Q ⟨B, env, fp, R, h⟩ => ?_
  rcases dv_cases i env with ⟨d, e1, e2⟩ | e2
  · rw [e2] at h
    obtain ⟨v, h1, h2⟩ := R.sl i d e1
    rw [hw] at h2
    exact ⟨v, h1, AfE.val R.s h h2.1⟩
  · rw [e2] at h; exact h.elim
theorem e_c {v : V} {d : D} (h : PE X e (tC v)) (r : ∀ B, Rep K B v d) : PE X e (rdE K w W (dc d) .z) := PE_weak h fun σ H Q ⟨B, env, fp, R, h⟩ => AfE.val R.s h (r B)
theorem e_int {i : Int} {j : Nat} : PE X (.Constant (.int i) j pos) (rdE K w W (dc (.int i)) .z) := e_c pe_int fun _ => .int i
theorem e_bl {b : Bool} {j : Nat} : PE X (.Constant (.bool b) j pos) (rdE K w W (dc (.bl b)) .z) := e_c pe_bl fun _ => .bl b
theorem e_non {j : Nat} : PE X (.Constant .none j pos) (rdE K w W (dc .non) .z) := e_c pe_non fun _ => .non
theorem e_str {x : Str} {j : Nat} : PE X (.Constant (.str x) j pos) (rdE K w W (dc (.str x)) .z) := e_c pe_str fun _ => .str x
theorem e_globI {x : Str} {i : Int} {t : Tok} (hm : X.mg x = some (.int i t)) (hg : Gl X x := by rfl) (hd : (x == ("__debug__" : Str)) = false := by decide) : PE X (.Name x pos) (rdE K w W (dc (.int i)) .z) := e_c (pe_glob (v := .int i) hg hm ⟨t, rfl⟩ hd) fun _ => .int i
/-- the value is frozen -/
theorem e_fz (h : PE X e (rdE K w W da k)) : PE X e (rdE K w W da .z) := PE_weak h fun σ H Q ⟨B, env, fp, R, h⟩ => by
  refine ⟨B, env, fp, R, ?_⟩
  cases e : da env with
  | ok d =>
    rw [e] at h
    intro v H' B' f g r nd hf
    exact h v H' (addB B' H' f) [] (g.add hf) ⟨r.freeze fun a ha => (hf a ha).2, rfl⟩ List.nodup_nil fun a ha => by cases ha
  | exc c fs => rw [e] at h; exact h
  | bad => rw [e] at h; exact h
/-- w' is w with some slots frozen -/
def fzB : List Ow → List Ow → Bool
  | [], [] => true
  | a :: r, b :: s => (decide (b = a) || decide (b = .z)) && fzB r s
  | _, _ => false
theorem fzB_ok : ∀ {w w' : List Ow}, fzB w w' = true → ∀ j, w'.getD j .z = w.getD j .z ∨ w'.getD j .z = .z
  | [], [], _, j => .inl rfl
  | a :: r, b :: s, h, j => by
    unfold fzB at h
    simp only [Bool.and_eq_true, Bool.or_eq_true, decide_eq_true_eq] at h
    cases j with
    | zero => exact h.1
    | succ j => exact fzB_ok h.2 j
  | [], _ :: _, h, _ => by cases h
  | _ :: _, [], h, _ => by cases h
theorem Gr.unb {B H B1 B' H' : Hp} (s : Ex B H) (g : Gr B1 H B' H') : Gr B H B H' := ⟨Ex.rfl' _, g.h, s.tr g.h, fun _ _ => rfl⟩
theorem Rep.flat {B B' : Hp} {v : V} {d : D} (h : d.flat = true) (r : Rep K B v d) : Rep K B' v d := by
  cases r with
  | non => exact .non
  | bl b => exact .bl b
  | int i => exact .int i
  | str x => exact .str x
  | _ => cases h
/-- a scalar is reckoned while lists of one's own are read -/
theorem e_bor (h : PE X e (rdE K w' W da .z)) (hw : fzB w w' = true := by rfl) : PE X e (rdE K w W (dflat da) .z) := PE_weak h fun σ H Q ⟨B, env, fp, R, h⟩ => by
  obtain ⟨fs, fp', R', _, _⟩ := R.freeze (fzB_ok hw)
  refine ⟨_, env, fp', R', ?_⟩
  unfold dflat at h
  cases e : da env with
  | ok d =>
    rw [e] at h
    intro v H' B' f g r nd hf
    obtain ⟨hd, h⟩ := AfE.iff h
    exact h v H' B [] (Gr.unb R.s g) ⟨r.1.flat hd, rfl⟩ List.nodup_nil fun a ha => by cases ha
  | exc c gs =>
    rw [e] at h
    cases gs with
    | nil =>
      intro H' B' dct g r
      refine h H' B dct (Gr.unb R.s g) ?_
      rcases r with r | ⟨r, _⟩
      · exact .inl r
      · exact absurd rfl r
    | cons _ _ => exact h.elim
  | bad => rw [e] at h; exact h.elim
theorem t_bor (h : PT X e (rdT K w' W ta)) (hw : fzB w w' = true := by rfl) : PT X e (rdT K w W (tflat ta)) := PT_weak h fun σ H Q ⟨B, env, fp, R, h⟩ => by
  obtain ⟨fs, fp', R', _, _⟩ := R.freeze (fzB_ok hw)
  refine ⟨_, env, fp', R', ?_⟩
  unfold tflat at h
  cases e : ta env with
  | ok d =>
    rw [e] at h
    intro H' B' g
    exact h H' B (Gr.unb R.s g)
  | exc c gs =>
    rw [e] at h
    cases gs with
    | nil =>
      intro H' B' dct g r
      refine h H' B dct (Gr.unb R.s g) ?_
      rcases r with r | ⟨r, _⟩
      · exact .inl r
      · exact absurd rfl r
    | cons _ _ => exact h.elim
  | bad => rw [e] at h; exact h.elim

/-! ### operators -/
theorem rdE_op {r : R2} {f : D → D → Res D} (hd : OpD K r f k) : ∀ σ H Q, rdE K w W (d2 f da db) k σ H Q → tOp r (rdE K w W da .z) (rdE K w W db .z) σ H Q := fun σ H Q ⟨B, env, fp, R, h⟩ =>
  rdE_then R h fun d v H1 B1 _ g1 R1 r1 h1 => rdE_then R1 h1 fun d2 v2 H2 B2 _ g2 R2 r2 h2 => hd W v v2 d d2 B2 H2 σ Q R2.s (r1.mono g2.b) r2 h2
theorem e_op {op : Operator} {r : R2} {f : D → D → Res D} (ho : OpR X (binaryOp op) r) (hd : OpD K r f k) (ha : PE X a (rdE K w W da .z)) (hb : PE X b (rdE K w W db .z)) : PE X (.BinOp a op b pos) (rdE K w W (d2 f da db) k) :=
  PE_weak (pe_op ho ha hb) (rdE_op hd)
theorem e_cmp {op : CmpOp} {r : R2} {f : D → D → Res D} (ho : OpR X (compareOp op) r) (hd : OpD K r f .z) (ha : PE X a (rdE K w W da .z)) (hb : PE X b (rdE K w W db .z)) (hm : behindInMarks op b = false := by exact nomark _) :
    PE X (.Compare a [op] [b] pos) (rdE K w W (d2 f da db) .z) := PE_weak (pe_cmpR ho ha hb hm) (rdE_op hd)
theorem rdT_of {t : TE} (h : ∀ σ H Q, rdE K w W da .z σ H Q → t σ H Q) : ∀ σ H Q, rdT K w W (tVal da) σ H Q → tTest t σ H Q := fun σ H Q ⟨B, env, fp, R, hq⟩ => h σ H _ (rdE_thenT R hq fun d v H1 B1 _ g1 R1 r1 h1 => by
  cases r1 with
  | bl b => exact ⟨b, rfl, h1 H1 B1 (Gr.rf R1.s)⟩
  | _ => exact h1.elim)
theorem t_cmp {op : CmpOp} {r : R2} {f : D → D → Res D} (ho : OpR X (compareOp op) r) (hd : OpD K r f .z) (ha : PE X a (rdE K w W da .z)) (hb : PE X b (rdE K w W db .z)) (hm : behindInMarks op b = false := by exact nomark _) :
    PT X (.Compare a [op] [b] pos) (rdT K w W (tVal (d2 f da db))) := PT_weak (pt_cmpR ho ha hb hm) (rdT_of (rdE_op hd))
theorem rdE_chain {r r' : R2} {f f' : D → D → Res D} (hd : OpD K r f .z) (hd' : OpD K r' f' .z) : ∀ σ H Q, rdE K w W (dChain f f' da db dc') .z σ H Q → tChain r r' (rdE K w W da .z) (rdE K w W db .z) (rdE K w W dc' .z) σ H Q := fun σ H Q ⟨B, env, fp, R, h⟩ =>
  rdE_then R h fun d v H1 B1 _ g1 R1 r1 h1 => rdE_then R1 h1 fun d2 v2 H2 B2 _ g2 R2 r2 h2 => by
    refine hd W v v2 d d2 B2 H2 σ _ R2.s (r1.mono g2.b) r2 ?_
    cases e : f d d2 with
    | ok z =>
      rw [e] at h2
      intro v3 H3 B3 fs g3 r3 nd hf
      have h2' : AfE K W .z B2 σ H2 Q (chainK ((dc' env).bind fun u => f' d2 u) z) := h2
      cases r3.1 with
      | bl b =>
        refine ⟨b, rfl, ?_⟩
        cases b with
        | true =>
          rw [if_pos rfl]
          exact rdE_then (R2.gr g3) (AfE.gr g3 h2') fun d4 v4 H4 B4 _ g4 R4 r4 h4 => hd' W v2 v4 d2 d4 B4 H4 σ Q R4.s (r2.mono (g3.tr g4).b) r4 h4
        | false =>
          rw [if_neg Bool.false_ne_true]
          exact AfE.val g3.s (AfE.gr g3 h2') (.bl false)
      | _ => exact h2'.elim
    | exc c fs => rw [e] at h2; exact h2
    | bad => rw [e] at h2; exact h2
theorem e_chain {op op' : CmpOp} {r r' : R2} {f f' : D → D → Res D} (ho : OpR X (compareOp op) r) (hd : OpD K r f .z) (ho' : OpR X (compareOp op') r') (hd' : OpD K r' f' .z) (ha : PE X a (rdE K w W da .z)) (hb : PE X b (rdE K w W db .z)) (hc : PE X c (rdE K w W dc' .z))
    (hm : lastMarks [op, op'] [b, c] = false := by with_unfolding_all rfl) : PE X (.Compare a [op, op'] [b, c] pos) (rdE K w W (dChain f f' da db dc') .z) := PE_weak (pe_chain ho ho' ha hb hc hm) (rdE_chain hd hd')
theorem t_chain {op op' : CmpOp} {r r' : R2} {f f' : D → D → Res D} (ho : OpR X (compareOp op) r) (hd : OpD K r f .z) (ho' : OpR X (compareOp op') r') (hd' : OpD K r' f' .z) (ha : PE X a (rdE K w W da .z)) (hb : PE X b (rdE K w W db .z)) (hc : PE X c (rdE K w W dc' .z))
    (hm : lastMarks [op, op'] [b, c] = false := by with_unfolding_all rfl) : PT X (.Compare a [op, op'] [b, c] pos) (rdT K w W (tVal (dChain f f' da db dc'))) := PT_weak (pt_chain ho ho' ha hb hc hm) (rdT_of (rdE_chain hd hd'))
theorem e_neg (ha : PE X a (rdE K w W da .z)) : PE X (.UnaryOp .USub a pos) (rdE K w W (d1 oNeg da) .z) := PE_weak (pe_un un_neg ha) fun σ H Q ⟨B, env, fp, R, h⟩ =>
  rdE_then R h fun d v H1 B1 _ g1 R1 r1 h1 => by
    cases r1 with
    | int i => exact ⟨i, rfl, AfE.val R1.s h1 (.int _)⟩
    | _ => exact h1.elim

/-! ### tests -/
theorem Rep.tru {B H : Hp} (s : Ex B H) {v : V} {d : D} {c : Bool} (r : Rep K B v d) (h : truD d = .ok c) : TruV K v H c := by
  have ie : ∀ {vs : List V} {ds : List D}, Reps K B vs ds → (!ds.isEmpty) = !vs.isEmpty := fun r => by cases r <;> rfl
  cases r with
  | non => injection h with h; exact h.symm
  | bl b => injection h with h; exact h.symm
  | int i => injection h with h; exact h.symm
  | str x =>
    have h' : (if x.length ≤ 16777216 then Res.ok ((x.length : Int) != 0) else .bad) = Res.ok c := h
    by_cases q : x.length ≤ 16777216
    · rw [if_pos q] at h'
      injection h' with h'
      exact ⟨sz q, h'.symm⟩
    · rw [if_neg q] at h'
      cases h'
  | lst hp rs => injection h with h; exact .inl ⟨_, SqL.of (s _ _ hp), by rw [← h, ie rs]⟩
  | scr hp rs => injection h with h; exact .inl ⟨_, s.sl hp, by rw [← h, ie rs]⟩
  | tup hp rs => injection h with h; exact .inr (.inl ⟨_, s.st hp, by rw [← h, ie rs]⟩)
  | ins _ _ => cases h
  | exn => cases h
theorem truD_noexc (d : D) : (∃ b, truD d = .ok b) ∨ truD d = .bad := by
  cases d with
  | str x =>
    by_cases q : x.length ≤ 16777216
    · exact .inl ⟨_, if_pos q⟩
    · exact .inr (if_neg q)
  | ins _ _ => exact .inr rfl
  | exn _ _ => exact .inr rfl
  | _ => exact .inl ⟨_, rfl⟩
theorem t_tru (ha : PE X a (rdE K w W da .z)) (hK : X.K = K := by rfl) (he : ∀ whole, isTrue a X.env whole = (do let v ← whole; standAt a.pos; holding [v] (truthy v)) := by intro _; rfl) : PT X a (rdT K w W (tTru da)) :=
  PT_weak (pt_truth ha he) fun σ H Q ⟨B, env, fp, R, h⟩ => rdE_thenT R h fun d v H1 B1 _ g1 R1 r1 h1 => by
    subst hK
    rcases truD_noexc d with ⟨b, e⟩ | e
    · rw [e] at h1
      exact ⟨b, r1.tru R1.s e, h1 H1 B1 (Gr.rf R1.s)⟩
    · rw [e] at h1
      exact h1.elim
theorem t_not (ha : PT X a (rdT K w W ta)) : PT X (.UnaryOp .Not a pos) (rdT K w W (Fz.tNot ta)) := PT_weak (pt_not ha) fun σ H Q ⟨B, env, fp, R, h⟩ =>
  rdT_thenT R h fun d H1 B1 _ g1 R1 h1 => h1 H1 B1 (Gr.rf R1.s)
variable {rest : List Expr}
theorem w_and1 (ha : PT X a (rdT K w W ta)) : PW X (.BoolOp .And [a] pos) (rdT K w W ta) := pw_and1 ha
theorem w_or1 (ha : PT X a (rdT K w W ta)) : PW X (.BoolOp .Or [a] pos) (rdT K w W ta) := pw_or1 ha
theorem w_and (ha : PT X a (rdT K w W ta)) (hb : PW X (.BoolOp .And (b :: rest) pos) (rdT K w W tb)) : PW X (.BoolOp .And (a :: b :: rest) pos) (rdT K w W (Fz.tAnd ta tb)) := PW_weak (pw_and ha hb) fun σ H Q ⟨B, env, fp, R, h⟩ =>
  rdT_thenT R h fun d H1 B1 _ g1 R1 h1 => by
    cases d with
    | true => rw [if_pos rfl]; exact ⟨B1, env, fp, R1, h1⟩
    | false => rw [if_neg Bool.false_ne_true]; exact h1 H1 B1 (Gr.rf R1.s)
theorem w_or (ha : PT X a (rdT K w W ta)) (hb : PW X (.BoolOp .Or (b :: rest) pos) (rdT K w W tb)) : PW X (.BoolOp .Or (a :: b :: rest) pos) (rdT K w W (Fz.tOr ta tb)) := PW_weak (pw_or ha hb) fun σ H Q ⟨B, env, fp, R, h⟩ =>
  rdT_thenT R h fun d H1 B1 _ g1 R1 h1 => by
    cases d with
    | true => rw [if_pos rfl]; exact h1 H1 B1 (Gr.rf R1.s)
    | false => rw [if_neg Bool.false_ne_true]; exact ⟨B1, env, fp, R1, h1⟩
/-- and, or, not of truths, as values -/
theorem e_one {op : BoolOp} (ha : PE X a (rdE K w W da .z)) : PE X (.BoolOp op [a] pos) (rdE K w W da .z) := pe_one ha
theorem e_and (ha : PE X a (rdE K w W da .z)) (hb : PE X (.BoolOp .And (b :: rest) pos) (rdE K w W db .z)) : PE X (.BoolOp .And (a :: b :: rest) pos) (rdE K w W (dAnd da db) .z) := PE_weak (pe_and ha hb) fun σ H Q ⟨B, env, fp, R, h⟩ =>
  rdE_then R h fun d v H1 B1 _ g1 R1 r1 h1 => by
    cases r1 with
    | bl c =>
      refine ⟨c, rfl, ?_⟩
      cases c with
      | true => rw [if_pos rfl]; exact ⟨B1, env, fp, R1, h1⟩
      | false => rw [if_neg Bool.false_ne_true]; exact AfE.val R1.s h1 (.bl false)
    | _ => exact h1.elim
theorem e_or (ha : PE X a (rdE K w W da .z)) (hb : PE X (.BoolOp .Or (b :: rest) pos) (rdE K w W db .z)) : PE X (.BoolOp .Or (a :: b :: rest) pos) (rdE K w W (dOr da db) .z) := PE_weak (pe_or ha hb) fun σ H Q ⟨B, env, fp, R, h⟩ =>
  rdE_then R h fun d v H1 B1 _ g1 R1 r1 h1 => by
    cases r1 with
    | bl c =>
      refine ⟨c, rfl, ?_⟩
      cases c with
      | true => rw [if_pos rfl]; exact AfE.val R1.s h1 (.bl true)
      | false => rw [if_neg Bool.false_ne_true]; exact ⟨B1, env, fp, R1, h1⟩
    | _ => exact h1.elim
theorem e_not (ha : PE X a (rdE K w W da .z)) : PE X (.UnaryOp .Not a pos) (rdE K w W (d1 oNot da) .z) := PE_weak (pe_not ha) fun σ H Q ⟨B, env, fp, R, h⟩ =>
  rdE_then R h fun d v H1 B1 _ g1 R1 r1 h1 => by
    cases r1 with
    | bl c => exact ⟨c, rfl, AfE.val R1.s h1 (.bl _)⟩
    | _ => exact h1.elim
theorem e_if (hc : PT X c (rdT K w W ta)) (ha : PE X a (rdE K w W da k)) (hb : PE X b (rdE K w W db k)) : PE X (.IfExp c a b pos) (rdE K w W (dIf ta da db) k) := PE_weak (pe_ifExp hc ha hb) fun σ H Q ⟨B, env, fp, R, h⟩ =>
  rdT_then R h fun d H1 B1 _ g1 R1 h1 => by
    cases d with
    | true => rw [if_pos rfl]; exact ⟨B1, env, fp, R1, h1⟩
    | false => rw [if_neg Bool.false_ne_true]; exact ⟨B1, env, fp, R1, h1⟩

/-! ### arguments, displays -/
theorem a_nil : PA X [] (rdA K w W dnil) := PA_weak pa_nil fun σ H Q ⟨B, env, fp, R, h⟩ => h [] H B (Gr.rf R.s) .nil
theorem a_cons {es : List Expr} {ds : Env → Res (List D)} (ha : PE X e (rdE K w W da .z)) (hr : PA X es (rdA K w W ds)) (hs : starEach (e :: es) X.env = (false, eval e X.env) :: starEach es X.env := by rfl) : PA X (e :: es) (rdA K w W (dcons da ds)) :=
  PA_weak (pa_cons ha hr hs) fun σ H Q ⟨B, env, fp, R, h⟩ => rdE_thenA R h fun d v H1 B1 _ g1 R1 r1 h1 => rdA_thenA R1 h1 fun es vs H2 B2 _ g2 R2 r2 h2 => h2 (v :: vs) H2 B2 (Gr.rf R2.s) (.cons (r1.mono g2.b) r2)
def oTup (ds : List D) : Res D := if ds.length ≤ 16777216 then .ok (.tup ds) else .bad
def oLst (ds : List D) : Res D := if ds.length ≤ 16777216 then .ok (.lst ds) else .bad
variable {es : List Expr} {ds : Env → Res (List D)}
theorem e_tup {x1 : Nat} (h : PA X es (rdA K w W ds)) : PE X (.Tuple es x1 pos) (rdE K w W (dcall oTup ds) .z) := PE_weak (pe_tup h) fun σ H Q ⟨B, env, fp, R, h⟩ =>
  rdA_then R h fun es vs H1 B1 _ g1 R1 r1 h1 => by
    obtain ⟨hz, h1⟩ := AfE.iff h1
    exact ⟨sz (by rw [r1.length]; exact hz), fun p hp => AfE.newB R1.s h1 hp (.tup (SqT.of upd_same) (r1.mono (Ex.new (R1.s.back hp))))⟩
theorem e_lst (h : PA X es (rdA K w W ds)) : PE X (.List es pos) (rdE K w W (dcall oLst ds) (.l .z)) := PE_weak (pe_lst h) fun σ H Q ⟨B, env, fp, R, h⟩ =>
  rdA_then R h fun es vs H1 B1 _ g1 R1 r1 h1 => by
    obtain ⟨hz, h1⟩ := AfE.iff h1
    exact ⟨sz (by rw [r1.length]; exact hz), fun p hp => AfE.newL R1.s h1 hp r1⟩
end

/-! ### subscripts, fields -/
section
variable {X : Cx} {K : Fr} {W : WX} {w w' : List Ow} {k : Ow} {e a b c : Expr} {da db dc' : Env → Res D} {pos p2 : Pos}
theorem Reps.atI {B : Hp} {vs : List V} {ds : List D} {i : Int} {d : D} (r : Reps K B vs ds) (h : L2.atI ds i = some d) : ∃ v, L2.atI vs i = some v ∧ Rep K B v d := by
  unfold L2.atI at h ⊢
  rw [r.length]
  cases e : L2.ixN ds.length i with
  | none => rw [e] at h; cases h
  | some j =>
    rw [e] at h
    exact r.get h
theorem AfE.opt {B H : Hp} {σ : L2.St} {Q : VK} {o : Option D} (h : AfE K W k B σ H Q (match o with | some d => .ok d | none => .bad)) : ∃ d, o = some d ∧ AfE K W k B σ H Q (.ok d) := by
  cases o with
  | some d => exact ⟨d, rfl, h⟩
  | none => exact h.elim
theorem od_ix : OpD K (rIx K) oIx .z := by
  intro W x y a b B H σ Q s rx ry h
  cases rx with
  | @lst p xs ds hp rs =>
    cases ry with
    | int i =>
      obtain ⟨d, hd, h⟩ := AfE.opt (show AfE K W .z B σ H Q (match atI ds i with | some d => .ok d | none => .bad) from h)
      obtain ⟨v, hv, rv⟩ := rs.atI hd
      exact .inl ⟨p, xs, i, v, rfl, rfl, SqL.of (s _ _ hp), hv, AfE.val s h rv⟩
    | _ => exact h.elim
  | @scr p xs ds hp rs =>
    cases ry with
    | int i =>
      obtain ⟨d, hd, h⟩ := AfE.opt (show AfE K W .z B σ H Q (match atI ds i with | some d => .ok d | none => .bad) from h)
      obtain ⟨v, hv, rv⟩ := rs.atI hd
      exact .inl ⟨p, xs, i, v, rfl, rfl, s.sl hp, hv, AfE.val s h rv⟩
    | _ => exact h.elim
  | @tup p xs ds hp rs =>
    cases ry with
    | int i =>
      obtain ⟨d, hd, h⟩ := AfE.opt (show AfE K W .z B σ H Q (match atI ds i with | some d => .ok d | none => .bad) from h)
      obtain ⟨v, hv, rv⟩ := rs.atI hd
      exact .inr (.inl ⟨p, xs, i, v, rfl, rfl, s.st hp, hv, AfE.val s h rv⟩)
    | _ => exact h.elim
  | str z =>
    cases ry with
    | int i =>
      obtain ⟨hz, h⟩ := AfE.iff (show AfE K W .z B σ H Q (if z.length ≤ 16777216 then _ else _) from h)
      cases e : atI z.cps.toList i with
      | none => rw [e] at h; exact h.elim
      | some c =>
        rw [e] at h
        exact .inr (.inr ⟨z, i, c, rfl, rfl, sz hz, e, AfE.val s h (.str _)⟩)
    | _ => exact h.elim
  | _ => exact h.elim
theorem e_ix (ha : PE X a (rdE K w W da .z)) (hb : PE X b (rdE K w W db .z)) (hs : PlainIx b := by exact fun _ _ => rfl) (hK : X.K = K := by rfl) : PE X (.Subscript a b pos) (rdE K w W (d2 oIx da db) .z) := by
  subst hK
  exact PE_weak (pe_ix ix_seq ha hb hs) (rdE_op od_ix)
def FldOk (K : Fr) (cs : List Str) (f : Str) : Prop := ∀ c ∈ cs, Cls K (He.ga K c) ∧ NoAttr K (He.ga K c) f
theorem e_fld {f : Str} {cs : List Str} (ha : PE X a (rdE K w W da .z)) (hc : FldOk K cs f) (hb : attributeBase a f X.env (eval a X.env) = eval a X.env := by rfl) (hK : X.K = K := by rfl) :
    PE X (.Attribute a f pos) (rdE K w W (d1 (oFld cs f) da) .z) := by
  subst hK
  refine PE_weak (pe_fld ha hb) fun σ H Q ⟨B, env, fp, R, h⟩ => rdE_then R h fun d v H1 B1 ed g1 R1 r1 h1 => ?_
  cases r1 with
  | @ins x dx c fvs fs hx rf =>
    obtain ⟨hm, h1⟩ := AfE.iff (show AfE X.K W .z B1 σ H1 Q (if cs.contains c = true then (match fs.lookup f with | some d => .ok d | none => .bad) else .bad) from h1)
    obtain ⟨d, hd, h1⟩ := AfE.opt h1
    obtain ⟨u, hu, ru⟩ := rf.lookup hd
    obtain ⟨k1, k2⟩ := hc c (by simpa using hm)
    exact ⟨x, He.ga X.K c, dx, fvs, u, rfl, R1.s _ _ hx, k1, k2, hu, AfE.val R1.s h1 ru⟩
  | _ => exact h1.elim
end
end Fz
set_option Elab.async false
set_option linter.all false
set_option maxRecDepth 100000
set_option maxHeartbeats 4000000
/-! Functionalization: calls. -/
namespace Fz
open PySem PySem.Spec PyProof.Rows L2

/-! ### built-in functions, on data -/
def ints? : List D → Option (List Int)
  | [] => some []
  | .int i :: r => (ints? r).map (i :: ·)
  | _ :: _ => none
theorem ints?_map (ns : List Int) : ints? (ns.map D.int) = some ns := by
  induction ns with
  | nil => rfl
  | cons n r ih =>
    show (ints? (r.map D.int)).map (n :: ·) = _
    rw [ih] <;> rfl
theorem ints?_some : ∀ {ds : List D} {ns : List Int}, ints? ds = some ns → ds = ns.map D.int
  | [], ns, h => by cases h; rfl
  | .int i :: r, ns, h => by
    have h' : (ints? r).map (i :: ·) = some ns := h
    obtain ⟨ms, h1, h2⟩ := Option.map_eq_some_iff.mp h'
    subst h2
    rw [ints?_some h1] <;> rfl
  | .non :: _, _, h => by cases h
  | .bl _ :: _, _, h => by cases h
  | .str _ :: _, _, h => by cases h
  | .lst _ :: _, _, h => by cases h
  | .scr _ :: _, _, h => by cases h
  | .tup _ :: _, _, h => by cases h
  | .ins _ _ :: _, _, h => by cases h
  | .exn _ _ :: _, _, h => by cases h
def seq? : D → Option (List D)
  | .lst ds => some ds
  | .scr ds => some ds
  | .tup ds => some ds
  | _ => none
def bLen : List D → Res D
  | [.str x] => if x.length ≤ 16777216 then .ok (.int (x.length : Nat)) else .bad
  | [d] => match seq? d with | some ds => .ok (.int (ds.length : Nat)) | none => .bad
  | _ => .bad
def bAbs : List D → Res D
  | [.int i] => .ok (.int (if i < 0 then -i else i))
  | _ => .bad
def maxZ : List Int → Int
  | [] => 0
  | n :: r => r.foldl max n
def minZ : List Int → Int
  | [] => 0
  | n :: r => r.foldl min n
def bMax : List D → Res D
  | [.int i, .int j] => .ok (.int (if j > i then j else i))
  | [d] => match seq? d with
    | some ds => (match ints? ds with | some (n :: r) => .ok (.int (maxZ (n :: r))) | _ => .bad)
    | none => .bad
  | _ => .bad
def bMin : List D → Res D
  | [.int i, .int j] => .ok (.int (if j < i then j else i))
  | [d] => match seq? d with
    | some ds => (match ints? ds with | some (n :: r) => .ok (.int (minZ (n :: r))) | _ => .bad)
    | none => .bad
  | _ => .bad
def bSum : List D → Res D
  | [.lst ds] => match ints? ds with | some ns => .ok (.int ns.sum) | none => .bad
  | _ => .bad
def bInt : List D → Res D
  | [.int i] => .ok (.int i)
  | [.bl b] => .ok (.int (if b then 1 else 0))
  | _ => .bad
def bTup : List D → Res D
  | [d] => match seq? d with | some ds => .ok (.tup ds) | none => .bad
  | _ => .bad
def bLst : List D → Res D
  | [d] => match seq? d with | some ds => .ok (.lst ds) | none => .bad
  | _ => .bad
def bGcd : List D → Res D
  | [.int a, .int b] => .ok (.int ((Nat.gcd a.natAbs b.natAbs : Nat) : Int))
  | _ => .bad
/-- isinstance against a built-in class -/
inductive Ty where
  | int | bool | tuple | list | str
def isTy : Ty → D → Bool
  | .int, .int _ => true
  | .int, .bl _ => true
  | .bool, .bl _ => true
  | .tuple, .tup _ => true
  | .list, .lst _ => true
  | .list, .scr _ => true
  | .str, .str _ => true
  | _, _ => false
def plainD : D → Bool
  | .ins _ _ => false
  | .exn _ _ => false
  | _ => true
def bIsi (t : Ty) : List D → Res D
  | [d] => if plainD d = true then .ok (.bl (isTy t d)) else .bad
  | _ => .bad

def CallD (K : Fr) (r : List V → Hp → VK → Prop) (f : List D → Res D) (k : Ow) : Prop := ∀ (W : WX) (vs : List V) (ds : List D) (B H : Hp) (σ : L2.St) (Q : VK), Ex B H → Reps K B vs ds → AfE K W k B σ H Q (f ds) → r vs H Q
section
variable {K : Fr} {B H : Hp}
theorem Rep.seq (s : Ex B H) {v : V} {d : D} {ds : List D} (r : Rep K B v d) (h : seq? d = some ds) : ∃ p vs, v = .ref p ∧ (SqL K H p vs ∨ SqT K H p vs) ∧ Reps K B vs ds := by
  cases r with
  | lst hp rs => cases h; exact ⟨_, _, rfl, .inl (SqL.of (s _ _ hp)), rs⟩
  | scr hp rs => cases h; exact ⟨_, _, rfl, .inl (s.sl hp), rs⟩
  | tup hp rs => cases h; exact ⟨_, _, rfl, .inr (s.st hp), rs⟩
  | _ => cases h
theorem AfE.sq {W : WX} {k : Ow} {σ : L2.St} {Q : VK} {o : Option (List D)} {g : List D → Res D} (h : AfE K W k B σ H Q (match o with | some ds => g ds | none => .bad)) : ∃ ds, o = some ds ∧ AfE K W k B σ H Q (g ds) := by
  cases o with
  | some ds => exact ⟨ds, rfl, h⟩
  | none => exact h.elim
theorem cd_len : CallD K (fun xs H Q => ∃ x n, xs = [x] ∧ LenV K x H n ∧ Q (.int n) H) bLen .z := by
  intro W vs ds B H σ Q s rs h
  cases rs with
  | nil => exact h.elim
  | cons r rs =>
    cases rs with
    | cons _ _ => cases r <;> exact h.elim
    | nil =>
      cases r with
      | str x =>
        obtain ⟨hz, h⟩ := AfE.iff (show AfE K W .z B σ H Q (if x.length ≤ 16777216 then _ else _) from h)
        exact ⟨_, _, rfl, ⟨sz hz, rfl⟩, AfE.val s h (.int _)⟩
      | lst hp rs => exact ⟨_, _, rfl, .inl ⟨_, SqL.of (s _ _ hp), rfl⟩, by rw [rs.length]; exact AfE.val s h (.int _)⟩
      | scr hp rs => exact ⟨_, _, rfl, .inl ⟨_, s.sl hp, rfl⟩, by rw [rs.length]; exact AfE.val s h (.int _)⟩
      | tup hp rs => exact ⟨_, _, rfl, .inr ⟨_, s.st hp, rfl⟩, by rw [rs.length]; exact AfE.val s h (.int _)⟩
      | _ => exact h.elim
theorem cd_abs : CallD K (fun xs H Q => ∃ i, xs = [.int i] ∧ Q (.int (if i < 0 then -i else i)) H) bAbs .z := by
  intro W vs ds B H σ Q s rs h
  cases rs with
  | nil => exact h.elim
  | cons r rs =>
    cases rs with
    | cons _ _ => cases r <;> exact h.elim
    | nil =>
      cases r with
      | int i => exact ⟨i, rfl, AfE.val s h (.int _)⟩
      | _ => exact h.elim
theorem cd_int : CallD K (fun xs H Q => (∃ i, xs = [.int i] ∧ Q (.int i) H) ∨ ∃ k, xs = [.bl k] ∧ Q (.int (if k then 1 else 0)) H) bInt .z := by
  intro W vs ds B H σ Q s rs h
  cases rs with
  | nil => exact h.elim
  | cons r rs =>
    cases rs with
    | cons _ _ => cases r <;> exact h.elim
    | nil =>
      cases r with
      | int i => exact .inl ⟨i, rfl, AfE.val s h (.int _)⟩
      | bl b => exact .inr ⟨b, rfl, AfE.val s h (.int _)⟩
      | _ => exact h.elim
theorem cd_gcd : CallD K rGcd bGcd .z := by
  intro W vs ds B H σ Q s rs h
  cases rs with
  | nil => exact h.elim
  | cons r rs =>
    cases rs with
    | nil => cases r <;> exact h.elim
    | cons r2 rs =>
      cases rs with
      | cons _ _ => cases r <;> first | exact h.elim | (cases r2 <;> exact h.elim)
      | nil =>
        cases r with
        | int i =>
          cases r2 with
          | int j => exact ⟨i, j, rfl, AfE.val s h (.int _)⟩
          | _ => exact h.elim
        | _ => exact h.elim
theorem cd_lst : CallD K (fun xs H Q => ∃ p ys, xs = [.ref p] ∧ (SqL K H p ys ∨ SqT K H p ys) ∧ ∀ l, H l = none → Q (.ref l) (upd H l (.lst ys))) bLst (.l .z) := by
  intro W vs ds B H σ Q s rs h
  cases rs with
  | nil => exact h.elim
  | cons r rs =>
    cases rs with
    | cons _ _ => exact h.elim
    | nil =>
      rename_i v d
      obtain ⟨ds, hd, h⟩ := AfE.sq (show AfE K W (.l .z) B σ H Q (match seq? d with | some ds => .ok (.lst ds) | none => .bad) from h)
      obtain ⟨p, vs, rfl, hp, rs⟩ := r.seq s hd
      exact ⟨p, vs, rfl, hp, fun l hl => AfE.newL s h hl rs⟩
theorem cd_tup : CallD K (fun xs H Q => ∃ p ys, xs = [.ref p] ∧ ((SqL K H p ys ∧ ∀ l, H l = none → Q (.ref l) (upd H l (.tup ys))) ∨ (SqT K H p ys ∧ Q (.ref p) H))) bTup .z := by
  intro W vs ds B H σ Q s rs h
  cases rs with
  | nil => exact h.elim
  | cons r rs =>
    cases rs with
    | cons _ _ => exact h.elim
    | nil =>
      rename_i v d
      obtain ⟨ds, hd, h⟩ := AfE.sq (show AfE K W .z B σ H Q (match seq? d with | some ds => .ok (.tup ds) | none => .bad) from h)
      cases r with
      | lst hp rs => cases hd; exact ⟨_, _, rfl, .inl ⟨SqL.of (s _ _ hp), fun l hl => AfE.newB s h hl (.tup (SqT.of upd_same) (rs.mono (Ex.new (s.back hl))))⟩⟩
      | scr hp rs => cases hd; exact ⟨_, _, rfl, .inl ⟨s.sl hp, fun l hl => AfE.newB s h hl (.tup (SqT.of upd_same) (rs.mono (Ex.new (s.back hl))))⟩⟩
      | tup hp rs => cases hd; exact ⟨_, _, rfl, .inr ⟨s.st hp, AfE.val s h (.tup hp rs)⟩⟩
      | _ => cases hd
/-- the greatest and the least number -/
theorem foldl_max_mem : ∀ (r : List Int) (n : Int), r.foldl max n = n ∨ r.foldl max n ∈ r
  | [], n => .inl rfl
  | m :: r, n => by
    show r.foldl max (max n m) = n ∨ r.foldl max (max n m) ∈ m :: r
    rcases foldl_max_mem r (max n m) with h | h
    · rw [h]
      by_cases q : n ≤ m
      · rw [Int.max_eq_right q]; exact .inr List.mem_cons_self
      · rw [Int.max_eq_left (by omega)]; exact .inl rfl
    · exact .inr (List.mem_cons_of_mem _ h)
theorem foldl_max_ge : ∀ (r : List Int) (n : Int), n ≤ r.foldl max n ∧ ∀ m ∈ r, m ≤ r.foldl max n
  | [], n => ⟨Int.le_refl _, fun m h => by cases h⟩
  | k :: r, n => by
    obtain ⟨h1, h2⟩ := foldl_max_ge r (max n k)
    refine ⟨Int.le_trans (Int.le_max_left n k) h1, fun m hm => ?_⟩
    rcases List.mem_cons.mp hm with q | q
    · rw [q]; exact Int.le_trans (Int.le_max_right n k) h1
    · exact h2 m q
theorem foldl_min_mem : ∀ (r : List Int) (n : Int), r.foldl min n = n ∨ r.foldl min n ∈ r
  | [], n => .inl rfl
  | m :: r, n => by
    show r.foldl min (min n m) = n ∨ r.foldl min (min n m) ∈ m :: r
    rcases foldl_min_mem r (min n m) with h | h
    · rw [h]
      by_cases q : n ≤ m
      · rw [Int.min_eq_left q]; exact .inl rfl
      · rw [Int.min_eq_right (by omega)]; exact .inr List.mem_cons_self
    · exact .inr (List.mem_cons_of_mem _ h)
theorem foldl_min_le : ∀ (r : List Int) (n : Int), r.foldl min n ≤ n ∧ ∀ m ∈ r, r.foldl min n ≤ m
  | [], n => ⟨Int.le_refl _, fun m h => by cases h⟩
  | k :: r, n => by
    obtain ⟨h1, h2⟩ := foldl_min_le r (min n k)
    refine ⟨Int.le_trans h1 (Int.min_le_left n k), fun m hm => ?_⟩
    rcases List.mem_cons.mp hm with q | q
    · rw [q]; exact Int.le_trans h1 (Int.min_le_right n k)
    · exact h2 m q
theorem maxZ_mem {n : Int} {r : List Int} : maxZ (n :: r) ∈ n :: r := (foldl_max_mem r n).elim (fun h => by show r.foldl max n ∈ _; rw [h]; exact List.mem_cons_self) fun h => List.mem_cons_of_mem _ h
theorem maxZ_ge {n : Int} {r : List Int} {m : Int} (h : m ∈ n :: r) : m ≤ maxZ (n :: r) := by
  rcases List.mem_cons.mp h with q | q
  · rw [q]; exact (foldl_max_ge r n).1
  · exact (foldl_max_ge r n).2 m q
theorem minZ_mem {n : Int} {r : List Int} : minZ (n :: r) ∈ n :: r := (foldl_min_mem r n).elim (fun h => by show r.foldl min n ∈ _; rw [h]; exact List.mem_cons_self) fun h => List.mem_cons_of_mem _ h
theorem minZ_le {n : Int} {r : List Int} {m : Int} (h : m ∈ n :: r) : minZ (n :: r) ≤ m := by
  rcases List.mem_cons.mp h with q | q
  · rw [q]; exact (foldl_min_le r n).1
  · exact (foldl_min_le r n).2 m q
end

/-! ### max, min of a tuple of ints -/
section
variable {prog : Program} {w : World} {A : Around} {E : Value → Shared → Prop} {s : Shared} {l : Addr} {xs : Array (Int × Tok)}
theorem iter_intTup {Q : Value → Shared → Prop} (hl : s.heap.IsTuple l (intItems xs))
    (h : ∀ s₂ : Shared, s₂ = { s with heap := s.heap.push { cls := .type "tuple_iterator", data := .fields #[.ref l, .int 0 0] } } →
      (s₂.heap.IsTupleIter s.heap.objs.size l 0 ∧ s₂.heap.IsTuple l (intItems xs)) → (∀ b ∈ [s.heap.objs.size, l], b < s₂.heap.objs.size) → l ≠ s.heap.objs.size → Q (.ref s.heap.objs.size) s₂) :
    wpAny (model prog w) A (pyIter (.ref l)) Q E s := by
  have hlt : l < s.heap.objs.size := by obtain ⟨_, e, _⟩ := hl; exact Heap.lt_size e
  refine wpAny_pyIter_tuple hl (h _ rfl ⟨⟨_, Heap.get?_push_size _ rfl, rfl, rfl⟩, hl.at fun o e => Heap.get?_push_of_some _ e⟩ (fun b hb => ?_) (Nat.ne_of_lt hlt))
  show b < (s.heap.push _).objs.size
  rw [Heap.size_push]
  rcases List.mem_cons.mp hb with rfl | hb
  · exact Nat.lt_succ_self _
  · rcases List.mem_cons.mp hb with rfl | hb
    · exact Nat.lt_succ_of_lt hlt
    · cases hb
theorem old_keptT {h' : Heap} (hk : ∀ b o, b ∉ [s.heap.objs.size] → (s.heap.push { cls := .type "tuple_iterator", data := .fields #[.ref l, .int 0 0] }).get? b = some o → h'.get? b = some o) :
    ∀ b o, s.heap.get? b = some o → h'.get? b = some o := fun b o e => by
  refine hk b o (fun hm => ?_) (Heap.get?_push_of_some _ e)
  rcases List.mem_cons.mp hm with e1 | hm
  · exact absurd (e1 ▸ Heap.lt_size e) (Nat.lt_irrefl _)
  · cases hm
theorem max_intTup {Q : Value → Shared → Prop} (hh : A.handled = none) (hl : s.heap.IsTuple l (intItems xs)) (hne : 0 < xs.size)
    (h : ∀ v h' tk, (intItems xs)[argBest (fun i j => decide (numAt xs i > numAt xs j)) (xs.size - 1)]? = some v → (∀ b o, s.heap.get? b = some o → h'.get? b = some o) → Q v { s with heap := h', toks := tk }) :
    wpAny (model prog w) A (call (.builtin "max") [.ref l]) Q E s := by
  refine call_max_walk (iter_intTup hl fun s₂ e st hfp hlI => ?_)
  subst e
  refine ⟨_, _, _, _, _, _, _, rfl, Walks.tuple (A := A.in1) hh _ l hlI (intItems xs), st, hfp, by simpa [intItems] using hne, CmpOf.ints_gt (numAt xs) (fun _ _ => intItems_at), fun v h' tk hP hk => ?_⟩
  exact h v h' tk (by simpa [intItems] using hP) (old_keptT hk)
theorem min_intTup {Q : Value → Shared → Prop} (hh : A.handled = none) (hl : s.heap.IsTuple l (intItems xs)) (hne : 0 < xs.size)
    (h : ∀ v h' tk, (intItems xs)[argBest (fun i j => decide (numAt xs i < numAt xs j)) (xs.size - 1)]? = some v → (∀ b o, s.heap.get? b = some o → h'.get? b = some o) → Q v { s with heap := h', toks := tk }) :
    wpAny (model prog w) A (call (.builtin "min") [.ref l]) Q E s := by
  refine call_min_walk (iter_intTup hl fun s₂ e st hfp hlI => ?_)
  subst e
  refine ⟨_, _, _, _, _, _, _, rfl, Walks.tuple (A := A.in1) hh _ l hlI (intItems xs), st, hfp, by simpa [intItems] using hne, CmpOf.ints_lt (numAt xs) (fun _ _ => intItems_at), fun v h' tk hP hk => ?_⟩
  exact h v h' tk (by simpa [intItems] using hP) (old_keptT hk)
variable {its : List Value} {ns : List Int} {Q : Value → Shared → Prop}
theorem max_rawT (hh : A.handled = none) (hl : s.heap.IsTuple l its.toArray) (hi : IntsAre its ns) (hne : 0 < ns.length)
    (h : ∀ h' tk M t', (∀ b o, s.heap.get? b = some o → h'.get? b = some o) → M ∈ ns → (∀ a, a ∈ ns → a ≤ M) → Q (.int M t') { s with heap := h', toks := tk }) : wpAny (model prog w) A (call (.builtin "max") [.ref l]) Q E s := by
  obtain ⟨xs, e⟩ := hi.allInts.items
  have hn : numsOf (intItems xs).toList = ns := by rw [← e]; exact hi.numsOf
  rw [nums_intItems] at hn
  subst hn
  rw [e] at hl
  have hsz : 0 < xs.size := by simpa using hne
  refine max_intTup hh hl hsz fun v h' tk hv hk => ?_
  obtain ⟨t, rfl⟩ := intItems_at hv
  obtain ⟨h1, h2⟩ := argBest_gt (numAt xs) (xs.size - 1)
  refine h h' tk _ t hk ?_ fun a ha => ?_
  · rw [numAt_eq]; exact PySem.getD_mem (by rw [List.length_map, Array.length_toList]; omega)
  · obtain ⟨j, hj, rfl⟩ := mem_getD ha
    rw [List.length_map, Array.length_toList] at hj
    rw [← numAt_eq]; exact h2 j (by omega)
theorem min_rawT (hh : A.handled = none) (hl : s.heap.IsTuple l its.toArray) (hi : IntsAre its ns) (hne : 0 < ns.length)
    (h : ∀ h' tk M t', (∀ b o, s.heap.get? b = some o → h'.get? b = some o) → M ∈ ns → (∀ a, a ∈ ns → M ≤ a) → Q (.int M t') { s with heap := h', toks := tk }) : wpAny (model prog w) A (call (.builtin "min") [.ref l]) Q E s := by
  obtain ⟨xs, e⟩ := hi.allInts.items
  have hn : numsOf (intItems xs).toList = ns := by rw [← e]; exact hi.numsOf
  rw [nums_intItems] at hn
  subst hn
  rw [e] at hl
  have hsz : 0 < xs.size := by simpa using hne
  refine min_intTup hh hl hsz fun v h' tk hv hk => ?_
  obtain ⟨t, rfl⟩ := intItems_at hv
  obtain ⟨h1, h2⟩ := argBest_lt (numAt xs) (xs.size - 1)
  refine h h' tk _ t hk ?_ fun a ha => ?_
  · rw [numAt_eq]; exact PySem.getD_mem (by rw [List.length_map, Array.length_toList]; omega)
  · obtain ⟨j, hj, rfl⟩ := mem_getD ha
    rw [List.length_map, Array.length_toList] at hj
    rw [← numAt_eq]; exact h2 j (by omega)
end
section
variable {X : Cx} {K : Fr}
def rMaxT (K : Fr) : List V → Hp → VK → Prop := fun vs H Q => ∃ (a : Addr) (ns : List Int), vs = [V.ref a] ∧ SqT K H a (ns.map V.int) ∧ 0 < ns.length ∧ ∀ m, m ∈ ns → (∀ y, y ∈ ns → y ≤ m) → Q (.int m) H
def rMinT (K : Fr) : List V → Hp → VK → Prop := fun vs H Q => ∃ (a : Addr) (ns : List Int), vs = [V.ref a] ∧ SqT K H a (ns.map V.int) ∧ 0 < ns.length ∧ ∀ m, m ∈ ns → (∀ y, y ∈ ns → m ≤ y) → Q (.int m) H
theorem cr_maxT (hc : X.calm = true) : CallR X (.builtin "max") (rMaxT X.K) := by
  intro pins s σ H vs us Q I r h
  obtain ⟨a, ns, rfl, hs, hne, q⟩ := h
  obtain ⟨its, rv, hl, _⟩ := I.tuple hs
  rw [Vals.ref1 r]
  exact max_rawT (I.ok.hd hc) hl (Vals.ints rv) hne fun h' tk m t' hk h1 h2 => ⟨.int _, H, I.kept hk, ⟨_, rfl⟩, q m h1 h2⟩
theorem cr_minT (hc : X.calm = true) : CallR X (.builtin "min") (rMinT X.K) := by
  intro pins s σ H vs us Q I r h
  obtain ⟨a, ns, rfl, hs, hne, q⟩ := h
  obtain ⟨its, rv, hl, _⟩ := I.tuple hs
  rw [Vals.ref1 r]
  exact min_rawT (I.ok.hd hc) hl (Vals.ints rv) hne fun h' tk m t' hk h1 h2 => ⟨.int _, H, I.kept hk, ⟨_, rfl⟩, q m h1 h2⟩
theorem CallR.or {f : Value} {r r' : List V → Hp → VK → Prop} (h : CallR X f r) (h' : CallR X f r') : CallR X f (fun vs H Q => r vs H Q ∨ r' vs H Q) := by
  intro pins s σ H vs us Q I rr q
  rcases q with q | q
  · exact h pins s σ H vs us Q I rr q
  · exact h' pins s σ H vs us Q I rr q
abbrev rMax2 : List V → Hp → VK → Prop := fun xs H Q => ∃ i j, xs = [.int i, .int j] ∧ Q (.int (if j > i then j else i)) H
abbrev rMin2 : List V → Hp → VK → Prop := fun xs H Q => ∃ i j, xs = [.int i, .int j] ∧ Q (.int (if j < i then j else i)) H
def rMaxA (K : Fr) : List V → Hp → VK → Prop := fun vs H Q => rMax2 vs H Q ∨ rMax K vs H Q ∨ rMaxT K vs H Q
def rMinA (K : Fr) : List V → Hp → VK → Prop := fun vs H Q => rMin2 vs H Q ∨ rMin K vs H Q ∨ rMinT K vs H Q
theorem cr_maxA (hc : X.calm = true) : CallR X (.builtin "max") (rMaxA X.K) := CallR.or (call_max2 hc) (CallR.or (cr_max hc) (cr_maxT hc))
theorem cr_minA (hc : X.calm = true) : CallR X (.builtin "min") (rMinA X.K) := CallR.or (call_min2 hc) (CallR.or (cr_min hc) (cr_minT hc))
theorem AfE.ne {W : WX} {k : Ow} {B H : Hp} {σ : L2.St} {Q : VK} {o : Option (List Int)} {g : List Int → Res D} (h : AfE K W k B σ H Q (match o with | some (n :: r) => g (n :: r) | _ => .bad)) : ∃ n r, o = some (n :: r) ∧ AfE K W k B σ H Q (g (n :: r)) := by
  cases o with
  | none => exact h.elim
  | some ns =>
    cases ns with
    | nil => exact h.elim
    | cons n r => exact ⟨n, r, rfl, h⟩
theorem max_one {n m : Int} {r : List Int} (h1 : m ∈ n :: r) (h2 : ∀ y, y ∈ n :: r → y ≤ m) : m = maxZ (n :: r) := Int.le_antisymm (maxZ_ge h1) (h2 _ maxZ_mem)
theorem min_one {n m : Int} {r : List Int} (h1 : m ∈ n :: r) (h2 : ∀ y, y ∈ n :: r → m ≤ y) : m = minZ (n :: r) := Int.le_antisymm (h2 _ minZ_mem) (minZ_le h1)
theorem seq_case {B H : Hp} {W : WX} {σ : L2.St} {Q : VK} {v : V} {d : D} {g : List Int → Res D} (s : Ex B H) (r : Rep K B v d)
    (h : AfE K W .z B σ H Q (match seq? d with | some ds => (match ints? ds with | some (n :: r) => g (n :: r) | _ => .bad) | none => .bad)) :
    ∃ p n ns, v = .ref p ∧ (SqL K H p ((n :: ns).map V.int) ∨ SqT K H p ((n :: ns).map V.int)) ∧ AfE K W .z B σ H Q (g (n :: ns)) := by
  obtain ⟨ds, hd, h⟩ := AfE.sq h
  obtain ⟨n, ns, hi, h⟩ := AfE.ne h
  obtain ⟨p, vs, rfl, hp, rs⟩ := r.seq s hd
  rw [ints?_some hi] at rs
  rw [rs.ints'] at hp
  exact ⟨p, n, ns, rfl, hp, h⟩
theorem cd_max : CallD K (rMaxA K) bMax .z := by
  intro W vs ds B H σ Q s rs h
  cases rs with
  | nil => exact h.elim
  | cons r rs =>
    cases rs with
    | nil =>
      rename_i v d
      have h' : AfE K W .z B σ H Q (match seq? d with | some ds => (match ints? ds with | some (n :: r) => .ok (.int (maxZ (n :: r))) | _ => .bad) | none => .bad) := by cases r <;> exact h
      obtain ⟨p, n, ns, rfl, hp, h2⟩ := seq_case (g := fun l => .ok (.int (maxZ l))) s r h'
      rcases hp with hp | hp
      · exact .inr (.inl ⟨p, n :: ns, rfl, hp, Nat.succ_pos _, fun m h3 h4 => by rw [max_one h3 h4]; exact AfE.val s h2 (.int _)⟩)
      · exact .inr (.inr ⟨p, n :: ns, rfl, hp, Nat.succ_pos _, fun m h3 h4 => by rw [max_one h3 h4]; exact AfE.val s h2 (.int _)⟩)
    | cons r2 rs =>
      cases rs with
      | nil =>
        cases r with
        | int i =>
          cases r2 with
          | int j => exact .inl ⟨i, j, rfl, AfE.val s h (.int _)⟩
          | _ => exact h.elim
        | _ => exact h.elim
      | cons _ _ => cases r <;> first | exact h.elim | (cases r2 <;> exact h.elim)
theorem cd_min : CallD K (rMinA K) bMin .z := by
  intro W vs ds B H σ Q s rs h
  cases rs with
  | nil => exact h.elim
  | cons r rs =>
    cases rs with
    | nil =>
      rename_i v d
      have h' : AfE K W .z B σ H Q (match seq? d with | some ds => (match ints? ds with | some (n :: r) => .ok (.int (minZ (n :: r))) | _ => .bad) | none => .bad) := by cases r <;> exact h
      obtain ⟨p, n, ns, rfl, hp, h2⟩ := seq_case (g := fun l => .ok (.int (minZ l))) s r h'
      rcases hp with hp | hp
      · exact .inr (.inl ⟨p, n :: ns, rfl, hp, Nat.succ_pos _, fun m h3 h4 => by rw [min_one h3 h4]; exact AfE.val s h2 (.int _)⟩)
      · exact .inr (.inr ⟨p, n :: ns, rfl, hp, Nat.succ_pos _, fun m h3 h4 => by rw [min_one h3 h4]; exact AfE.val s h2 (.int _)⟩)
    | cons r2 rs =>
      cases rs with
      | nil =>
        cases r with
        | int i =>
          cases r2 with
          | int j => exact .inl ⟨i, j, rfl, AfE.val s h (.int _)⟩
          | _ => exact h.elim
        | _ => exact h.elim
      | cons _ _ => cases r <;> first | exact h.elim | (cases r2 <;> exact h.elim)
theorem cd_sum : CallD K (rSum K) bSum .z := by
  intro W vs ds B H σ Q s rs h
  cases rs with
  | nil => exact h.elim
  | cons r rs =>
    cases rs with
    | cons _ _ => cases r <;> exact h.elim
    | nil =>
      cases r with
      | @lst p vs ds hp rs =>
        have h' : AfE K W .z B σ H Q (match ints? ds with | some ns => .ok (.int ns.sum) | none => .bad) := h
        cases e : ints? ds with
        | none => rw [e] at h'; exact h'.elim
        | some ns =>
          rw [e] at h'
          rw [ints?_some e] at rs
          exact ⟨p, ns, rfl, by rw [← rs.ints']; exact SqL.of (s _ _ hp), AfE.val s h' (.int _)⟩
      | _ => exact h.elim
/-! ### isinstance(x, T), T a built-in class -/
def tyN : Ty → String
  | .int => "int"
  | .bool => "bool"
  | .tuple => "tuple"
  | .list => "list"
  | .str => "str"
def dTy : D → String
  | .non => "NoneType"
  | .bl _ => "bool"
  | .int _ => "int"
  | .str _ => "str"
  | .lst _ => "list"
  | .scr _ => "list"
  | .tup _ => "tuple"
  | .ins _ _ => "object"
  | .exn _ _ => "object"
theorem kit_isTy (t : Ty) (d : D) (h : plainD d = true) : kitB (dTy d) (tyN t) = some (isTy t d) := by
  cases d <;> cases t <;> first | (cases h; done) | (simp only [dTy, tyN, isTy]; decide +kernel)
theorem Rep.tyX {B H : Hp} (s : Ex B H) {v : V} {d : D} (r : Rep K B v d) (h : plainD d = true) : TyX K H v (.type (dTy d)) := by
  cases r with
  | non => exact .base .non
  | bl b => exact .base (.bl b)
  | int i => exact .base (.int i)
  | str x => exact .base (.str x)
  | lst hp rs => exact .base (.lst (s _ _ hp))
  | scr hp rs =>
    rcases s.sl hp with (q | ⟨o, q⟩) | ⟨o, its, n, hk, hc, _⟩
    · exact .base (.lst q)
    · exact .base (.frz q)
    · exact .kList hk hc
  | tup hp rs =>
    rcases s.st hp with (q | ⟨o, q⟩) | ⟨o, its, n, hk, hc, _⟩
    · exact .base (.tup q)
    · exact .fTuple q
    · exact .kTuple hk hc
  | ins _ _ => cases h
  | exn => cases h
end
end Fz
set_option Elab.async false
set_option linter.all false
set_option maxRecDepth 100000
set_option maxHeartbeats 4000000
/-! Functionalization: calls of built-ins, of the text's own defs, methods, classes. -/
namespace Fz
open PySem PySem.Spec PyProof.Rows L2

section
variable {X : Cx} {K : Fr} {W : WX} {w w' : List Ow} {k : Ow} {e a b : Expr} {es : List Expr} {da : Env → Res (List D)} {r : List V → Hp → VK → Prop} {f : List D → Res D} {x id T : Str} {p pos : Pos}
theorem rdE_cb (hd : CallD K r f k) : ∀ σ H Q, rdE K w W (dcall f da) k σ H Q → tCB r (rdA K w W da) σ H Q := fun σ H Q ⟨B, env, fp, R, h⟩ =>
  rdA_then R h fun ds vs H1 B1 _ g1 R1 r1 h1 => hd W vs ds B1 H1 σ Q R1.s r1 h1
theorem e_callB {id : String} (hc : CallR X (.builtin id) r) (hd : CallD K r f k) (hm : X.mg x = none) (hv : bootBuiltins x = some (.builtin id)) (ha : PA X (e :: es) (rdA K w W da)) (hg : Gl X x := by rfl) (hn : x ≠ "__name__" := by decide) (hdb : (x == ("__debug__" : Str)) = false := by decide)
    (he : starEach (e :: es) X.env = (false, eval e X.env) :: starEach es X.env := by rfl) (hpl : (backTo pos (starEach es X.env)).any (·.1) = false := by rfl) : PE X (.Call (.Name x p) (e :: es) [] pos) (rdE K w W (dcall f da) k) :=
  PE_weak (pe_callB hc hg hm hv ha hn hdb he hpl) (rdE_cb hd)
theorem e_callT {T : String} (hc : CallR X (.type T) r) (hd : CallD K r f k) (hm : X.mg x = none) (hv : bootBuiltins x = some (.type T)) (ha : PA X (e :: es) (rdA K w W da)) (hg : Gl X x := by rfl) (hn : x ≠ "__name__" := by decide) (hdb : (x == ("__debug__" : Str)) = false := by decide)
    (he : starEach (e :: es) X.env = (false, eval e X.env) :: starEach es X.env := by rfl) (hpl : (backTo pos (starEach es X.env)).any (·.1) = false := by rfl) : PE X (.Call (.Name x p) (e :: es) [] pos) (rdE K w W (dcall f da) k) :=
  PE_weak (pe_callTy hc hg hm hv ha hn hdb he hpl) (rdE_cb hd)
theorem e_callM {id : String} (hc : CallR X (.builtin id) r) (hd : CallD K r f k) (hm : X.mg x = some (.builtin id)) (ha : PA X (e :: es) (rdA K w W da)) (hg : Gl X x := by rfl) (hdb : (x == ("__debug__" : Str)) = false := by decide)
    (he : starEach (e :: es) X.env = (false, eval e X.env) :: starEach es X.env := by rfl) (hpl : (backTo pos (starEach es X.env)).any (·.1) = false := by rfl) : PE X (.Call (.Name x p) (e :: es) [] pos) (rdE K w W (dcall f da) k) :=
  PE_weak (pe_callBfun hc hg hm ha hdb he hpl) (rdE_cb hd)
/-- isinstance(x, T), T a built-in class -/
theorem tyN_boot (t : Ty) {n : Str} (h : bootBuiltins n = some (.type (tyN t))) (hm : X.mg n = none) (hg : Gl X n) (hn : n ≠ "__name__" := by decide) (hd : (n == ("__debug__" : Str)) = false := by decide) : PE X (.Name n p) (tC (.ty (tyN t))) := pe_bltn hg hm h rfl hn hd
theorem e_isi (t : Ty) {n : Str} {d : Env → Res D} {p2 : Pos} (hb : bootBuiltins n = some (.type (tyN t))) (hm : X.mg n = none) (hmi : X.mg "isinstance" = none) (ha : PE X a (rdE K w W d .z)) (hg : Gl X n := by rfl) (hgi : Gl X "isinstance" := by rfl) (hn : n ≠ "__name__" := by decide) (hdb : (n == ("__debug__" : Str)) = false := by decide)
    (he : starEach (a :: [.Name n p2]) X.env = (false, eval a X.env) :: starEach [.Name n p2] X.env := by rfl) (he2 : starEach (.Name n p2 :: []) X.env = (false, eval (.Name n p2) X.env) :: starEach [] X.env := by rfl) (hpl : (backTo pos (starEach [.Name n p2] X.env)).any (·.1) = false := by rfl) (hK : X.K = K := by rfl) :
    PE X (.Call (.Name "isinstance" p) [a, .Name n p2] [] pos) (rdE K w W (d1 (fun v => bIsi t [v]) d) .z) := by
  subst hK
  refine PE_weak (pe_callB call_isi hgi hmi boot_isinstance (pa_cons ha (pa_cons (tyN_boot t hb hm hg hn hdb) pa_nil he2) he) (by decide) (by decide) he hpl) fun σ H Q ⟨B, env, fp, R, h⟩ => rdE_then R h fun d v H1 B1 _ g1 R1 r1 h1 => ?_
  obtain ⟨hp, h1⟩ := AfE.iff (show AfE X.K W .z B1 σ H1 Q (if plainD d = true then _ else _) from h1)
  exact ⟨v, .ty (tyN t), _, _, _, rfl, .ty _, r1.tyX R1.s hp, kit_ty (kit_isTy t d hp), AfE.val R1.s h1 (.bl _)⟩
end

/-! ### a def's promise -/
def spD (K : Fr) (n : Nat) (f : List D → Res D) (k : Ow) : Sp := fun vs H Q E => ∃ B ds, Ex B H ∧ Reps K B vs ds ∧ ds.length = n ∧ AfE K (fun cls d _ H' => E cls d H') k B [] H Q (f ds)
/-- a def by its name -/
structure Fn (P : Program) (wd : World) (K : Fr) (mg : Str → Option Value) (base : Heap) (kl : Nat) (x : Str) (n : Nat) (dvs : List D) (f : List D → Res D) (k : Ow) : Prop where
  ex : ∃ fa fd ps dV us, mg x = some (.ref fa) ∧ PySem.W.keepIn K (.ref fa) = true ∧ Binds K fd ps us ∧ Vals dV us ∧ (∀ B, Reps K B dV dvs) ∧ FnOk P wd K mg base (L2.CX P wd) kl fa fd ps (spD K n f k)
theorem AfE.sl {K : Fr} {W : WX} {k : Ow} {B H : Hp} {σ : L2.St} {Q : VK} : ∀ {r : Res D}, AfE K W k B σ H Q r → AfE K (fun cls d _ H' => W cls d σ H') k B [] H Q r
  | .ok _, h => h
  | .exc _ _, h => h
  | .bad, h => h
section
variable {X : Cx} {K : Fr} {W : WX} {w w' : List Ow} {k : Ow} {e a b : Expr} {es : List Expr} {da : Env → Res (List D)} {f : List D → Res D} {x : Str} {p pos apos : Pos} {kl n : Nat} {dvs : List D}
def withD (n : Nat) (dvs : List D) (f : List D → Res D) : List D → Res D := fun ds => if (ds ++ dvs).length = n then f (ds ++ dvs) else .bad
theorem e_call (F : Fn X.prog X.w X.K X.mg X.base kl x n dvs f k) (hr : Room kl X.A) (tk : Takes X W) (ha : PA X (e :: es) (rdA K w W da)) (hK : X.K = K := by rfl) (hg : Gl X x := by rfl) (hdb : (x == ("__debug__" : Str)) = false := by decide)
    (he : starEach (e :: es) X.env = (false, eval e X.env) :: starEach es X.env := by rfl) (hpl : (backTo pos (starEach es X.env)).any (·.1) = false := by rfl) : PE X (.Call (.Name x p) (e :: es) [] pos) (rdE K w W (dcall (withD n dvs f) da) k) := by
  subst hK
  obtain ⟨fa, fd, ps, dV, us, hm, hk, hb, hv, hr', F⟩ := F.ex
  refine PE_weak (pe_callSD (E := WE W) F hr hg hm hk hb hv (fun σ => passAt tk σ) ha hdb he hpl) fun σ H Q ⟨B, env, fp, R, h⟩ => rdA_then R h fun ds vs H1 B1 _ g1 R1 r1 h1 => ?_
  obtain ⟨hl, h1⟩ := AfE.iff h1
  exact ⟨B1, ds ++ dvs, R1.s, r1.append (hr' B1), hl, AfE.sl h1⟩

/-! ### methods -/
structure Mt (P : Program) (wd : World) (K : Fr) (mg : Str → Option Value) (base : Heap) (kl : Nat) (c m : Str) (n : Nat) (dvs : List D) (f : List D → Res D) (k : Ow) : Prop where
  ex : ∃ fa fd ps dV us, Cls K (He.ga K c) ∧ Meth K (He.ga K c) m fa ∧ Binds K fd ps us ∧ Vals dV us ∧ (∀ B, Reps K B dV dvs) ∧ FnOk P wd K mg base (L2.CX P wd) kl fa fd ps (spD K n f k)
def methK (c m : Str) (g : D → Res D) : D → Res D
  | .ins c' fs => if c' = c ∧ fs.lookup m = none then g (.ins c' fs) else .bad
  | _ => .bad
def dmeth (c m : Str) (n : Nat) (dvs : List D) (f : List D → Res D) (a : Env → Res D) (da : Env → Res (List D)) : Env → Res D := fun env => (a env).bind (methK c m fun o => (da env).bind fun ds => withD n dvs f (o :: ds))
variable {o : Expr} {a : Env → Res D} {c m : Str}
theorem AfE.me {B H : Hp} {σ : L2.St} {Q : VK} {g : D → Res D} {v : V} {d : D} (r : Rep K B v d) (h : AfE K W k B σ H Q (methK c m g d)) :
    ∃ x dx fvs fs, v = .ref x ∧ d = .ins c fs ∧ B x = some (.ins (He.ga K c) dx fvs) ∧ RepF K B fvs fs ∧ fvs.lookup m = none ∧ AfE K W k B σ H Q (g (.ins c fs)) := by
  cases r with
  | @ins x dx c' fvs fs hx rf =>
    obtain ⟨⟨e1, e2⟩, h2⟩ := AfE.iff (show AfE K W k B σ H Q (if c' = c ∧ fs.lookup m = none then g (.ins c' fs) else .bad) from h)
    cases e1
    exact ⟨x, dx, fvs, fs, rfl, rfl, hx, rf, rf.lookup_none e2, h2⟩
  | _ => exact h.elim
def tMethS (C : Addr) (m : Str) (sp : Sp) (dvs : List V) (E : L2.St → XK) (ta : TE) (t : TA) : TE := fun σ H Q => ta σ H fun x H1 => ∃ a dx fs, x = .ref a ∧ H1 a = some (.ins C dx fs) ∧ fs.lookup m = none ∧ t σ H1 fun vs H2 => sp (x :: (vs ++ dvs)) H2 Q (E σ)
theorem pe_methSD {CX : CXT} {C f : Addr} {fd : FuncData} {ps : List Str} {sp : Sp} {dV : List V} {us : List Value} {E : L2.St → XK} {ta : TE} {t : TA} {pl : Sem Bool} (he : PE X o ta) (c : Cls X.K C) (hm : Meth X.K C m f) (F : FnOk X.prog X.w X.K X.mg X.base CX kl f fd ps sp)
    (hr : Room kl X.A) (hb : Binds X.K fd ps us) (hd : Vals dV us) (hx : ∀ σ, PassesAt CX X σ (E σ)) (ha : PA X (e :: es) t) (hst : starEach (e :: es) X.env = (false, eval e X.env) :: starEach es X.env) (hpl : (backTo pos (starEach es X.env)).any (·.1) = false)
    (ht : eval (.Call (.Attribute o m apos) (e :: es) [] pos) X.env = (do
      let ov ← eval o X.env
      standAt apos.atName
      let (f, first) ← holding [ov] (getMethod ov m pl)
      callWith pos f first (backTo pos (starEach (e :: es) X.env)) (backToKw pos (keywordEach [] X.env)))) : PE X (.Call (.Attribute o m apos) (e :: es) [] pos) (tMethS C m sp dV E ta t) :=
  ⟨fun pins s σ H Q I h => PySem.W.methodCall_KW (pl := pl) (thn (he.run pins s σ H _ I h) fun u s1 ⟨x, H1, I1, rx, a, dx, fs, ex, ea, l, q⟩ => by
    subst ex
    obtain rfl : u = Value.ref a := rx
    exact getmeth_ok I1 ea c hm l (PySem.W.callWith_K (first := [.ref a]) (h₀ := X.base) I.ok.mod.kin hm.kp (thn (ha.run pos pins s1 σ H1 _ I1 q) fun us s2 ⟨vs, H2, I2, r, q2⟩ => ⟨I2.kIn, run_fnSD (us := .ref a :: us) (vs := .ref a :: vs) F hr hb hd (hx σ) I2 (.cons rfl r) q2⟩) hst hpl)) ht⟩
theorem pe_methSD0 {CX : CXT} {C f : Addr} {fd : FuncData} {ps : List Str} {sp : Sp} {dV : List V} {us : List Value} {E : L2.St → XK} {ta : TE} {pl : Sem Bool} (he : PE X o ta) (c : Cls X.K C) (hm : Meth X.K C m f) (F : FnOk X.prog X.w X.K X.mg X.base CX kl f fd ps sp)
    (hr : Room kl X.A) (hb : Binds X.K fd ps us) (hd : Vals dV us) (hx : ∀ σ, PassesAt CX X σ (E σ))
    (ht : eval (.Call (.Attribute o m apos) [] [] pos) X.env = (do
      let ov ← eval o X.env
      standAt apos.atName
      let (f, first) ← holding [ov] (getMethod ov m pl)
      callWith pos f first (backTo pos (starEach [] X.env)) (backToKw pos (keywordEach [] X.env)))) : PE X (.Call (.Attribute o m apos) [] [] pos) (tMethS C m sp dV E ta tNil) :=
  ⟨fun pins s σ H Q I h => PySem.W.methodCall_KW (pl := pl) (thn (he.run pins s σ H _ I h) fun u s1 ⟨x, H1, I1, rx, a, dx, fs, ex, ea, l, q⟩ => by
    subst ex
    obtain rfl : u = Value.ref a := rx
    exact getmeth_ok I1 ea c hm l (PySem.W.callWith_K0 (first := [.ref a]) I1.kIn hm.kp (run_fnSD (us := [.ref a]) (vs := [.ref a]) F hr hb hd (hx σ) I1 (.cons rfl .nil) q))) ht⟩
theorem rdE_meth {sp : Sp} {dV : List V} {us : List Value} (hsp : sp = spD K n f k) (hr' : ∀ B, Reps K B dV dvs) : ∀ σ H Q, rdE K w W (dmeth c m n dvs f a da) k σ H Q → tMethS (He.ga K c) m sp dV (WE W) (rdE K w W a .z) (rdA K w W da) σ H Q := fun σ H Q ⟨B, env, fp, R, h⟩ => rdE_then R h fun d v H1 B1 _ g1 R1 r1 h1 => by
  obtain ⟨x, dx, fvs, fs, e1, e2, hx, rf, hl, h1⟩ := AfE.me r1 h1
  refine ⟨x, dx, fvs, e1, R1.s _ _ hx, hl, rdA_then R1 h1 fun ds vs H2 B2 _ g2 R2 r2 h2 => ?_⟩
  obtain ⟨hn, h2⟩ := AfE.iff h2
  rw [hsp]
  rw [e2] at r1
  exact ⟨B2, _, R2.s, .cons (r1.mono g2.b) (r2.append (hr' B2)), hn, AfE.sl h2⟩
theorem e_meth {pl : Sem Bool} (F : Mt X.prog X.w X.K X.mg X.base kl c m n dvs f k) (hr : Room kl X.A) (tk : Takes X W) (ho : PE X o (rdE K w W a .z)) (ha : PA X (e :: es) (rdA K w W da)) (hK : X.K = K := by rfl)
    (hst : starEach (e :: es) X.env = (false, eval e X.env) :: starEach es X.env := by rfl) (hpl : (backTo pos (starEach es X.env)).any (·.1) = false := by rfl)
    (ht : eval (.Call (.Attribute o m apos) (e :: es) [] pos) X.env = (do
      let ov ← eval o X.env
      standAt apos.atName
      let (f, first) ← holding [ov] (getMethod ov m pl)
      callWith pos f first (backTo pos (starEach (e :: es) X.env)) (backToKw pos (keywordEach [] X.env))) := by rfl) : PE X (.Call (.Attribute o m apos) (e :: es) [] pos) (rdE K w W (dmeth c m n dvs f a da) k) := by
  subst hK
  obtain ⟨fa, fd, ps, dV, us, hc, hm, hb, hv, hr', F⟩ := F.ex
  exact PE_weak (pe_methSD (E := WE W) ho hc hm F hr hb hv (fun σ => passAt tk σ) ha hst hpl ht) (rdE_meth (us := us) rfl hr')
theorem e_meth0 {pl : Sem Bool} (F : Mt X.prog X.w X.K X.mg X.base kl c m n dvs f k) (hr : Room kl X.A) (tk : Takes X W) (ho : PE X o (rdE K w W a .z)) (hK : X.K = K := by rfl)
    (ht : eval (.Call (.Attribute o m apos) [] [] pos) X.env = (do
      let ov ← eval o X.env
      standAt apos.atName
      let (f, first) ← holding [ov] (getMethod ov m pl)
      callWith pos f first (backTo pos (starEach [] X.env)) (backToKw pos (keywordEach [] X.env))) := by rfl) : PE X (.Call (.Attribute o m apos) [] [] pos) (rdE K w W (dmeth c m n dvs f a dnil) k) := by
  subst hK
  obtain ⟨fa, fd, ps, dV, us, hc, hm, hb, hv, hr', F⟩ := F.ex
  refine PE_weak (pe_methSD0 (E := WE W) ho hc hm F hr hb hv (fun σ => passAt tk σ) ht) fun σ H Q ⟨B, env, fp, R, h⟩ => rdE_then R h fun d v H1 B1 _ g1 R1 r1 h1 => ?_
  obtain ⟨x, dx, fvs, fs, e1, e2, hx, rf, hl, h1⟩ := AfE.me r1 h1
  refine ⟨x, dx, fvs, e1, R1.s _ _ hx, hl, ?_⟩
  obtain ⟨hn, h2⟩ := AfE.iff (show AfE X.K W k B1 σ H1 Q (if (.ins c fs :: ([] ++ dvs) : List D).length = n then _ else _) from h1)
  rw [e2] at r1
  exact ⟨B1, _, R1.s, .cons r1 (hr' B1), hn, AfE.sl h2⟩

/-! ### classes made -/
structure GrX (x : Addr) (B H B' H' : Hp) : Prop where
  b : Ex B B'
  h : ∀ a o, a ≠ x → H a = some o → H' a = some o
  s : Ex B' H'
  f : ∀ a, a ≠ x → H a ≠ none → B' a = B a
def AfI (K : Fr) (W : WX) (x : Addr) (c : Str) (B : Hp) (σ : L2.St) (H : Hp) (Q : VK) : Res (List (Str × D)) → Prop
  | .ok fs => ∀ H' B' dx fvs, GrX x B H B' H' → B' x = none → H' x = some (.ins (He.ga K c) dx fvs) → RepF K B' fvs fs → Q .non H'
  | .exc e gs => ∀ H' B' dct, GrX x B H B' H' → ExcRep K B' H' dct gs → W (.ref (He.ga K e)) dct σ H'
  | .bad => False
/-- __init__'s promise -/
def mkD (c : Str) (n : Nat) (dvs : List D) (f : List D → Res (List (Str × D))) : List D → Res D := fun ds => if (ds ++ dvs).length = n then (f (ds ++ dvs)).bind fun fs => .ok (.ins c fs) else .bad
def spI (K : Fr) (c : Str) (n : Nat) (f : List D → Res (List (Str × D))) : Sp := fun vs H Q E => ∃ B ds x dx us, vs = .ref x :: us ∧ H x = some (.ins (He.ga K c) dx []) ∧ B x = none ∧ Ex B H ∧ Reps K B us ds ∧ ds.length = n ∧ AfI K (fun cls d _ H' => E cls d H') x c B [] H Q (f ds)
structure Mc (P : Program) (wd : World) (K : Fr) (mg : Str → Option Value) (base : Heap) (kl : Nat) (c : Str) (n : Nat) (dvs : List D) (f : List D → Res (List (Str × D))) : Prop where
  ex : ∃ fa fd ps dV us, mg c = some (.ref (He.ga K c)) ∧ Mk K (He.ga K c) fa ∧ Binds K fd ps us ∧ Vals dV us ∧ (∀ B, Reps K B dV dvs) ∧ FnOk P wd K mg base (L2.CX P wd) kl fa fd ps (spI K c n f)
def tMakeS (C : Addr) (sp : Sp) (dvs : List V) (E : L2.St → XK) (t : TA) : TE := fun σ H Q => t σ H fun vs H1 => ∀ x dx, H1 x = none → H1 dx = none → dx ≠ x → sp (.ref x :: (vs ++ dvs)) (upd (upd H1 dx (.own x)) x (.ins C dx [])) (fun v H2 => v = .non ∧ Q (.ref x) H2) (E σ)
theorem pe_makeSD {CX : CXT} {C f : Addr} {fd : FuncData} {ps : List Str} {sp : Sp} {dV : List V} {us : List Value} {E : L2.St → XK} {t : TA} (M : L2.Mk X.K C f) (F : FnOk X.prog X.w X.K X.mg X.base CX kl f fd ps sp) (hr : Room (kl + 1) X.A) (hg : Gl X x) (hm : X.mg x = some (.ref C))
    (hb : Binds X.K fd ps us) (hd : Vals dV us) (hx : ∀ σ, PassesAt CX X σ (E σ)) (ha : PA X (e :: es) t) (hdb : (x == ("__debug__" : Str)) = false) (he : starEach (e :: es) X.env = (false, eval e X.env) :: starEach es X.env) (hpl : (backTo pos (starEach es X.env)).any (·.1) = false) :
    PE X (.Call (.Name x p) (e :: es) [] pos) (tMakeS C sp dV E t) := ⟨fun pins s σ H Q I h => wpAny_Call_Name_kw (ld_glob I hg hm (PySem.W.callWith_K (h₀ := X.base) I.ok.mod.kin M.kp (thn (ha.run pos pins s σ H _ I h) fun ws s1 ⟨vs, H1, I1, r, q⟩ => ⟨I1.kIn, by
    have hq := q (s1.heap.objs.size + 1) s1.heap.objs.size (I1.hok.fresh (Nat.le_succ _)) (I1.hok.fresh (Nat.le_refl _)) (Nat.ne_of_lt (Nat.lt_succ_self _))
    have I2 := Inv.made (C := C) I1
    have r2 : Vals (V.ref (s1.heap.objs.size + 1) :: (vs ++ dV)) (Value.ref (s1.heap.objs.size + 1) :: (ws ++ us)) := .cons rfl (r.append hd)
    have hl : (Value.ref (s1.heap.objs.size + 1) :: ws ++ us).length = ps.length := (F.len _ _ _ _ hq ▸ r2.length).symm
    refine wpAny_call (make_map (f := f) I1.kIn M.makes M.init (beq_iff_eq.mp M.fn) (codeAny_mono (F.run _ X.stack _ _ ⟨Value.ref (s1.heap.objs.size + 1) :: ws, []⟩ (Value.ref (s1.heap.objs.size + 1) :: (ws ++ us)) _ _ (E σ) (hr.make C ws [])
      (I2.env0.make C ws []) (hb _ (Value.ref (s1.heap.objs.size + 1) :: ws) I2.kIn hl) r2 hq) fun rr s' hq' => ?_))
    cases rr with
    | error e => exact hx σ pins _ _ e s' I2 hq'
    | ok fl =>
      cases fl with
      | ret u =>
        obtain ⟨v, H', I3, rv, ev, q3⟩ := I2.after hq'
        subst ev
        exact ⟨rv, ⟨V.ref (s1.heap.objs.size + 1), H', I3, rfl, q3⟩⟩
      | next => exact False.elim hq'
      | brk => exact False.elim hq'
      | cont => exact False.elim hq'⟩) he hpl) hdb)⟩
/-- the class's instances, made: f gives the fields -/
theorem e_make {f : List D → Res (List (Str × D))} (F : Mc X.prog X.w X.K X.mg X.base kl c n dvs f) (hr : Room (kl + 1) X.A) (tk : Takes X W) (ha : PA X (e :: es) (rdA K w W da)) (hK : X.K = K := by rfl) (hg : Gl X c := by rfl) (hdb : (c == ("__debug__" : Str)) = false := by decide)
    (he : starEach (e :: es) X.env = (false, eval e X.env) :: starEach es X.env := by rfl) (hpl : (backTo pos (starEach es X.env)).any (·.1) = false := by rfl) : PE X (.Call (.Name c p) (e :: es) [] pos) (rdE K w W (dcall (mkD c n dvs f) da) .i) := by
  subst hK
  obtain ⟨fa, fd, ps, dV, us, hm, M, hb, hv, hr', F⟩ := F.ex
  refine PE_weak (pe_makeSD (E := WE W) M F hr hg hm hb hv (fun σ => passAt tk σ) ha hdb he hpl) fun σ H Q ⟨B, env, fp, R, h⟩ => rdA_then R h fun ds vs H1 B1 _ g1 R1 r1 h1 x dx hx hdx ne => ?_
  obtain ⟨hl, h1⟩ := AfE.iff h1
  have bx : B1 x = none := R1.s.back hx
  have old : ∀ a o, H1 a = some o → (upd (upd H1 dx (.own x)) x (.ins (He.ga X.K c) dx [])) a = some o := fun a o ea => by
    rw [upd_ne (ne_of_none ea hx), upd_ne (ne_of_none ea hdx)]; exact ea
  have hl' : ∀ a, H1 a ≠ none → (upd (upd H1 dx (.own x)) x (.ins (He.ga X.K c) dx [])) a ≠ none := fun a ha z => ha (by
    cases q : H1 a with
    | none => rfl
    | some o => rw [old a o q] at z; cases z)
  have key : Reps X.K B1 (vs ++ dV) (ds ++ dvs) := r1.append (hr' B1)
  refine ⟨B1, ds ++ dvs, x, dx, vs ++ dV, rfl, upd_same, bx, fun a o ea => old a o (R1.s a o ea), key, hl, ?_⟩
  have grow : ∀ {H' B' : Hp}, GrX x B1 (upd (upd H1 dx (.own x)) x (.ins (He.ga X.K c) dx [])) B' H' → Gr B1 H1 B' H' := fun {H' B'} g => ⟨g.b, fun a o ea => g.h a o (ne_of_none ea hx) (old a o ea), g.s, fun a ha => g.f a (fun z => ha (by rw [z]; exact hx)) (hl' a ha)⟩
  cases e : f (ds ++ dvs) with
  | ok fs =>
    rw [e] at h1
    exact fun H' B' dx' fvs g bx' hx' rf => ⟨rfl, h1 (.ref x) H' B' [x] (grow g) ⟨x, dx', fvs, c, fs, rfl, rfl, hx', rf, rfl⟩ (by simp) fun a ha => by
      have q : a = x := by simpa using ha
      subst q
      exact ⟨hx, bx'⟩⟩
  | exc e gs => rw [e] at h1; exact fun H' B' dct g r => h1 H' B' dct (grow g) r
  | bad => rw [e] at h1; exact h1.elim
end
end Fz
set_option Elab.async false
set_option linter.all false
set_option maxRecDepth 100000
set_option maxHeartbeats 4000000
/-! Functionalization: what loops walk. -/
namespace Fz
open PySem PySem.Spec PyProof.Rows L2

/-! ### a list or a tuple, told by a truth -/
def SqA (K : Fr) (H : Hp) (a : Addr) (b : Bool) (xs : List V) : Prop := if b then SqL K H a xs else SqT K H a xs
def IsIt (h : Heap) (it a : Addr) (b : Bool) (i : Nat) : Prop := if b then h.IsListIter it a i else h.IsTupleIter it a i
def IsSq (h : Heap) (a : Addr) (b : Bool) (its : Array Value) : Prop := if b then h.IsList a its else h.IsTuple a its
theorem SqA.mono {K : Fr} {H H' : Hp} {a : Addr} {b : Bool} {xs : List V} (e : Ex H H') (h : SqA K H a b xs) : SqA K H' a b xs := by
  cases b with
  | true => exact e.sl (show SqL K H a xs from h)
  | false => exact e.st (show SqT K H a xs from h)
section
variable {X : Cx} {pins : List (Addr × Obj)} {σ : L2.St} {H : Hp} {s : Shared} {a : Addr} {b : Bool} {xs ys : List V}
theorem Inv_sq (I : Inv X pins σ H s) (h : SqA X.K H a b xs) : ∃ its : List Value, Vals xs its ∧ IsSq s.heap a b its.toArray ∧ xs.length ≤ sizeLine := by
  cases b with
  | true =>
    obtain ⟨its, rv, p, z⟩ := I.list (show SqL X.K H a xs from h)
    exact ⟨its, rv, p.isList, z⟩
  | false =>
    obtain ⟨its, rv, p, z⟩ := I.tuple (show SqT X.K H a xs from h)
    exact ⟨its, rv, p, z⟩
theorem Inv_sqInj (I : Inv X pins σ H s) (h : SqA X.K H a b xs) (h' : SqA X.K H a b ys) : xs = ys := by
  cases b with
  | true => exact I.list_inj (show SqL X.K H a xs from h) (show SqL X.K H a ys from h')
  | false => exact I.tuple_inj (show SqT X.K H a xs from h) (show SqT X.K H a ys from h')
end
theorem IsSq.lt {h : Heap} {a : Addr} {b : Bool} {its : Array Value} (x : IsSq h a b its) : a < h.objs.size := by
  cases b with
  | true => obtain ⟨_, e, _⟩ := (show h.IsList a its from x); exact Heap.lt_size e
  | false => obtain ⟨_, e, _⟩ := (show h.IsTuple a its from x); exact Heap.lt_size e
theorem IsIt.obj {h : Heap} {it a : Addr} {b : Bool} {i : Nat} (x : IsIt h it a b i) : ∃ o, h.get? it = some o ∧ ∀ v, o.data ≠ .cell v := by
  cases b with
  | true => obtain ⟨o, e, _, d⟩ := (show h.IsListIter it a i from x); exact ⟨o, e, fun v q => by rw [d] at q; cases q⟩
  | false => obtain ⟨o, e, _, d⟩ := (show h.IsTupleIter it a i from x); exact ⟨o, e, fun v q => by rw [d] at q; cases q⟩
theorem IsIt.at' {h h' : Heap} {it a : Addr} {b : Bool} {i : Nat} (x : IsIt h it a b i) (k : ∀ o, h.get? it = some o → h'.get? it = some o) : IsIt h' it a b i := by
  cases b with
  | true => exact (show h.IsListIter it a i from x).at k
  | false => exact (show h.IsTupleIter it a i from x).at k
theorem draws_sq {prog : Program} {w : World} {A : Around} (hh : A.handled = none) (it l : Addr) (b : Bool) (hne : l ≠ it) (items : Array Value) :
    Draws prog w A it [it, l] items.size (fun i v => items[i]? = some v) (fun i h => IsIt h it l b i ∧ IsSq h l b items) := by
  cases b with
  | true => exact Draws.list hh it l hne items
  | false => exact Draws.tuple hh it l hne items
def itObj (l : Addr) (b : Bool) : Obj := { cls := .type (if b then "list_iterator" else "tuple_iterator"), data := .fields #[.ref l, .int 0 0] }
theorem begins_sq (l : Addr) (b : Bool) (items : Array Value) : Begins (.ref l) (itObj l b) fun h => IsSq h l b items := by
  cases b with
  | true => exact begins_list l items
  | false => exact begins_tuple l items
theorem IsIt.new {h : Heap} {it l : Addr} {b : Bool} (e : h.get? it = some (itObj l b)) : IsIt h it l b 0 := by
  cases b with
  | true => exact ⟨_, e, rfl, rfl⟩
  | false => exact ⟨_, e, rfl, rfl⟩
set_option maxHeartbeats 1000000 in
theorem meets_enum1 {v : Value} {o : Obj} {H : Heap → Prop} (B : Begins v o H) :
    Meets (Builtin.«enumerate.__new__» ⟨[.type "enumerate", v], []⟩) (fun _ R s => H s.heap ∧
      R (.ok (.ret (.ref (s.heap.push o).objs.size))) { s with heap := (s.heap.push o).push { cls := .type "enumerate", data := .fields #[.none, .bool false, .ref s.heap.objs.size, rawInt 0, .none, .none] } }) :=
  .of_wp fun prog w A R s h => by
    obtain ⟨hp, g, d, tk, os⟩ := s; obtain ⟨h1, h⟩ := h
    have hsub := sub_enumerate
    have q1 : ∀ {A' : Around} {E : Value → Shared → Prop} {Q : Value → Shared → Prop}, Q (.ref hp.objs.size) ⟨hp.push o, g, d, tk, os⟩ → wpAny (model prog w) A' (pyIter v) Q E ⟨hp, g, d, tk, os⟩ :=
      fun q => B.iter prog w _ _ ⟨hp, g, d, tk, os⟩ _ h1 q
    wp_walk using q1
    refine wpAny_stack_any fun st => wpAny_pure ?_
    split
    · rename_i c _ _ _ _ _
      cases (c == Value.type "enumerate")
      · wp_walk using q1
        exact ⟨_, rfl, h⟩
      · wp_walk using q1
        exact ⟨_, rfl, h⟩
    · wp_walk using q1
      exact ⟨_, rfl, h⟩
theorem call_enum1 {prog : Program} {w : World} {A : Around} {E : Value → Shared → Prop} {s : Shared} {v : Value} {o : Obj} {H : Heap → Prop} {Q : Value → Shared → Prop} (B : Begins v o H) (h1 : H s.heap)
    (h : ∀ h', IsEnum h' (s.heap.objs.size + 1) s.heap.objs.size 0 .none → h'.get? s.heap.objs.size = some o → h'.objs.size = s.heap.objs.size + 2 →
      (∀ b o, s.heap.get? b = some o → h'.get? b = some o) → Q (.ref (s.heap.objs.size + 1)) { s with heap := h' }) :
    wpAny (model prog w) A (call (.type "enumerate") [v]) Q E s := by
  refine callType_new F.called_enumerate (by decide) (F.typeCall_enumerate_1 _) (F.newCall_enumerate_1 _) (fun obj => F.args_object_init_2 obj _) F.entry_enumerate_new (meets_enum1 B) ⟨h1, ?_⟩
  have hz : (s.heap.push o).objs.size = s.heap.objs.size + 1 := Heap.size_push ..
  show _ ∧ _
  rw [hz]
  have he : IsEnum ((s.heap.push o).push { cls := .type "enumerate", data := .fields #[.none, .bool false, .ref s.heap.objs.size, rawInt 0, .none, .none] }) (s.heap.objs.size + 1) s.heap.objs.size 0 .none := by
    have q := Heap.get?_push_size (s.heap.push o) (o := { cls := .type "enumerate", data := .fields #[.none, .bool false, .ref s.heap.objs.size, rawInt 0, .none, .none] }) rfl
    rw [hz] at q; exact q
  exact ⟨⟨_, he, rfl⟩, h _ he (Heap.get?_push_of_some _ (Heap.get?_push_size _ B.free)) (by rw [Heap.size_push, hz]) fun b o x => Heap.get?_push_of_some _ (Heap.get?_push_of_some _ x)⟩

/-! ### enumerate, zip over any of the two -/
def ItE (K : Fr) (a : Addr) (b : Bool) : It :=
  ⟨fun i H => ∃ xs x, SqA K H a b xs ∧ xs[i]? = some x, fun i H v H' => ∃ T x, v = .ref T ∧ H T = none ∧ H' = upd H T (.tup [.int (i : Nat), x]) ∧ ∀ xs, SqA K H a b xs → xs[i]? = some x, fun i H => ∃ xs, SqA K H a b xs ∧ xs.length = i⟩
theorem turnE {P : Program} {w : World} {K : Fr} {elts : List Expr} {kk : Nat} {tpos : Pos} (a : Addr) (b : Bool) (e it : Addr) :
    Turn P w K (.Tuple elts kk tpos) (ItE K a b) [e, it] e (fun i h => (∃ old, IsEnum h e it ((0 : Int) + (i : Int)) old) ∧ IsIt h it a b i ∧ e ≠ it ∧ a ≠ it ∧ a ≠ e) where
  mem := by simp
  obj := fun i h st c hc => by
    obtain ⟨⟨old, he⟩, hi, _⟩ := st
    have q : c = e ∨ c = it := by simpa using hc
    rcases q with q | q
    · rw [q]; exact ⟨_, he, fun v z => nomatch z⟩
    · rw [q]; exact hi.obj
  keep := fun i h h' st k => let ⟨⟨old, he⟩, hi, hne⟩ := st; ⟨⟨old, k e (by simp) _ he⟩, hi.at' fun o q => k it (by simp) o q, hne⟩
  item := by
    intro X hP hw hK hc i pins s σ H E I hf st hg
    subst hP hw hK
    obtain ⟨⟨old, he⟩, hit, ne1, ne2, ne3⟩ := st
    obtain ⟨xs, x, hq, hx⟩ := hg
    obtain ⟨its, rv, p, hz⟩ := Inv_sq I hq
    obtain ⟨u, hu, ru⟩ := rv.get hx
    have G := GoesN.enumFrom (prog := X.prog) (w := X.w) (A := X.A) (elts := elts) (x1 := kk) (pos := tpos) 0 (draws_sq (prog := X.prog) (w := X.w) (A := X.A.in1) (I.ok.hd hc) it a b ne2 its.toArray) e ne1 (by simp; exact ⟨ne1, Ne.symm ne3⟩) (by simp)
    have hlt : i < its.toArray.size := by
      have := (List.getElem?_eq_some_iff.mp hu).1
      simpa using this
    refine G.goes i s _ _ hlt ⟨⟨old, he⟩, hit, p⟩ fun v h' tk hY st' hk _ => ?_
    obtain ⟨T, t, x', ev, hT, hx', hT'⟩ := hY
    obtain ⟨⟨old', he'⟩, hit', _⟩ := st'
    have ex : x' = u := by
      have q : its.toArray[i]? = some x' := hx'
      have q2 : its[i]? = some x' := by simpa using q
      rw [hu] at q2; exact (Option.some.inj q2).symm
    subst ex
    have e0 : (0 : Int) + (i : Int) = ((i : Nat) : Int) := Int.zero_add _
    have hn : H T = none := I.hok.fresh hT
    have new : ObjOk X.prog X.w (upd H T (.tup [.int (i : Nat), x])) h' T (.tup [.int (i : Nat), x]) :=
      ⟨by show 2 ≤ sizeLine; decide, [.int ((0 : Int) + (i : Int)) t, x'], .cons ⟨_, by rw [e0]⟩ (.cons ru .nil), hT'⟩
    have I1 : Inv X pins σ (upd H T (.tup [.int (i : Nat), x])) { s with heap := h', toks := tk } := I.turnedNew (ch := [e, it]) (fun c o hb q => hk c o hb q) hf hT new
    refine ⟨.ref T, _, I1, ev, ⟨T, x, rfl, hn, rfl, fun ys hy => by rw [Inv_sqInj I hy hq]; exact hx⟩, ⟨⟨old', he'⟩, hit', ne1, ne2, ne3⟩, fun c hcm => ?_⟩
    have hlt' : c < s.heap.objs.size := by
      have q : c = e ∨ c = it := by simpa using hcm
      rcases q with q | q
      · rw [q]; exact Heap.lt_size he
      · rw [q]; obtain ⟨_, z, _⟩ := hit.obj; exact Heap.lt_size z
    rw [upd_ne (Nat.ne_of_lt (Nat.lt_of_lt_of_le hlt' hT))]
    exact (hf c hcm).1
  done := by
    intro X hP hw hK hc i pins s σ H E I hf st hg
    subst hP hw hK
    obtain ⟨⟨old, he⟩, hit, ne1, ne2, ne3⟩ := st
    obtain ⟨xs, hq, hx⟩ := hg
    obtain ⟨its, rv, p, hz⟩ := Inv_sq I hq
    have hl := rv.length
    have G := GoesN.enumFrom (prog := X.prog) (w := X.w) (A := X.A) (elts := elts) (x1 := kk) (pos := tpos) 0 (draws_sq (prog := X.prog) (w := X.w) (A := X.A.in1) (I.ok.hd hc) it a b ne2 its.toArray) e ne1 (by simp; exact ⟨ne1, Ne.symm ne3⟩) (by simp)
    have hlt : i = its.toArray.size := by rw [List.size_toArray]; omega
    subst hlt
    exact wpAny_mono (G.stops s _ E ⟨⟨old, he⟩, hit, p⟩ fun h' tk hk _ => I.turnedL (ch := [e, it]) (fun c o hb q => hk c o hb q) hf) (fun r s1 h => h) fun _ _ z => z
  self := fun A i s Q E st h => let ⟨⟨_, he⟩, _⟩ := st; wpAny_pyIter_enum he h
def ItZ (K : Fr) (a : Addr) (b : Bool) (a2 : Addr) (b2 : Bool) : It :=
  ⟨fun i H => ∃ xs ys x y, SqA K H a b xs ∧ SqA K H a2 b2 ys ∧ xs[i]? = some x ∧ ys[i]? = some y,
   fun i H v H' => ∃ T x y, v = .ref T ∧ H T = none ∧ H' = upd H T (.tup [x, y]) ∧ (∀ xs, SqA K H a b xs → xs[i]? = some x) ∧ ∀ ys, SqA K H a2 b2 ys → ys[i]? = some y,
   fun i H => ∃ xs ys, SqA K H a b xs ∧ SqA K H a2 b2 ys ∧ min xs.length ys.length = i⟩
theorem turnZ {P : Program} {w : World} {K : Fr} {elts : List Expr} {kk : Nat} {tpos : Pos} (a : Addr) (b : Bool) (a2 : Addr) (b2 : Bool) {z TI TO i1 i2 : Addr} (S : ZipSep2 z TI TO i1 i2 [i1, a] [i2, a2]) (na : a ≠ i1) (na2 : a2 ≠ i2) :
    Turn P w K (.Tuple elts kk tpos) (ItZ K a b a2 b2) [z, TI, TO, i1, i2] z (fun i h => IsZip h z TI TO .none ∧ IsTupOf2 h TI (.ref i1) (.ref i2) ∧ (∃ x y, IsTupOf2 h TO x y) ∧ IsIt h i1 a b i ∧ IsIt h i2 a2 b2 i) where
  mem := by simp
  obj := fun i h st c hc => by
    obtain ⟨hz, hTI, ⟨x, y, hTO⟩, h1, h2⟩ := st
    have q : c = z ∨ c = TI ∨ c = TO ∨ c = i1 ∨ c = i2 := by simpa using hc
    rcases q with q | q | q | q | q
    · rw [q]; exact ⟨_, hz, fun v z => nomatch z⟩
    · rw [q]; exact ⟨_, hTI, fun v z => nomatch z⟩
    · rw [q]; exact ⟨_, hTO, fun v z => nomatch z⟩
    · rw [q]; exact h1.obj
    · rw [q]; exact h2.obj
  keep := fun i h h' st k => by
    obtain ⟨hz, hTI, ⟨x, y, hTO⟩, h1, h2⟩ := st
    exact ⟨k z (by simp) _ hz, k TI (by simp) _ hTI, ⟨x, y, k TO (by simp) _ hTO⟩, h1.at' fun o q => k i1 (by simp) o q, h2.at' fun o q => k i2 (by simp) o q⟩
  item := by
    intro X hP hw hK hc i pins s σ H E I hf st hg
    subst hP hw hK
    obtain ⟨hz, hTI, hTO, h1, h2⟩ := st
    obtain ⟨xs, ys, x, y, hq, hq2, hx, hy⟩ := hg
    obtain ⟨its, rv, p, _⟩ := Inv_sq I hq
    obtain ⟨its2, rv2, p2, _⟩ := Inv_sq I hq2
    obtain ⟨u, hu, ru⟩ := rv.get hx
    obtain ⟨u2, hu2, ru2⟩ := rv2.get hy
    have G := GoesN.zip2 (prog := X.prog) (w := X.w) (A := X.A) (elts := elts) (x1 := kk) (pos := tpos) S (draws_sq (prog := X.prog) (w := X.w) (A := X.A.in1) (I.ok.hd hc) i1 a b na its.toArray) (draws_sq (prog := X.prog) (w := X.w) (A := X.A.in1) (I.ok.hd hc) i2 a2 b2 na2 its2.toArray)
    have hlt : i < min its.toArray.size its2.toArray.size := by
      have q1 := (List.getElem?_eq_some_iff.mp hu).1
      have q2 := (List.getElem?_eq_some_iff.mp hu2).1
      simp only [List.size_toArray]
      omega
    refine G.goes i s _ _ hlt ⟨hz, hTI, hTO, ⟨h1, p⟩, h2, p2⟩ fun v h' tk hY st' hk _ => ?_
    obtain ⟨T, x', y', ev, hT, hx', hy', hT'⟩ := hY
    obtain ⟨hz', hTI', hTO', ⟨h1', _⟩, h2', _⟩ := st'
    have ex : x' = u := by
      have q : its.toArray[i]? = some x' := hx'
      have q2 : its[i]? = some x' := by simpa using q
      rw [hu] at q2; exact (Option.some.inj q2).symm
    have ey : y' = u2 := by
      have q : its2.toArray[i]? = some y' := hy'
      have q2 : its2[i]? = some y' := by simpa using q
      rw [hu2] at q2; exact (Option.some.inj q2).symm
    subst ex ey
    have hn : H T = none := I.hok.fresh hT
    have new : ObjOk X.prog X.w (upd H T (.tup [x, y])) h' T (.tup [x, y]) := ⟨by show 2 ≤ sizeLine; decide, [x', y'], .cons ru (.cons ru2 .nil), hT'⟩
    have I1 : Inv X pins σ (upd H T (.tup [x, y])) { s with heap := h', toks := tk } := I.turnedNew (ch := [z, TI, TO, i1, i2]) (fun c o hb q => hk c o (fun m => hb (by
      have m' : c = z ∨ c = TO ∨ c = i1 ∨ c = i2 := by simpa using m
      rcases m' with m | m | m | m <;> simp [m])) q) hf hT new
    refine ⟨.ref T, _, I1, ev, ⟨T, x, y, rfl, hn, rfl, fun l hl => by rw [Inv_sqInj I hl hq]; exact hx, fun l hl => by rw [Inv_sqInj I hl hq2]; exact hy⟩, ⟨hz', hTI', hTO', h1', h2'⟩, fun c hcm => ?_⟩
    have hlt' : c < s.heap.objs.size := by
      obtain ⟨x0, y0, hTO⟩ := hTO
      have q : c = z ∨ c = TI ∨ c = TO ∨ c = i1 ∨ c = i2 := by simpa using hcm
      rcases q with q | q | q | q | q
      · rw [q]; exact Heap.lt_size hz
      · rw [q]; exact Heap.lt_size hTI
      · rw [q]; exact Heap.lt_size hTO
      · rw [q]; obtain ⟨_, e, _⟩ := h1.obj; exact Heap.lt_size e
      · rw [q]; obtain ⟨_, e, _⟩ := h2.obj; exact Heap.lt_size e
    rw [upd_ne (Nat.ne_of_lt (Nat.lt_of_lt_of_le hlt' hT))]
    exact (hf c hcm).1
  done := by
    intro X hP hw hK hc i pins s σ H E I hf st hg
    subst hP hw hK
    obtain ⟨hz, hTI, hTO, h1, h2⟩ := st
    obtain ⟨xs, ys, hq, hq2, hx⟩ := hg
    obtain ⟨its, rv, p, _⟩ := Inv_sq I hq
    obtain ⟨its2, rv2, p2, _⟩ := Inv_sq I hq2
    have hl := rv.length
    have hl2 := rv2.length
    have G := GoesN.zip2 (prog := X.prog) (w := X.w) (A := X.A) (elts := elts) (x1 := kk) (pos := tpos) S (draws_sq (prog := X.prog) (w := X.w) (A := X.A.in1) (I.ok.hd hc) i1 a b na its.toArray) (draws_sq (prog := X.prog) (w := X.w) (A := X.A.in1) (I.ok.hd hc) i2 a2 b2 na2 its2.toArray)
    have hlt : i = min its.toArray.size its2.toArray.size := by rw [List.size_toArray, List.size_toArray]; omega
    subst hlt
    exact wpAny_mono (G.stops s _ E ⟨hz, hTI, hTO, ⟨h1, p⟩, h2, p2⟩ fun h' tk hk _ => I.turnedL (ch := [z, TI, TO, i1, i2]) (fun c o hb q => hk c o (fun m => hb (by
      have m' : c = z ∨ c = TO ∨ c = i1 ∨ c = i2 := by simpa using m
      rcases m' with m | m | m | m <;> simp [m])) q) hf) (fun r s1 h => h) fun _ _ z => z
  self := fun A i s Q E st h => wpAny_pyIter_zip st.1 h
section
variable {X : Cx}
def iEnumA (K : Fr) (ta : TA) : TI := fun σ H R => ta σ H fun vs H1 => ∃ a b xs, vs = [.ref a] ∧ SqA K H1 a b xs ∧ R (ItE K a b) H1
theorem pi_enumA {e : Expr} {ta : TA} {p pos tpos : Pos} {elts : List Expr} {kk : Nat} (hg : Gl X "enumerate") (hm : X.mg "enumerate" = none) (ha : PA X [e] ta) (hs : starEach [e] X.env = [(false, eval e X.env)] := by rfl) :
    PI X (.Tuple elts kk tpos) (.Call (.Name "enumerate" p) [e] [] pos) (iEnumA X.K ta) := ⟨fun pins s σ H R I h =>
  Call_ (ld_blt I hg hm boot_enumerate (PyProof.Rows.callWith_type1 (thn (ha.run pos pins s σ H _ I h) fun us s1 ⟨vs, H1, I1, r1, q1⟩ => by
    obtain ⟨a, b, xs, ex, hq, q⟩ := q1
    subst ex
    obtain ⟨u, rfl, ru⟩ := vals1 r1
    obtain rfl : u = Value.ref a := ru
    obtain ⟨its, rv, p', _⟩ := Inv_sq I1 hq
    refine call_enum1 (begins_sq a b its.toArray) p' fun h' he hit hsz hk => wpAny_pyIter_enum he ?_
    have hl := p'.lt
    refine ⟨s1.heap.objs.size + 1, [s1.heap.objs.size + 1, s1.heap.objs.size], _, _, H1, rfl, I1.kept (t' := s1.toks) hk, turnE a b (s1.heap.objs.size + 1) s1.heap.objs.size, ⟨⟨.none, he⟩, IsIt.new hit, Nat.succ_ne_self _, Nat.ne_of_lt hl, Nat.ne_of_lt (Nat.lt_succ_of_lt hl)⟩, fun c hc => ?_, q⟩
    have e' : c = s1.heap.objs.size + 1 ∨ c = s1.heap.objs.size := by simpa using hc
    have hle : s1.heap.objs.size ≤ c := by rcases e' with z | z <;> rw [z] <;> first | exact Nat.le_add_right _ _ | exact Nat.le_refl _
    exact I1.fpOk hle (I1.hok.fresh hle)) hs rfl))⟩
def iZipM (K : Fr) (ta : TA) : TI := fun σ H R => ta σ H fun vs H1 => ∃ a b a2 b2 xs ys, vs = [.ref a, .ref a2] ∧ SqA K H1 a b xs ∧ SqA K H1 a2 b2 ys ∧ R (ItZ K a b a2 b2) H1
theorem pi_zipM {e e2 : Expr} {ta : TA} {p pos tpos : Pos} {elts : List Expr} {kk : Nat} (hg : Gl X "zip") (hm : X.mg "zip" = none) (ha : PA X [e, e2] ta)
    (hs : starEach [e, e2] X.env = (false, eval e X.env) :: starEach [e2] X.env := by rfl) (hpl : (backTo pos (starEach [e2] X.env)).any (·.1) = false := by rfl) :
    PI X (.Tuple elts kk tpos) (.Call (.Name "zip" p) [e, e2] [] pos) (iZipM X.K ta) := ⟨fun pins s σ H R I h =>
  Call_ (ld_blt I hg hm PyProof.Rows.boot_zip (PyProof.Rows.callWith_type1 (thn (ha.run pos pins s σ H _ I h) fun us s1 ⟨vs, H1, I1, r1, q1⟩ => by
    obtain ⟨a, b, a2, b2, xs, ys, ex, hq, hq2, q⟩ := q1
    subst ex
    cases r1 with
    | cons r rr =>
      obtain ⟨u2, rfl, ru2⟩ := vals1 rr
      cases r
      obtain rfl : u2 = Value.ref a2 := ru2
      obtain ⟨its, rv, p1, _⟩ := Inv_sq I1 hq
      obtain ⟨its2, rv2, p2, _⟩ := Inv_sq I1 hq2
      refine zip_begins2 (begins_sq a b its.toArray) (begins_sq a2 b2 its2.toArray) p1 p2 fun h' hz hTI hTO h1 h2 hsz hk => wpAny_pyIter_zip hz ?_
      have l1 := p1.lt
      have l2 := p2.lt
      refine ⟨s1.heap.objs.size + 4, [s1.heap.objs.size + 4, s1.heap.objs.size + 2, s1.heap.objs.size + 3, s1.heap.objs.size, s1.heap.objs.size + 1], _, _, H1, rfl, I1.kept (t' := s1.toks) hk,
        turnZ a b a2 b2 (zip_sep2 (N := s1.heap.objs.size) (fp1 := [a]) (fp2 := [a2]) (fun c hc => by
          have z : c = a := by simpa using hc
          rw [z]; exact l1) fun c hc => by
          have z : c = a2 := by simpa using hc
          rw [z]; exact l2) (Nat.ne_of_lt l1) (Nat.ne_of_lt (Nat.lt_succ_of_lt l2)), ⟨hz, hTI, ⟨_, _, hTO⟩, IsIt.new h1, IsIt.new h2⟩, fun c hc => ?_, q⟩
      have e' : c = s1.heap.objs.size + 4 ∨ c = s1.heap.objs.size + 2 ∨ c = s1.heap.objs.size + 3 ∨ c = s1.heap.objs.size ∨ c = s1.heap.objs.size + 1 := by simpa using hc
      have hle : s1.heap.objs.size ≤ c := by rcases e' with z | z | z | z | z <;> rw [z] <;> first | exact Nat.le_add_right _ _ | exact Nat.le_refl _
      exact I1.fpOk hle (I1.hok.fresh hle)) hs hpl))⟩
end
end Fz
set_option Elab.async false
set_option linter.all false
set_option maxRecDepth 100000
set_option maxHeartbeats 4000000
/-! Functionalization: what is walked, by data; targets; comprehensions. -/
namespace Fz
open PySem PySem.Spec PyProof.Rows L2

/-! ### what is walked -/
structure Yl (K : Fr) (B : Hp) (J : It) (ds : List D) : Prop where
  go : ∀ i H, Ex B H → i < ds.length → J.go i H
  yld : ∀ i d H v H' B', Ex B B' → Ex B' H → ds[i]? = some d → J.yld i H v H' → ∃ B2, Gr B' H B2 H' ∧ Rep K B2 v d
  stop : ∀ H, Ex B H → J.stop ds.length H
def AfY (K : Fr) (W : WX) (B : Hp) (σ : L2.St) (H : Hp) (R : It → Hp → Prop) : Res (List D) → Prop
  | .ok ds => ∀ J H' B', Gr B H B' H' → Yl K B' J ds → R J H'
  | .exc c fs => ∀ H' B' dct, Gr B H B' H' → ExcRep K B' H' dct fs → W (.ref (He.ga K c)) dct σ H'
  | .bad => False
def rdI (K : Fr) (w : List Ow) (W : WX) (di : Env → Res (List D)) : TI := fun σ H R => ∃ B env fp, Rel K w B H σ env fp ∧ AfY K W B σ H R (di env)
theorem PI_weak {X : Cx} {tg e : Expr} {t t' : TI} (h : PI X tg e t) (hw : ∀ σ H R, t' σ H R → t σ H R) : PI X tg e t' := ⟨fun pins s σ H R I q => h.run pins s σ H R I (hw σ H R q)⟩
theorem PI_or {X : Cx} {tg e : Expr} {t t' : TI} (h : PI X tg e t) (h' : PI X tg e t') : PI X tg e (fun σ H R => t σ H R ∨ t' σ H R) := ⟨fun pins s σ H R I q => q.elim (h.run pins s σ H R I) (h'.run pins s σ H R I)⟩
section
variable {K : Fr} {W : WX} {w : List Ow}
theorem AfY.gr {B H B1 H1 : Hp} {σ : L2.St} {R : It → Hp → Prop} (g : Gr B H B1 H1) : ∀ {r : Res (List D)}, AfY K W B σ H R r → AfY K W B1 σ H1 R r
  | .ok d, h => fun J H' B' g2 y => h J H' B' (g.tr g2) y
  | .exc c fs, h => fun H' B' dct g2 r => h H' B' dct (g.tr g2) r
  | .bad, h => h
theorem AfY.val {B H : Hp} {σ : L2.St} {R : It → Hp → Prop} {ds : List D} {J : It} (s : Ex B H) (h : AfY K W B σ H R (.ok ds)) (y : Yl K B J ds) : R J H := h J H B (Gr.rf s) y
theorem AfY.iff {B H : Hp} {σ : L2.St} {R : It → Hp → Prop} {c : Prop} [Decidable c] {r : Res (List D)} (h : AfY K W B σ H R (if c then r else .bad)) : c ∧ AfY K W B σ H R r := by
  by_cases q : c
  · rw [if_pos q] at h; exact ⟨q, h⟩
  · rw [if_neg q] at h; exact h.elim
/-- first a value, then the walk -/
theorem rdE_thenY {a : Env → Res D} {σ : L2.St} {H B : Hp} {env : Env} {fp : Nat → List Addr} {Q : VK} {R2 : It → Hp → Prop} {f : D → Res (List D)} (R : Rel K w B H σ env fp) (h : AfY K W B σ H R2 ((a env).bind f))
    (go : ∀ d v H1 B1, a env = .ok d → Gr B H B1 H1 → Rel K w B1 H1 σ env fp → Rep K B1 v d → AfY K W B1 σ H1 R2 (f d) → Q v H1) : rdE K w W a .z σ H Q := by
  refine ⟨B, env, fp, R, ?_⟩
  cases e : a env with
  | ok d =>
    rw [e] at h
    intro v H1 B1 fs g r nd hf
    exact go d v H1 B1 e g (R.gr g) r.1 (AfY.gr g h)
  | exc c fs => rw [e] at h; exact h
  | bad => rw [e] at h; exact h
theorem rdA_thenY {a : Env → Res (List D)} {σ : L2.St} {H B : Hp} {env : Env} {fp : Nat → List Addr} {Q : List V → Hp → Prop} {R2 : It → Hp → Prop} {f : List D → Res (List D)} (R : Rel K w B H σ env fp) (h : AfY K W B σ H R2 ((a env).bind f))
    (go : ∀ ds vs H1 B1, a env = .ok ds → Gr B H B1 H1 → Rel K w B1 H1 σ env fp → Reps K B1 vs ds → AfY K W B1 σ H1 R2 (f ds) → Q vs H1) : rdA K w W a σ H Q := by
  refine ⟨B, env, fp, R, ?_⟩
  cases e : a env with
  | ok ds =>
    rw [e] at h
    intro vs H1 B1 g r
    exact go ds vs H1 B1 e g (R.gr g) r (AfY.gr g h)
  | exc c fs => rw [e] at h; exact h
  | bad => rw [e] at h; exact h
variable {B : Hp}
theorem Yl.list {a : Addr} {vs : List V} {ds : List D} (h : SqL K B a vs) (r : Reps K B vs ds) : Yl K B (Itl K a) ds where
  go := fun i H e hi => by
    obtain ⟨v, hv, _⟩ := r.get (i := i) (d := ds[i]) (List.getElem?_eq_getElem hi)
    exact ⟨vs, v, e.sl h, hv⟩
  yld := fun i d H v H' B' e1 e2 hd ⟨eh, hv⟩ => by
    subst eh
    obtain ⟨u, hu, ru⟩ := r.get hd
    have q := hv vs (e2.sl (e1.sl h))
    rw [hu] at q; cases q
    exact ⟨B', Gr.rf e2, ru.mono e1⟩
  stop := fun H e => ⟨vs, e.sl h, by rw [r.length]; exact Nat.le_refl _⟩
theorem Yl.tup {a : Addr} {vs : List V} {ds : List D} (h : SqT K B a vs) (r : Reps K B vs ds) : Yl K B (Itt K a) ds where
  go := fun i H e hi => by
    obtain ⟨v, hv, _⟩ := r.get (i := i) (d := ds[i]) (List.getElem?_eq_getElem hi)
    exact ⟨vs, v, e.st h, hv⟩
  yld := fun i d H v H' B' e1 e2 hd ⟨eh, hv⟩ => by
    subst eh
    obtain ⟨u, hu, ru⟩ := r.get hd
    have q := hv vs (e2.st (e1.st h))
    rw [hu] at q; cases q
    exact ⟨B', Gr.rf e2, ru.mono e1⟩
  stop := fun H e => ⟨vs, e.st h, by rw [r.length]; exact Nat.le_refl _⟩
def chD (x : Str) : List D := x.cps.toList.map fun c => D.str ⟨#[c]⟩
theorem Yl.str {x : Str} : Yl K B (Its x) (chD x) where
  go := fun i H e hi => by
    have hi' : i < x.cps.size := by simpa [chD] using hi
    exact hi'
  yld := fun i d H v H' B' e1 e2 hd ⟨eh, c, hc, hv⟩ => by
    subst eh hv
    refine ⟨B', Gr.rf e2, ?_⟩
    have q : some (D.str ⟨#[c]⟩) = some d := by
      rw [← hd, chD, List.getElem?_map, Array.getElem?_toList, hc]
      rfl
    cases q
    exact .str _
  stop := fun H e => by
    show x.cps.size ≤ (chD x).length
    simp [chD]
def rngD (lo : Int) (n : Nat) : List D := (List.range n).map fun (i : Nat) => D.int (lo + (i : Int))
theorem rngD_length (lo : Int) (n : Nat) : (rngD lo n).length = n := by simp [rngD]
theorem rngD_get {lo : Int} {n i : Nat} (h : i < n) : (rngD lo n)[i]? = some (.int (lo + (i : Int))) := by simp [rngD, h]
theorem Yl.range {lo : Int} {n : Nat} : Yl K B (Itr lo n) (rngD lo n) where
  go := fun i H e hi => by rw [rngD_length] at hi; exact hi
  yld := fun i d H v H' B' e1 e2 hd ⟨eh, hv⟩ => by
    subst eh hv
    have hi : i < n := by rw [← rngD_length lo n]; exact (List.getElem?_eq_some_iff.mp hd).1
    rw [rngD_get hi] at hd; cases hd
    exact ⟨B', Gr.rf e2, .int _⟩
  stop := fun H e => by rw [rngD_length]; exact Nat.le_refl _
def rngC (lo c : Int) (n : Nat) : List D := (List.range n).map fun (i : Nat) => D.int (lo + (i : Int) * c)
theorem rngC_length (lo c : Int) (n : Nat) : (rngC lo c n).length = n := by simp [rngC]
theorem rngC_get {lo c : Int} {n i : Nat} (h : i < n) : (rngC lo c n)[i]? = some (.int (lo + (i : Int) * c)) := by simp [rngC, h]
theorem Yl.rangeC {lo c : Int} {n : Nat} : Yl K B (Itc lo c n) (rngC lo c n) where
  go := fun i H e hi => by rw [rngC_length] at hi; exact hi
  yld := fun i d H v H' B' e1 e2 hd ⟨eh, hv⟩ => by
    subst eh hv
    have hi : i < n := by rw [← rngC_length lo c n]; exact (List.getElem?_eq_some_iff.mp hd).1
    rw [rngC_get hi] at hd; cases hd
    exact ⟨B', Gr.rf e2, .int _⟩
  stop := fun H e => by rw [rngC_length]; exact Nat.le_refl _
theorem SqA_of {a : Addr} {vs : List V} (h : SqL K B a vs ∨ SqT K B a vs) : ∃ b, SqA K B a b vs := h.elim (fun h => ⟨true, h⟩) fun h => ⟨false, h⟩
def enumD : Nat → List D → List D
  | _, [] => []
  | i, d :: r => .tup [.int (i : Nat), d] :: enumD (i + 1) r
theorem enumD_length : ∀ (k : Nat) (ds : List D), (enumD k ds).length = ds.length
  | _, [] => rfl
  | k, _ :: r => congrArg (· + 1) (enumD_length (k + 1) r)
theorem enumD_get : ∀ {k : Nat} {ds : List D} {i : Nat}, (enumD k ds)[i]? = (ds[i]?).map fun d => .tup [.int ((k + i : Nat) : Int), d]
  | k, [], i => by simp [enumD]
  | k, d :: r, 0 => by simp [enumD]
  | k, d :: r, i + 1 => by
    have e : k + 1 + i = k + (i + 1) := by omega
    simp only [enumD, List.getElem?_cons_succ, enumD_get, e]
theorem Yl.enum {a : Addr} {b : Bool} {vs : List V} {ds : List D} (h : SqA K B a b vs) (r : Reps K B vs ds) : Yl K B (ItE K a b) (enumD 0 ds) where
  go := fun i H e hi => by
    rw [enumD_length] at hi
    obtain ⟨v, hv, _⟩ := r.get (i := i) (d := ds[i]) (List.getElem?_eq_getElem hi)
    exact ⟨vs, v, h.mono e, hv⟩
  yld := fun i d H v H' B' e1 e2 hd ⟨T, x, ev, hT, eh, hv⟩ => by
    subst ev eh
    rw [enumD_get] at hd
    obtain ⟨d0, hd0, ed⟩ := Option.map_eq_some_iff.mp hd
    subst ed
    obtain ⟨u, hu, ru⟩ := r.get hd0
    have q := hv vs (h.mono (e1.tr e2))
    rw [hu] at q; cases q
    refine ⟨_, Gr.new e2 hT, .tup (SqT.of upd_same) (.cons ?_ (.cons ((ru.mono e1).mono (Ex.new (e2.back hT))) .nil))⟩
    rw [Nat.zero_add]
    exact .int _
  stop := fun H e => ⟨vs, h.mono e, by rw [enumD_length]; exact r.length⟩
def zipD : List D → List D → List D
  | d :: r, e :: s => .tup [d, e] :: zipD r s
  | _, _ => []
theorem zipD_length : ∀ (ds es : List D), (zipD ds es).length = min ds.length es.length
  | [], es => by simp [zipD]
  | _ :: _, [] => by simp [zipD]
  | d :: r, e :: s => by simp [zipD, zipD_length r s]
theorem zipD_get : ∀ {ds es : List D} {i : Nat} {d : D}, (zipD ds es)[i]? = some d → ∃ x y, ds[i]? = some x ∧ es[i]? = some y ∧ d = .tup [x, y]
  | [], es, i, d, h => by simp [zipD] at h
  | _ :: _, [], i, d, h => by simp [zipD] at h
  | a :: r, e :: s, 0, d, h => by
    simp [zipD] at h
    exact ⟨a, e, rfl, rfl, h.symm⟩
  | a :: r, e :: s, i + 1, d, h => by
    simp only [zipD, List.getElem?_cons_succ] at h
    simpa using zipD_get h
theorem Yl.zip {a a2 : Addr} {b b2 : Bool} {vs us : List V} {ds es : List D} (h : SqA K B a b vs) (r : Reps K B vs ds) (h2 : SqA K B a2 b2 us) (r2 : Reps K B us es) : Yl K B (ItZ K a b a2 b2) (zipD ds es) where
  go := fun i H e hi => by
    rw [zipD_length] at hi
    have i1 : i < ds.length := by omega
    have i2 : i < es.length := by omega
    obtain ⟨v, hv, _⟩ := r.get (i := i) (d := ds[i]) (List.getElem?_eq_getElem i1)
    obtain ⟨u, hu, _⟩ := r2.get (i := i) (d := es[i]) (List.getElem?_eq_getElem i2)
    exact ⟨vs, us, v, u, h.mono e, h2.mono e, hv, hu⟩
  yld := fun i d H v H' B' e1 e2 hd ⟨T, x, y, ev, hT, eh, hv, hu⟩ => by
    subst ev eh
    obtain ⟨d1, d2, g1, g2, ed⟩ := zipD_get hd
    subst ed
    obtain ⟨u1, hu1, ru1⟩ := r.get g1
    obtain ⟨u2, hu2, ru2⟩ := r2.get g2
    have q := hv vs (h.mono (e1.tr e2))
    rw [hu1] at q; cases q
    have q := hu us (h2.mono (e1.tr e2))
    rw [hu2] at q; cases q
    have ex : Ex B (upd B' T (.tup [x, y])) := e1.tr (Ex.new (e2.back hT))
    exact ⟨_, Gr.new e2 hT, .tup (SqT.of upd_same) (.cons (ru1.mono ex) (.cons (ru2.mono ex) .nil))⟩
  stop := fun H e => ⟨vs, us, h.mono e, h2.mono e, by rw [zipD_length, r.length, r2.length]⟩
theorem Yl.revL {a : Addr} {vs : List V} {ds : List D} (h : SqL K B a vs) (r : Reps K B vs ds) : Yl K B (Itv K a vs.length) ds.reverse where
  go := fun i H e hi => by
    rw [List.length_reverse, ← r.length] at hi
    have hj : vs.length - 1 - i < vs.length := by omega
    exact ⟨hi, vs, vs[vs.length - 1 - i], e.sl h, List.getElem?_eq_getElem hj⟩
  yld := fun i d H v H' B' e1 e2 hd ⟨eh, hv⟩ => by
    subst eh
    have hi : i < ds.length := by
      have q := (List.getElem?_eq_some_iff.mp hd).1
      simpa using q
    rw [List.getElem?_reverse hi] at hd
    obtain ⟨u, hu, ru⟩ := r.get hd
    have q := hv vs (e2.sl (e1.sl h))
    rw [r.length] at q
    rw [hu] at q; cases q
    exact ⟨B', Gr.rf e2, ru.mono e1⟩
  stop := fun H e => by
    show vs.length ≤ ds.reverse.length
    rw [List.length_reverse, r.length]; exact Nat.le_refl _
theorem Yl.revT {a : Addr} {vs : List V} {ds : List D} (h : SqT K B a vs) (r : Reps K B vs ds) : Yl K B (RT.ItvT K a vs.length) ds.reverse where
  go := fun i H e hi => by
    rw [List.length_reverse, ← r.length] at hi
    have hj : vs.length - 1 - i < vs.length := by omega
    exact ⟨hi, vs, vs[vs.length - 1 - i], e.st h, List.getElem?_eq_getElem hj⟩
  yld := fun i d H v H' B' e1 e2 hd ⟨eh, hv⟩ => by
    subst eh
    have hi : i < ds.length := by
      have q := (List.getElem?_eq_some_iff.mp hd).1
      simpa using q
    rw [List.getElem?_reverse hi] at hd
    obtain ⟨u, hu, ru⟩ := r.get hd
    have q := hv vs (e2.st (e1.st h))
    rw [r.length] at q
    rw [hu] at q; cases q
    exact ⟨B', Gr.rf e2, ru.mono e1⟩
  stop := fun H e => by
    show vs.length ≤ ds.reverse.length
    rw [List.length_reverse, r.length]; exact Nat.le_refl _
end

/-! ### the rules -/
def itD : D → Res (List D)
  | .lst ds => .ok ds
  | .scr ds => .ok ds
  | .tup ds => .ok ds
  | .str x => .ok (chD x)
  | _ => .bad
def smallI (i : Int) : Prop := -(2 ^ 62) ≤ i ∧ i < 2 ^ 62
instance (i : Int) : Decidable (smallI i) := by unfold smallI; infer_instance
def rng1D : List D → Res (List D)
  | [.int j] => if smallI j then .ok (rngD 0 j.toNat) else .bad
  | _ => .bad
def rng2D : List D → Res (List D)
  | [.int i, .int j] => if smallI i ∧ smallI j then .ok (rngD i (j - i).toNat) else .bad
  | _ => .bad
def rng3D : List D → Res (List D)
  | [.int i, .int j, .int c] => if c = -1 ∧ smallI i ∧ smallI j then .ok (rngC i (-1) (i - j).toNat) else .bad
  | _ => .bad
def enmD : List D → Res (List D)
  | [d] => match seq? d with | some ds => .ok (enumD 0 ds) | none => .bad
  | _ => .bad
def zp2D : List D → Res (List D)
  | [d, e] => match seq? d, seq? e with | some ds, some es => .ok (zipD ds es) | _, _ => .bad
  | _ => .bad
def revD (d : D) : Res (List D) := match seq? d with | some ds => .ok ds.reverse | none => .bad
def iSeq (f : D → Res (List D)) (a : Env → Res D) : Env → Res (List D) := fun env => (a env).bind f
def iArg (f : List D → Res (List D)) (a : Env → Res (List D)) : Env → Res (List D) := fun env => (a env).bind f
section
variable {X : Cx} {K : Fr} {W : WX} {w : List Ow} {e e1 e2 tg : Expr} {da : Env → Res D} {aa : Env → Res (List D)} {p pos tpos : Pos} {elts : List Expr} {kk : Nat}
theorem AfY.sq {B H : Hp} {σ : L2.St} {R : It → Hp → Prop} {o : Option (List D)} {g : List D → Res (List D)} (h : AfY K W B σ H R (match o with | some ds => g ds | none => .bad)) : ∃ ds, o = some ds ∧ AfY K W B σ H R (g ds) := by
  cases o with
  | some ds => exact ⟨ds, rfl, h⟩
  | none => exact h.elim
theorem i_seq (ha : PE X e (rdE K w W da .z)) (hK : X.K = K := by rfl) : PI X tg e (rdI K w W (iSeq itD da)) := by
  subst hK
  refine PI_weak (PI_or (pi_list ha) (PI_or (pi_tup ha) (pi_str ha))) fun σ H R ⟨B, env, fp, Rl, h⟩ => ?_
  have h : AfY X.K W B σ H R ((da env).bind itD) := h
  by_cases c1 : ∃ ds, da env = .ok (.tup ds)
  · refine .inr (.inl (rdE_thenY Rl h fun d v H1 B1 ed g1 R1 r1 h1 => ?_))
    obtain ⟨ds, q⟩ := c1
    rw [q] at ed; cases ed
    cases r1 with
    | tup hp rs => exact ⟨_, rfl, ⟨_, R1.s.st hp⟩, AfY.val R1.s h1 (Yl.tup hp rs)⟩
  · by_cases c2 : ∃ x, da env = .ok (.str x)
    · refine .inr (.inr (rdE_thenY Rl h fun d v H1 B1 ed g1 R1 r1 h1 => ?_))
      obtain ⟨ds, q⟩ := c2
      rw [q] at ed; cases ed
      cases r1 with
      | str x => exact ⟨_, rfl, AfY.val R1.s h1 Yl.str⟩
    · refine .inl (rdE_thenY Rl h fun d v H1 B1 ed g1 R1 r1 h1 => ?_)
      cases r1 with
      | lst hp rs => exact ⟨_, rfl, ⟨_, SqL.of (R1.s _ _ hp)⟩, AfY.val R1.s h1 (Yl.list (SqL.of hp) rs)⟩
      | scr hp rs => exact ⟨_, rfl, ⟨_, R1.s.sl hp⟩, AfY.val R1.s h1 (Yl.list hp rs)⟩
      | tup hp rs => exact absurd ⟨_, ed⟩ c1
      | str x => exact absurd ⟨_, ed⟩ c2
      | _ => exact h1.elim
theorem i_range1 (hm : X.mg "range" = none) (ha : PA X [e] (rdA K w W aa)) (hg : Gl X "range" := by rfl) (hs : starEach [e] X.env = [(false, eval e X.env)] := by rfl) : PI X tg (.Call (.Name "range" p) [e] [] pos) (rdI K w W (iArg rng1D aa)) :=
  PI_weak (pi_range1 hg hm ha hs) fun σ H R ⟨B, env, fp, Rl, h⟩ => rdA_thenY Rl h fun ds vs H1 B1 ed g1 R1 r1 h1 => by
    cases r1 with
    | nil => exact h1.elim
    | cons r rs =>
      cases rs with
      | cons _ _ => cases r <;> exact h1.elim
      | nil =>
        cases r with
        | int j =>
          obtain ⟨hz, h1⟩ := AfY.iff (show AfY K W B1 σ H1 R (if smallI j then _ else _) from h1)
          exact ⟨j, rfl, hz.1, hz.2, AfY.val R1.s h1 Yl.range⟩
        | _ => exact h1.elim
theorem i_range2 (hm : X.mg "range" = none) (ha : PA X [e, e1] (rdA K w W aa)) (hg : Gl X "range" := by rfl) (hs : starEach [e, e1] X.env = [(false, eval e X.env), (false, eval e1 X.env)] := by rfl) (hs2 : starEach [e1] X.env = [(false, eval e1 X.env)] := by rfl) :
    PI X tg (.Call (.Name "range" p) [e, e1] [] pos) (rdI K w W (iArg rng2D aa)) :=
  PI_weak (pi_range2 hg hm ha hs hs2) fun σ H R ⟨B, env, fp, Rl, h⟩ => rdA_thenY Rl h fun ds vs H1 B1 ed g1 R1 r1 h1 => by
    cases r1 with
    | nil => exact h1.elim
    | cons r rs =>
      cases rs with
      | nil => cases r <;> exact h1.elim
      | cons r2 rs =>
        cases rs with
        | cons _ _ => cases r <;> first | exact h1.elim | (cases r2 <;> exact h1.elim)
        | nil =>
          cases r with
          | int i =>
            cases r2 with
            | int j =>
              obtain ⟨hz, h1⟩ := AfY.iff (show AfY K W B1 σ H1 R (if smallI i ∧ smallI j then _ else _) from h1)
              exact ⟨i, j, rfl, ⟨hz.1.1, hz.1.2, hz.2.1, hz.2.2⟩, AfY.val R1.s h1 Yl.range⟩
            | _ => exact h1.elim
          | _ => exact h1.elim
theorem i_range3 (hm : X.mg "range" = none) (ha : PA X [e, e1, e2] (rdA K w W aa)) (hg : Gl X "range" := by rfl) (hs : starEach [e, e1, e2] X.env = (false, eval e X.env) :: starEach [e1, e2] X.env := by rfl) (hpl : (backTo pos (starEach [e1, e2] X.env)).any (·.1) = false := by rfl) :
    PI X tg (.Call (.Name "range" p) [e, e1, e2] [] pos) (rdI K w W (iArg rng3D aa)) :=
  PI_weak (pi_range3 hg hm ha hs hpl) fun σ H R ⟨B, env, fp, Rl, h⟩ => rdA_thenY Rl h fun ds vs H1 B1 ed g1 R1 r1 h1 => by
    have h1 : AfY K W B1 σ H1 R (rng3D ds) := h1
    unfold rng3D at h1
    split at h1
    · rename_i i j c
      obtain ⟨⟨hc, hi, hj⟩, h2⟩ := AfY.iff h1
      cases r1 with
      | cons r1 r2 =>
        cases r2 with
        | cons r2 r3 =>
          cases r3 with
          | cons r3 r4 =>
            cases r4
            rw [r1.intI, r2.intI, r3.intI]
            subst hc
            exact ⟨_, _, -1, _, rfl, RgC.neg hi.1 hi.2 hj.1 hj.2, AfY.val R1.s h2 Yl.rangeC⟩
    · exact h1.elim
theorem i_enum (hm : X.mg "enumerate" = none) (ha : PA X [e] (rdA K w W aa)) (hg : Gl X "enumerate" := by rfl) (hs : starEach [e] X.env = [(false, eval e X.env)] := by rfl) (hK : X.K = K := by rfl) : PI X (.Tuple elts kk tpos) (.Call (.Name "enumerate" p) [e] [] pos) (rdI K w W (iArg enmD aa)) := by
  subst hK
  refine PI_weak (pi_enumA hg hm ha hs) fun σ H R ⟨B, env, fp, Rl, h⟩ => rdA_thenY Rl h fun ds vs H1 B1 ed g1 R1 r1 h1 => ?_
  cases r1 with
  | nil => exact h1.elim
  | cons r rs =>
    cases rs with
    | cons _ _ => exact h1.elim
    | nil =>
      rename_i v d
      obtain ⟨ds, hd, h1⟩ := AfY.sq (show AfY X.K W B1 σ H1 R (match seq? d with | some ds => .ok (enumD 0 ds) | none => .bad) from h1)
      obtain ⟨p, vs, rfl, hp, rs⟩ := r.seq (Ex.rfl' _) hd
      obtain ⟨b, hb⟩ := SqA_of hp
      exact ⟨p, b, vs, rfl, hb.mono R1.s, AfY.val R1.s h1 (Yl.enum hb rs)⟩
theorem i_zip (hm : X.mg "zip" = none) (ha : PA X [e, e1] (rdA K w W aa)) (hg : Gl X "zip" := by rfl) (hs : starEach [e, e1] X.env = (false, eval e X.env) :: starEach [e1] X.env := by rfl) (hpl : (backTo pos (starEach [e1] X.env)).any (·.1) = false := by rfl) (hK : X.K = K := by rfl) :
    PI X (.Tuple elts kk tpos) (.Call (.Name "zip" p) [e, e1] [] pos) (rdI K w W (iArg zp2D aa)) := by
  subst hK
  refine PI_weak (pi_zipM hg hm ha hs hpl) fun σ H R ⟨B, env, fp, Rl, h⟩ => rdA_thenY Rl h fun ds vs H1 B1 ed g1 R1 r1 h1 => ?_
  have h1 : AfY X.K W B1 σ H1 R (zp2D ds) := h1
  unfold zp2D at h1
  split at h1
  · rename_i d d2
    split at h1
    · rename_i xs ys hx hy
      cases r1 with
      | cons r1 r2 =>
        cases r2 with
        | cons r2 r3 =>
          cases r3
          obtain ⟨p, vs, rfl, hp, rs⟩ := r1.seq (Ex.rfl' _) hx
          obtain ⟨b, hb⟩ := SqA_of hp
          obtain ⟨p2, vs2, rfl, hp2, rs2⟩ := r2.seq (Ex.rfl' _) hy
          obtain ⟨b2, hb2⟩ := SqA_of hp2
          exact ⟨p, b, p2, b2, vs, vs2, rfl, hb.mono R1.s, hb2.mono R1.s, AfY.val R1.s h1 (Yl.zip hb rs hb2 rs2)⟩
    · exact h1.elim
  · exact h1.elim
theorem i_rev (hm : X.mg "reversed" = none) (ha : PE X e (rdE K w W da .z)) (hg : Gl X "reversed" := by rfl) (hs : starEach [e] X.env = (false, eval e X.env) :: starEach [] X.env := by rfl) (hK : X.K = K := by rfl) : PI X tg (.Call (.Name "reversed" p) [e] [] pos) (rdI K w W (iSeq revD da)) := by
  subst hK
  refine PI_weak (RT.pi_revA hg hm ha hs) fun σ H R ⟨B, env, fp, Rl, h⟩ => rdE_thenY Rl h fun d v H1 B1 ed g1 R1 r1 h1 => ?_
  obtain ⟨ds, hd, h1⟩ := AfY.sq (show AfY X.K W B1 σ H1 R (match seq? d with | some ds => .ok ds.reverse | none => .bad) from h1)
  obtain ⟨p, vs, rfl, hp, rs⟩ := r1.seq (Ex.rfl' _) hd
  rcases hp with hp | hp
  · exact ⟨p, vs, rfl, .inl ⟨R1.s.sl hp, AfY.val R1.s h1 (Yl.revL hp rs)⟩⟩
  · exact ⟨p, vs, rfl, .inr ⟨R1.s.st hp, AfY.val R1.s h1 (Yl.revT hp rs)⟩⟩
/-- tuple(reversed(a list)) -/
def tupRevD : D → Res D
  | .lst ds => .ok (.tup ds.reverse)
  | .scr ds => .ok (.tup ds.reverse)
  | _ => .bad
theorem e_tupRev {p2 pos2 : Pos} (hm : X.mg "tuple" = none) (hm2 : X.mg "reversed" = none) (ha : PE X e (rdE K w W da .z)) (hc : X.calm = true := by rfl) (hg : Gl X "tuple" := by rfl) (hg2 : Gl X "reversed" := by rfl) (hs : starEach [e] X.env = (false, eval e X.env) :: starEach [] X.env := by rfl)
    (hs2 : starEach [.Call (.Name "reversed" p2) [e] [] pos2] X.env = (false, eval (.Call (.Name "reversed" p2) [e] [] pos2) X.env) :: starEach [] X.env := by rfl) (hK : X.K = K := by rfl) :
    PE X (.Call (.Name "tuple" p) [.Call (.Name "reversed" p2) [e] [] pos2] [] pos) (rdE K w W (d1 tupRevD da) .z) := by
  subst hK
  refine PE_weak (RT.pe_tupRev hc hg hm hg2 hm2 ha hs hs2) fun σ H Q ⟨B, env, fp, R, h⟩ => rdE_then R h fun d v H1 B1 _ g1 R1 r1 h1 => ?_
  cases r1 with
  | lst hp rs => exact ⟨_, _, rfl, SqL.of (R1.s _ _ hp), fun q hq => AfE.newB R1.s h1 hq (.tup (SqT.of upd_same) (rs.reverse.mono (Ex.new (R1.s.back hq))))⟩
  | scr hp rs => exact ⟨_, _, rfl, R1.s.sl hp, fun q hq => AfE.newB R1.s h1 hq (.tup (SqT.of upd_same) (rs.reverse.mono (Ex.new (R1.s.back hq))))⟩
  | _ => exact h1.elim
end
end Fz
set_option Elab.async false
set_option linter.all false
set_option maxRecDepth 100000
set_option maxHeartbeats 4000000
/-! Functionalization: targets, comprehensions. -/
namespace Fz
open PySem PySem.Spec PyProof.Rows L2

/-! ### targets -/
def SameOff (vs : List Nat) (σ σ' : L2.St) : Prop := σ'.length = σ.length ∧ ∀ j, j ∉ vs → σ'[j]? = σ[j]?
theorem SameOff.rf (vs : List Nat) (σ : L2.St) : SameOff vs σ σ := ⟨rfl, fun _ _ => rfl⟩
theorem SameOff.tr {vs : List Nat} {σ τ ρ : L2.St} (a : SameOff vs σ τ) (b : SameOff vs τ ρ) : SameOff vs σ ρ := ⟨b.1.trans a.1, fun j h => (b.2 j h).trans (a.2 j h)⟩
theorem SameOff.set {vs : List Nat} {σ : L2.St} {i : Nat} {o : Option V} (h : i ∈ vs) : SameOff vs σ (σ.set i o) := ⟨List.length_set, fun j hj => List.getElem?_set_ne fun e => hj (by rw [← e]; exact h)⟩
def tgN (i : Nat) : D → Env → Option Env := fun d env => if i < env.length then some (env.set i (some d)) else none
def tgL : List Nat → List D → Env → Option Env
  | [], [], env => some env
  | i :: r, d :: ds, env => if i < env.length then tgL r ds (env.set i (some d)) else none
  | _, _, _ => none
def tgT (is : List Nat) : D → Env → Option Env := fun d env => match d with
  | .tup ds => tgL is ds env
  | _ => none
def Sub (fp' fp : Nat → List Addr) : Prop := ∀ i, ∀ a ∈ fp' i, a ∈ fp i
theorem Sub.tr {f g h : Nat → List Addr} (a : Sub f g) (b : Sub g h) : Sub f h := fun i x hx => b i x (a i x hx)
def rdG (K : Fr) (w : List Ow) (vs : List Nat) (tg : D → Env → Option Env) : TG := fun v σ H Q => ∃ B env fp d, Rel K w B H σ env fp ∧ Rep K B v d ∧ ∃ env', tg d env = some env' ∧ ∀ σ' fp', Rel K w B H σ' env' fp' → Sub fp' fp → SameOff vs σ σ' → Q σ' H
def rdGs (K : Fr) (w : List Ow) (vs is : List Nat) : TGs := fun us σ H Q => ∃ B env fp ds, Rel K w B H σ env fp ∧ Reps K B us ds ∧ ∃ env', tgL is ds env = some env' ∧ ∀ σ' fp', Rel K w B H σ' env' fp' → Sub fp' fp → SameOff vs σ σ' → Q σ' H
theorem PG_weak {X : Cx} {tg : Expr} {t t' : TG} (h : PG X tg t) (hw : ∀ v σ H Q, t' v σ H Q → t v σ H Q) : PG X tg t' := ⟨fun pins s σ H v u Q I r q => h.run pins s σ H v u Q I r (hw v σ H Q q)⟩
theorem PGs_weak {X : Cx} {tg : List Expr} {t t' : TGs} (h : PGs X tg t) (hw : ∀ v σ H Q, t' v σ H Q → t v σ H Q) : PGs X tg t' := ⟨fun pins s σ H v u Q I r q => h.run pins s σ H v u Q I r (hw v σ H Q q)⟩
section
variable {K : Fr} {w : List Ow} {B H : Hp} {σ : L2.St} {env : Env} {fp : Nat → List Addr}
/-- a slot is given a frozen value -/
theorem Rel.setz {i : Nat} {v : V} {d : D} (R : Rel K w B H σ env fp) (hi : i < env.length) (r : Rep K B v d) (hw : w.getD i .z = .z) : Rel K w B H (σ.set i (some v)) (env.set i (some d)) (fun j => if j = i then [] else fp j) :=
  R.set hi (k := .z) (f := []) ⟨r, rfl⟩ List.nodup_nil (fun a ha => by cases ha) (fun j _ a ha => by cases ha) fun j => by
    by_cases q : j = i
    · rw [if_pos q, q]; exact hw
    · rw [if_neg q]
theorem Sub.if {i : Nat} {fp : Nat → List Addr} : Sub (fun j => if j = i then [] else fp j) fp := fun j a ha => by
  dsimp only at ha
  split at ha
  · cases ha
  · exact ha
end
section
variable {X : Cx} {K : Fr} {w : List Ow} {vs is : List Nat} {pos : Pos}
theorem g_name (i : Nat) {x : Str} (hw : w.getD i .z = .z := by rfl) (hm : i ∈ vs := by decide) (hN : X.N.Nodup := by decide) (hi : X.N[i]? = some x := by rfl) (hx : Loc X.env.scope x := by first | exact Or.inl rfl | exact Or.inr rfl) (hf : X.fn x = true ∨ X.env.scope.names.lookup x = some .local := by first | exact .inl rfl | exact .inr rfl) : PG X (.Name x pos) (rdG K w vs (tgN i)) :=
  PG_weak (pg_name hN hi hx hf) fun v σ H Q ⟨B, env, fp, d, R, r, env', e, h⟩ => by
    unfold tgN at e
    split at e
    · cases e
      exact h _ _ (R.setz (by assumption) r hw) Sub.if (SameOff.set hm)
    · cases e
theorem gs_nil : PGs X [] (rdGs K w vs []) := PGs_weak pgs_nil fun us σ H Q ⟨B, env, fp, ds, R, r, env', e, h⟩ => by
  cases r with
  | nil => cases e; exact ⟨rfl, h σ fp R (fun _ _ h => h) (SameOff.rf _ _)⟩
  | cons _ _ => cases e
theorem gs_cons {i : Nat} {e : Expr} {es : List Expr} (h1 : PG X e (rdG K w vs (tgN i))) (h2 : PGs X es (rdGs K w vs is)) (hs : (assignEach (e :: es) X.env).map (·.2) = assign e X.env :: (assignEach es X.env).map (·.2) := by rfl) : PGs X (e :: es) (rdGs K w vs (i :: is)) :=
  PGs_weak (pgs_cons h1 h2 hs) fun us σ H Q ⟨B, env, fp, ds, R, r, env', e, h⟩ => by
    cases r with
    | nil => cases e
    | @cons v d us ds r rs =>
      by_cases q : i < env.length
      · have e' : tgL is ds (env.set i (some d)) = some env' := by rw [← e]; exact (if_pos q).symm
        refine ⟨v, us, rfl, B, env, fp, d, R, r, _, if_pos q, fun σ1 fp1 R1 s1 o1 => ⟨B, _, fp1, ds, R1, rs, env', e', fun σ2 fp2 R2 s2 o2 => h σ2 fp2 R2 (s2.tr s1) (o1.tr o2)⟩⟩
      · have e' : (none : Option Env) = some env' := by rw [← e]; exact (if_neg q).symm
        cases e'
theorem tgL_len : ∀ {is : List Nat} {ds : List D} {env env' : Env}, tgL is ds env = some env' → ds.length = is.length
  | [], [], _, _, _ => rfl
  | i :: r, d :: ds, env, env', h => by
    unfold tgL at h
    split at h
    · exact congrArg (· + 1) (tgL_len h)
    · cases h
  | [], _ :: _, _, _, h => by cases h
  | _ :: _, [], _, _, h => by cases h
theorem g_tup {es : List Expr} {k : Nat} (h : PGs X es (rdGs K w vs is)) (hc : X.calm = true := by rfl) (hn : (assignEach es X.env).length = is.length := by rfl) (hst : (assignEach es X.env).findIdx? (·.1) = none := by rfl) (hK : X.K = K := by rfl) : PG X (.Tuple es k pos) (rdG K w vs (tgT is)) := by
  subst hK
  refine PG_weak (pg_tup hc h hn hst) fun v σ H Q ⟨B, env, fp, d, R, r, env', e, h⟩ => ?_
  unfold tgT at e
  split at e
  · cases r with
    | tup hp rs => exact ⟨_, _, rfl, R.s.st hp, by rw [rs.length]; exact tgL_len e, B, env, fp, _, R, rs, env', e, h⟩
  · cases e
end

/-! ### the slots of a comprehension -/
def wipeE (env : Env) : List Nat → Env
  | [] => env
  | v :: vs => (wipeE env vs).set v none
def wipeW (w : List Ow) : List Nat → List Ow
  | [] => w
  | v :: vs => (wipeW w vs).set v .z
theorem getD_setz (w : List Ow) (i j : Nat) : (w.set i .z).getD j .z = if j = i then .z else w.getD j .z := by
  by_cases q : j = i
  · subst q
    rw [if_pos rfl, List.getD_eq_getElem?_getD]
    by_cases h : j < w.length
    · rw [List.getElem?_set_self h] <;> rfl
    · rw [List.getElem?_eq_none (by rw [List.length_set]; omega)] <;> rfl
  · rw [if_neg q, List.getD_eq_getElem?_getD, List.getElem?_set_ne (Ne.symm q), List.getD_eq_getElem?_getD]
section
variable {K : Fr} {w : List Ow} {B H : Hp} {σ : L2.St} {env : Env} {fp : Nat → List Addr}
theorem Rel.unset (R : Rel K w B H σ env fp) (i : Nat) : Rel K (w.set i .z) B H (σ.set i none) (env.set i none) (fun j => if j = i then [] else fp j) where
  s := R.s
  len := by rw [List.length_set, List.length_set]; exact R.len
  sl := fun j d e => by
    by_cases q : j = i
    · subst q
      by_cases h : j < env.length
      · rw [List.getElem?_set_self h] at e; cases e
      · rw [List.getElem?_eq_none (by rw [List.length_set]; omega)] at e; cases e
    · rw [List.getElem?_set_ne (Ne.symm q)] at e ⊢
      obtain ⟨v, h1, h2⟩ := R.sl j d e
      refine ⟨v, h1, ?_⟩
      rw [getD_setz, if_neg q]
      simpa [q] using h2
  nn := fun j hj => by
    by_cases q : j = i
    · rw [if_pos q]
    · rw [if_neg q]
      exact R.nn j fun e he => hj e (by rw [List.getElem?_set_ne (Ne.symm q)]; exact he)
  nd := fun j => by
    by_cases q : j = i
    · rw [if_pos q]; exact List.nodup_nil
    · rw [if_neg q]; exact R.nd j
  dj := fun j l hjl a ha => by
    by_cases q : j = i
    · rw [if_pos q] at ha; cases ha
    · rw [if_neg q] at ha
      by_cases q2 : l = i
      · rw [if_pos q2]; simp
      · rw [if_neg q2]; exact R.dj j l hjl a ha
  bn := fun j a ha => by
    by_cases q : j = i
    · rw [if_pos q] at ha; cases ha
    · rw [if_neg q] at ha; exact R.bn j a ha
theorem Rel.wipe (R : Rel K w B H σ env fp) : ∀ vs : List Nat, ∃ fp', Rel K (wipeW w vs) B H (L2.wipe σ vs) (wipeE env vs) fp' ∧ Sub fp' fp
  | [] => ⟨fp, R, fun _ _ h => h⟩
  | v :: vs => by
    obtain ⟨fp', R', s⟩ := R.wipe vs
    exact ⟨_, R'.unset v, Sub.tr Sub.if s⟩
theorem wipe_in {i : Nat} : ∀ {vs : List Nat}, i ∈ vs → i < σ.length → (L2.wipe σ vs)[i]? = some none
  | v :: vs, h, hl => by
    unfold L2.wipe
    by_cases q : v = i
    · subst q
      exact List.getElem?_set_self (by rw [wipe_length]; exact hl)
    · rw [List.getElem?_set_ne q]
      exact wipe_in ((List.mem_cons.mp h).resolve_left (Ne.symm q)) hl
theorem SameOff.wipe {vs : List Nat} {σ2 : L2.St} (h : SameOff vs (L2.wipe σ vs) σ2) : L2.wipe σ2 vs = L2.wipe σ vs := by
  have hl : σ2.length = σ.length := h.1.trans (wipe_length σ vs)
  apply List.ext_getElem?
  intro j
  by_cases q : j ∈ vs
  · by_cases hj : j < σ.length
    · rw [wipe_in q hj, wipe_in q (by rw [hl]; exact hj)]
    · rw [List.getElem?_eq_none (by rw [wipe_length]; omega), List.getElem?_eq_none (by rw [wipe_length]; omega)]
  · rw [wipe_out q]
    exact h.2 j q
end

/-! ### comprehensions -/
def WF : WX := fun _ _ _ _ => False
def lcGo (tg : D → Env → Option Env) (tt : Env → Res Bool) (de : Env → Res D) (env : Env) : List D → Res (List D)
  | [] => .ok []
  | d :: r => match tg d env with
    | none => .bad
    | some e1 => match tt e1 with
      | .ok true => (match de e1 with
        | .ok x => (lcGo tg tt de env r).bind fun xs => .ok (x :: xs)
        | _ => .bad)
      | .ok false => lcGo tg tt de env r
      | _ => .bad
def endLc : Res (List D) → Res D
  | .ok xs => if xs.length ≤ 16777216 then .ok (.lst xs) else .bad
  | _ => .bad
def dLc (vs : List Nat) (di : Env → Res (List D)) (tg : D → Env → Option Env) (tt : Env → Res Bool) (de : Env → Res D) : Env → Res D := fun env => (di env).bind fun ds => endLc (lcGo tg tt de (wipeE env vs) ds)
def dYes : Env → Res Bool := fun _ => .ok true
theorem ROs.snoc {R : V → D → List Addr → Prop} {v : V} {d : D} {f : List Addr} (h : R v d f) : ∀ {vs : List V} {ds : List D} {fs : List Addr}, ROs R vs ds fs → ROs R (vs ++ [v]) (ds ++ [d]) (fs ++ f)
  | _, _, _, .nil => by
    have q := ROs.cons h (ROs.nil (R := R))
    rw [List.append_nil] at q
    exact q
  | _, _, _, .cons (f := g) (fs := gs) r t => by
    have q := ROs.cons r (ROs.snoc h t)
    rw [← List.append_assoc] at q
    exact q
theorem endLc_ok {r : Res (List D)} {d : D} (h : endLc r = .ok d) : ∃ xs, r = .ok xs ∧ xs.length ≤ 16777216 ∧ d = .lst xs := by
  cases r with
  | ok xs =>
    have h' : (if xs.length ≤ 16777216 then Res.ok (D.lst xs) else .bad) = .ok d := h
    split at h'
    · cases h'; exact ⟨xs, rfl, by assumption, rfl⟩
    · cases h'
  | exc c fs => cases h
  | bad => cases h
theorem endLc_cases (r : Res (List D)) : (∃ xs, r = .ok xs ∧ xs.length ≤ 16777216 ∧ endLc r = .ok (.lst xs)) ∨ endLc r = .bad := by
  cases r with
  | ok xs =>
    by_cases q : xs.length ≤ 16777216
    · exact .inl ⟨xs, rfl, q, if_pos q⟩
    · exact .inr (if_neg q)
  | exc c fs => exact .inr rfl
  | bad => exact .inr rfl
theorem ROs.onD {K : Fr} {B B' H H' : Hp} {ke : Ow} (eb : Ex B B') : ∀ {vs : List V} {ds : List D} {fs : List Addr}, (∀ a ∈ fs, ∀ o, H a = some o → H' a = some o) → ROs (RepO K B H ke) vs ds fs → ROs (RepO K B' H' ke) vs ds fs
  | _, _, _, _, .nil => .nil
  | _, _, _, hf, .cons r t => .cons (r.on eb ke fun a ha => hf a (List.mem_append_left _ ha)) (ROs.onD eb (fun a ha => hf a (List.mem_append_right _ ha)) t)
theorem ROs.mem {K : Fr} {B H : Hp} {ke : Ow} : ∀ {vs : List V} {ds : List D} {fs : List Addr}, ROs (RepO K B H ke) vs ds fs → ∀ a ∈ fs, H a ≠ none
  | _, _, _, .nil, a, ha => by cases ha
  | _, _, _, .cons r t, a, ha => by
    rcases List.mem_append.mp ha with q | q
    · exact r.mem _ a q
    · exact t.mem a q
/-- a list in the making: at L, over (B1, H1) -/
structure Mkg (K : Fr) (ke : Ow) (L : Addr) (B1 H1 B H : Hp) (acc : List V) (xs : List D) (fs : List Addr) : Prop where
  b : Ex B1 B
  h : Ex H1 H
  s : Ex B H
  f : ∀ a, H1 a ≠ none → B a = B1 a
  l : H L = some (.lst acc)
  ln : B L = none
  r : ROs (RepO K B H ke) acc xs fs
  nd : fs.Nodup
  nl : L ∉ fs
  fr : ∀ a ∈ fs, H1 a = none ∧ B a = none
theorem Mkg.start {K : Fr} {ke : Ow} {L : Addr} {B1 H1 : Hp} (s : Ex B1 H1) (hL : H1 L = none) : Mkg K ke L B1 H1 B1 (upd H1 L (.lst [])) [] [] [] :=
  ⟨Ex.rfl' _, Ex.new hL, s.tr (Ex.new hL), fun _ _ => rfl, upd_same, s.back hL, .nil, List.nodup_nil, by simp, fun a ha => by cases ha⟩
theorem Mkg.gr {K : Fr} {ke : Ow} {L : Addr} {B1 H1 B H B' H' : Hp} {acc : List V} {xs : List D} {fs : List Addr} (M : Mkg K ke L B1 H1 B H acc xs fs) (g : Gr B H B' H') : Mkg K ke L B1 H1 B' H' acc xs fs where
  b := M.b.tr g.b
  h := M.h.tr g.h
  s := g.s
  f := fun a ha => (g.f a (M.h.live ha)).trans (M.f a ha)
  l := g.h _ _ M.l
  ln := (g.f L (by rw [M.l]; simp)).trans M.ln
  r := M.r.onD g.b fun a _ o e => g.h a o e
  nd := M.nd
  nl := M.nl
  fr := fun a ha => ⟨(M.fr a ha).1, (g.f a (M.r.mem a ha)).trans (M.fr a ha).2⟩
theorem Mkg.add {K : Fr} {ke : Ow} {L : Addr} {B1 H1 B H B' H' : Hp} {acc : List V} {xs : List D} {fs f : List Addr} {v : V} {d : D} (M : Mkg K ke L B1 H1 B H acc xs fs) (g : Gr B H B' H') (r : RepO K B' H' ke v d f) (nd : f.Nodup) (hf : ∀ a ∈ f, H a = none ∧ B' a = none) (hL : H1 L = none) :
    Mkg K ke L B1 H1 B' (upd H' L (.lst (acc ++ [v]))) (acc ++ [v]) (xs ++ [d]) (fs ++ f) := by
  have M' := M.gr g
  have nL : L ∉ f := fun h => by
    have q := (hf L h).1
    rw [M.l] at q; cases q
  have off : ∀ {a : Addr}, a ≠ L → (upd H' L (.lst (acc ++ [v]))) a = H' a := fun h => upd_ne h
  refine ⟨M'.b, fun a o e => ?_, fun a o e => ?_, M'.f, upd_same, M'.ln, ?_, ?_, ?_, fun a ha => ?_⟩
  · have q : a ≠ L := fun z => by rw [z, hL] at e; cases e
    rw [off q]; exact M'.h a o e
  · have q : a ≠ L := fun z => by rw [z, M'.ln] at e; cases e
    rw [off q]; exact M'.s a o e
  · refine ROs.snoc (r.on (Ex.rfl' _) ke fun a ha o e => ?_) (M'.r.onD (Ex.rfl' _) fun a ha o e => ?_)
    · rw [off fun z => nL (z ▸ ha)]; exact e
    · rw [off fun z => M.nl (z ▸ ha)]; exact e
  · refine List.nodup_append.mpr ⟨M.nd, nd, fun a ha b hb e => ?_⟩
    subst e
    exact (M.r.mem a ha) (hf a hb).1
  · intro h
    rcases List.mem_append.mp h with q | q
    · exact M.nl q
    · exact nL q
  · rcases List.mem_append.mp ha with q | q
    · exact M'.fr a q
    · exact ⟨M.h.back (hf a q).1, (hf a q).2⟩
section
variable {X : Cx} {K : Fr} {W : WX} {w : List Ow} {ke : Ow} {vs : List Nat}
theorem ts_nil : PTs X [] (rdT K w W dYes) := ⟨fun pins s σ H Q I ⟨B, env, fp, R, h⟩ => pts_nil.run pins s σ H Q I (h H B (Gr.rf R.s))⟩
theorem ts_one {c : Expr} {t : Env → Res Bool} (h : PT X c (rdT K w W t)) : PTs X [c] (rdT K w W t) := pts_one h
/-- one turn -/
theorem lc_turn {B1 H1 B H : Hp} {L : Addr} {tg : D → Env → Option Env} {tt : Env → Res Bool} {de : Env → Res D} {env : Env} {fp : Nat → List Addr} {σ : L2.St} {acc : List V} {xs rest all : List D} {fs : List Addr} {d : D} {ds : List D} {J : It} {i : Nat} {x : V} {H' : Hp} {Nx : Hp → Prop}
    (R : Rel K (wipeW w vs) B1 H1 (L2.wipe σ vs) env fp) (hL : H1 L = none) (M : Mkg K ke L B1 H1 B H acc xs fs) (Y : Yl K B1 J ds) (hd : ds[i]? = some d) (go : lcGo tg tt de env (d :: rest) = .ok all) (hz : xs.length + all.length ≤ 16777216) (y : J.yld i H x H')
    (nx : ∀ B H acc' xs' fs' all', Mkg K ke L B1 H1 B H acc' xs' fs' → lcGo tg tt de env rest = .ok all' → xs' ++ all' = xs ++ all → Nx H) :
    rdG K (wipeW w vs) vs tg x (L2.wipe σ vs) H' fun σ2 H2 => L2.wipe σ2 vs = L2.wipe σ vs ∧ rdT K (wipeW w vs) WF tt σ2 H2 fun b H3 =>
      if b = true then rdE K (wipeW w vs) WF de ke σ2 H3 fun y H4 => ∃ acc, H4 L = some (.lst acc) ∧ acc.length < sizeLine ∧ Nx (upd H4 L (.lst (acc ++ [y]))) else Nx H3 := by
  obtain ⟨B2, g2, r2⟩ := Y.yld i d H x H' B M.b M.s hd y
  have M2 := M.gr g2
  have hR : ∀ {B' H' : Hp}, Mkg K ke L B1 H1 B' H' acc xs fs → Gr B1 H1 B' H' := fun m => ⟨m.b, m.h, m.s, m.f⟩
  have R2 : Rel K (wipeW w vs) B2 H' (L2.wipe σ vs) env fp := R.gr (hR M2)
  unfold lcGo at go
  cases et : tg d env with
  | none => rw [et] at go; cases go
  | some e1 =>
    rw [et] at go
    dsimp only at go
    refine ⟨B2, env, fp, d, R2, r2, e1, et, fun σ2 fp2 R3 s3 o3 => ⟨SameOff.wipe o3, B2, e1, fp2, R3, ?_⟩⟩
    cases eb : tt e1 with
    | ok b =>
      intro H3 B3 g3
      cases b with
      | true =>
        rw [if_pos rfl]
        rw [eb] at go
        refine ⟨B3, e1, fp2, R3.gr g3, ?_⟩
        cases ex : de e1 with
        | ok v =>
          dsimp only at go
          rw [ex] at go
          dsimp only at go
          intro u H4 B4 f g4 r4 nd4 hf4
          cases el : lcGo tg tt de env rest with
          | ok ys =>
            rw [el] at go
            cases go
            have M3 := M2.gr g3
            refine ⟨acc, (M3.gr g4).l, ?_, nx _ _ _ _ _ ys (M3.add g4 r4 nd4 hf4 hL) el (by simp)⟩
            have q : acc.length = xs.length := M.r.length
            rw [sizeLine_eq, q]
            simp at hz
            omega
          | exc c fs => rw [el] at go; cases go
          | bad => rw [el] at go; cases go
        | exc c fs => dsimp only at go; rw [ex] at go; cases go
        | bad => dsimp only at go; rw [ex] at go; cases go
      | false =>
        rw [if_neg Bool.false_ne_true]
        rw [eb] at go
        exact nx _ _ _ _ _ all (M2.gr g3) go rfl
    | exc c fs => rw [eb] at go; cases go
    | bad => rw [eb] at go; cases go
theorem rdE_lc {di : Env → Res (List D)} {tg : D → Env → Option Env} {tt : Env → Res Bool} {de : Env → Res D} : ∀ σ H Q, rdE K w W (dLc vs di tg tt de) (.l ke) σ H Q →
    tLc (rdI K w W di) (rdG K (wipeW w vs) vs tg) (rdT K (wipeW w vs) WF tt) (rdE K (wipeW w vs) WF de ke) vs σ H Q := fun σ H Q ⟨B, env, fp, R, h⟩ => by
  refine ⟨B, env, fp, R, ?_⟩
  have h : AfE K W (.l ke) B σ H Q ((di env).bind fun ds => endLc (lcGo tg tt de (wipeE env vs) ds)) := h
  cases ed : di env with
  | exc c fs => rw [ed] at h; exact h
  | bad => rw [ed] at h; exact h
  | ok ds =>
    rw [ed] at h
    have h : AfE K W (.l ke) B σ H Q (endLc (lcGo tg tt de (wipeE env vs) ds)) := h
    intro J H1 B1 g1 Y L hL
    rcases endLc_cases (lcGo tg tt de (wipeE env vs) ds) with ⟨all, el, hz, ee⟩ | ee
    · rw [ee] at h
      obtain ⟨fp', R', _⟩ := (R.gr g1).wipe vs
      refine ⟨fun i m H => m = ds.length - i ∧ i ≤ ds.length ∧ ∃ B acc xs fs rest, Mkg K ke L B1 H1 B H acc xs fs ∧ lcGo tg tt de (wipeE env vs) (ds.drop i) = .ok rest ∧ xs ++ rest = all, ⟨ds.length, rfl, Nat.zero_le _, B1, [], [], [], all, Mkg.start g1.s hL, el, rfl⟩, ?_⟩
      rintro i m H2 ⟨rfl, hi, B2, acc, xs, fs, rest, M, er, ea⟩
      by_cases hlt : i < ds.length
      · refine .inr ⟨Y.go i H2 (M.b.tr M.s) hlt, fun H3 => i + 1 ≤ ds.length ∧ ∃ B acc xs fs rest, Mkg K ke L B1 H1 B H3 acc xs fs ∧ lcGo tg tt de (wipeE env vs) (ds.drop (i + 1)) = .ok rest ∧ xs ++ rest = all, fun H' n => ⟨ds.length - (i + 1), by omega, rfl, n.1, n.2⟩, fun x H' y => ?_⟩
        rw [List.drop_eq_getElem_cons hlt] at er
        refine lc_turn R' hL M Y (List.getElem?_eq_getElem hlt) er ?_ y fun B4 H4 acc' xs' fs' all' M' e' ea' => ⟨hlt, B4, acc', xs', fs', all', M', e', ea'.trans ea⟩
        rw [← List.length_append, ea]; exact hz
      · have e : i = ds.length := by omega
        subst e
        refine .inl ⟨Y.stop H2 (M.b.tr M.s), ?_⟩
        rw [List.drop_length] at er
        cases er
        rw [List.append_nil] at ea
        subst ea
        refine h (.ref L) H2 B2 (L :: fs) ⟨g1.b.tr M.b, g1.h.tr M.h, M.s, fun a ha => (M.f a (g1.h.live ha)).trans (g1.f a ha)⟩ ⟨L, acc, xs, fs, rfl, rfl, M.l, M.r, rfl⟩ (List.nodup_cons.mpr ⟨M.nl, M.nd⟩) fun a ha => ?_
        rcases List.mem_cons.mp ha with q | q
        · rw [q]; exact ⟨g1.h.back hL, M.ln⟩
        · exact ⟨g1.h.back (M.fr a q).1, (M.fr a q).2⟩
    · rw [ee] at h; exact h.elim
theorem e_lc {elt tg iter : Expr} {ifs : List Expr} {scope : Scope} {pos : Pos} {di : Env → Res (List D)} {dg : D → Env → Option Env} {tt : Env → Res Bool} {de : Env → Res D} (own : List (Str × Nat)) (hi : PI X tg iter (rdI K w W di))
    (hg : ∀ (s : Shared) (H : Hp) (C : Addr) (cl : List (Str × Addr)) (fp : List Addr), PG (X.blk s H scope (compEnvC scope cl C X.env) fp) tg (rdG K (wipeW w (own.map (·.2))) (own.map (·.2)) dg))
    (ht : ∀ (s : Shared) (H : Hp) (C : Addr) (cl : List (Str × Addr)) (fp : List Addr), PTs (X.blk s H scope (compEnvC scope cl C X.env) fp) ifs (rdT K (wipeW w (own.map (·.2))) WF tt))
    (he : ∀ (s : Shared) (H : Hp) (C : Addr) (cl : List (Str × Addr)) (fp : List Addr), PE (X.blk s H scope (compEnvC scope cl C X.env) fp) elt (rdE K (wipeW w (own.map (·.2))) WF de ke))
    (ok : blkC X.N X.env.scope scope own = true := by decide +kernel) (hc : X.calm = true := by rfl) (hN : X.N.Nodup := by decide) (hs : ∀ x, foldedSetIterable iter X.env x = pure x := by intro _; rfl) :
    PE X (.ListComp elt [⟨tg, iter, ifs, 0⟩] scope pos) (rdE K w W (dLc (own.map (·.2)) di dg tt de) (.l ke)) := PE_weak (pe_lc hc hN hi (blkOk_by ok) hg ht he hs) rdE_lc
end
end Fz
set_option Elab.async false
set_option linter.all false
set_option maxRecDepth 100000
set_option maxHeartbeats 4000000
/-! Functionalization: statements. -/
namespace Fz
open PySem PySem.Spec PyProof.Rows L2

/-! ### the frame's state -/
section
variable {K : Fr} {w w' : List Ow} {B0 H0 B H B' H' : Hp} {σ : L2.St} {env : Env} {W : WX} {s : Ws} {D : Ends}
theorem SRel.gr (S : SRel K w B0 H0 B H σ env) (g : Gr B H B' H') : SRel K w B0 H0 B' H' σ env := by
  obtain ⟨fp, R, h1, h2, h3, h4⟩ := S
  exact ⟨fp, R.gr g, h1.tr g.b, h2.tr g.h, fun a ha => (g.f a (h2.live ha)).trans (h3 a ha), h4⟩
theorem SRel.freeze (S : SRel K w B0 H0 B H σ env) (hw : ∀ j, w'.getD j .z = w.getD j .z ∨ w'.getD j .z = .z) : ∃ B', SRel K w' B0 H0 B' H σ env ∧ Ex B B' := by
  obtain ⟨fp, R, h1, h2, h3, h4⟩ := S
  obtain ⟨fs, fp', R', k1, k2⟩ := R.freeze hw
  have hb : ∀ a ∈ fs, B a = none := fun a ha => let ⟨i, hi⟩ := k1 a ha; R.bn i a hi
  refine ⟨_, ⟨fp', R', h1.tr (addB_ex hb), h2, fun a ha => ?_, fun i a ha => h4 i a (k2 i a ha)⟩, addB_ex hb⟩
  rw [addB_out]
  · exact h3 a ha
  · intro m
    obtain ⟨i, hi⟩ := k1 a m
    exact ha (h4 i a hi)
theorem SRel.fz (S : SRel K w B0 H0 B H σ env) (hw : fzB w w' = true) : ∃ B', SRel K w' B0 H0 B' H σ env ∧ Ex B B' := S.freeze (fzB_ok hw)
theorem SRel.fz0 (S : SRel K w B0 H0 B H σ env) : ∃ B', SRel K [] B0 H0 B' H σ env ∧ Ex B B' := S.freeze fun j => .inr rfl
theorem SRel.set {k : Ow} {i : Nat} {v : V} {d : Fz.D} {f : List Addr} (S : SRel K w B0 H0 B H σ env) (g : Gr B H B' H') (r : RepO K B' H' k v d f) (nd : f.Nodup) (hf : ∀ a ∈ f, H a = none ∧ B' a = none) (hi : i < env.length) (hl : i < w.length) :
    SRel K (w.set i k) B0 H0 B' H' (σ.set i (some v)) (env.set i (some d)) := by
  obtain ⟨fp, R, h1, h2, h3, h4⟩ := S
  refine ⟨_, (R.gr g).set hi r nd (fun a ha => (hf a ha).2) (fun j _ a ha m => R.live j a m (hf a ha).1) fun j => ?_, h1.tr g.b, h2.tr g.h, fun a ha => (g.f a (h2.live ha)).trans (h3 a ha), fun j a ha => ?_⟩
  · by_cases q : j = i
    · subst q
      rw [if_pos rfl, List.getD_eq_getElem?_getD, List.getElem?_set_self hl] <;> rfl
    · rw [if_neg q, List.getD_eq_getElem?_getD, List.getElem?_set_ne (Ne.symm q), List.getD_eq_getElem?_getD]
  · by_cases q : j = i
    · rw [if_pos q] at ha; exact h2.back (hf a ha).1
    · rw [if_neg q] at ha; exact h4 j a ha
/-- what a turn of a loop may not touch: all but the frame's own things -/
theorem SRel.rebase (S : SRel K w B0 H0 B H σ env) : ∃ H1, SRel K w B H1 B H σ env ∧ Ex H0 H1 ∧ ∀ a, H0 a ≠ none → B a = B0 a := by
  obtain ⟨fp, R, h1, h2, h3, h4⟩ := S
  refine ⟨fun a => open Classical in if ∃ i, a ∈ fp i then none else H a, ⟨fp, R, Ex.rfl' _, fun a o e => ?_, fun _ _ => rfl, fun i a ha => if_pos ⟨i, ha⟩⟩, fun a o e => ?_, h3⟩
  · dsimp only at e
    split at e
    · cases e
    · exact e
  · dsimp only
    rw [if_neg]
    · exact h2 a o e
    · rintro ⟨i, hi⟩
      rw [h4 i a hi] at e; cases e
theorem SRel.ofBase {H1 B2 H2 : Hp} {σ2 : L2.St} {env2 : Env} (b : Ex B0 B) (e : Ex H0 H1) (f : ∀ a, H0 a ≠ none → B a = B0 a) (S : SRel K w B H1 B2 H2 σ2 env2) : SRel K w B0 H0 B2 H2 σ2 env2 ∧ Ex B B2 := by
  obtain ⟨fp, R, h1, h2, h3, h4⟩ := S
  exact ⟨⟨fp, R, b.tr h1, e.tr h2, fun a ha => (h3 a (e.live ha)).trans (f a ha), fun i a ha => e.back (h4 i a ha)⟩, h1⟩
theorem AfS.base {H1 : Hp} (b : Ex B0 B) (e : Ex H0 H1) (f : ∀ a, H0 a ≠ none → B a = B0 a) : ∀ {o : Out}, AfS K W s B0 H0 D o → AfS K W s B H1 D o
  | .nx env, h => fun B2 σ2 H2 S => h B2 σ2 H2 (SRel.ofBase b e f S).1
  | .bk env, h => fun B2 σ2 H2 S => h B2 σ2 H2 (SRel.ofBase b e f S).1
  | .ct env, h => fun B2 σ2 H2 S => h B2 σ2 H2 (SRel.ofBase b e f S).1
  | .ret d, h => fun B2 H2 v g h1 h2 h3 h4 r nd hf => h B2 H2 v g (b.tr h1) (e.tr h2) h3 (fun a ha => (h4 a (e.live ha)).trans (f a ha)) r nd fun a ha => ⟨e.back (hf a ha).1, (hf a ha).2⟩
  | .exc c fs env, h => fun B2 σ2 H2 dct S r => h B2 σ2 H2 dct (SRel.ofBase b e f S).1 r
  | .bad, h => h
def oBind {α : Type} (r : Res α) (env : Env) (f : α → Out) : Out := match r with
  | .ok a => f a
  | .exc c fs => .exc c fs env
  | .bad => .bad
theorem exc_out {c : Str} {fs : List (Str × Fz.D)} (S : SRel K w B0 H0 B H σ env) (h : AfS K W s B0 H0 D (.exc c fs env)) : ∀ H' B' dct, Gr B H B' H' → ExcRep K B' H' dct fs → W (.ref (He.ga K c)) dct σ H' := fun H' B' dct g r => by
  obtain ⟨B2, S2, e⟩ := (S.gr g).fz0
  exact h B2 σ H' dct S2 (r.mono e (Ex.rfl' _))
/-- first a value, then the rest of the statement -/
theorem st_E {k : Ow} {de : Env → Res Fz.D} {f : Fz.D → Out} {Q : VK} (S : SRel K w B0 H0 B H σ env) (h : AfS K W s B0 H0 D (oBind (de env) env f))
    (go : ∀ d v H1 B1 g, de env = .ok d → Gr B H B1 H1 → RepO K B1 H1 k v d g → g.Nodup → (∀ a ∈ g, H a = none ∧ B1 a = none) → AfS K W s B0 H0 D (f d) → Q v H1) : rdE K w W de k σ H Q := by
  obtain ⟨fp, R, _⟩ := id S
  refine ⟨B, env, fp, R, ?_⟩
  cases e : de env with
  | ok d =>
    rw [e] at h
    exact fun v H1 B1 g gr r nd hf => go d v H1 B1 g e gr r nd hf h
  | exc c fs => rw [e] at h; exact exc_out S h
  | bad => rw [e] at h; exact h
theorem st_T {dt : Env → Res Bool} {f : Bool → Out} {Q : Bool → Hp → Prop} (S : SRel K w B0 H0 B H σ env) (h : AfS K W s B0 H0 D (oBind (dt env) env f))
    (go : ∀ b H1 B1, dt env = .ok b → Gr B H B1 H1 → AfS K W s B0 H0 D (f b) → Q b H1) : rdT K w W dt σ H Q := by
  obtain ⟨fp, R, _⟩ := id S
  refine ⟨B, env, fp, R, ?_⟩
  cases e : dt env with
  | ok d =>
    rw [e] at h
    exact fun H1 B1 gr => go d H1 B1 e gr h
  | exc c fs => rw [e] at h; exact exc_out S h
  | bad => rw [e] at h; exact h
theorem st_Y {di : Env → Res (List Fz.D)} {f : List Fz.D → Out} {Rr : It → Hp → Prop} (S : SRel K w B0 H0 B H σ env) (h : AfS K W s B0 H0 D (oBind (di env) env f))
    (go : ∀ ds J H1 B1, di env = .ok ds → Gr B H B1 H1 → Yl K B1 J ds → AfS K W s B0 H0 D (f ds) → Rr J H1) : rdI K w W di σ H Rr := by
  obtain ⟨fp, R, _⟩ := id S
  refine ⟨B, env, fp, R, ?_⟩
  cases e : di env with
  | ok ds =>
    rw [e] at h
    exact fun J H1 B1 gr y => go ds J H1 B1 e gr y h
  | exc c fs => rw [e] at h; exact exc_out S h
  | bad => rw [e] at h; exact h
end
theorem Out.iff {c : Prop} [Decidable c] {K : Fr} {W : WX} {s : Ws} {B0 H0 : Hp} {D : Ends} {o : Out} (h : AfS K W s B0 H0 D (if c then o else .bad)) : c ∧ AfS K W s B0 H0 D o := by
  by_cases q : c
  · rw [if_pos q] at h; exact ⟨q, h⟩
  · rw [if_neg q] at h; exact h.elim

/-! ### what statements do, on data -/
def bSeq (b c : Env → Out) : Env → Out := fun env => match b env with
  | .nx e => c e
  | o => o
def sNx : Env → Out := fun env => .nx env
def sBk : Env → Out := fun env => .bk env
def sCt : Env → Out := fun env => .ct env
def sNever : Env → Out := fun _ => .bad
def sSet (i : Nat) (de : Env → Res D) : Env → Out := fun env => oBind (de env) env fun d => if i < env.length then .nx (env.set i (some d)) else .bad
def sAsg (tg : D → Env → Option Env) (de : Env → Res D) : Env → Out := fun env => oBind (de env) env fun d => match tg d env with
  | some e => .nx e
  | none => .bad
def sExpr (de : Env → Res D) : Env → Out := fun env => oBind (de env) env fun _ => .nx env
def sRet (de : Env → Res D) : Env → Out := fun env => oBind (de env) env .ret
def sRetN : Env → Out := fun _ => .ret .non
def sIf (dt : Env → Res Bool) (b c : Env → Out) : Env → Out := fun env => oBind (dt env) env fun t => if t = true then b env else c env
def sRaise (c : Str) : Env → Out := fun env => .exc c [] env
def sApp (i : Nat) (de : Env → Res D) : Env → Out := fun env => match env[i]? with
  | some (some (.lst xs)) => oBind (de env) env fun d => if xs.length < 16777216 then .nx (env.set i (some (.lst (xs ++ [d])))) else .bad
  | _ => .bad
def loopD (tg : D → Env → Option Env) (body : Env → Out) : List D → Env → Out
  | [], env => .nx env
  | d :: r, env => match tg d env with
    | none => .bad
    | some e1 => match body e1 with
      | .nx e => loopD tg body r e
      | .ct e => loopD tg body r e
      | .bk e => .nx e
      | .ret v => .ret v
      | .exc c fs e => .exc c fs e
      | .bad => .bad
def sFor (di : Env → Res (List D)) (tg : D → Env → Option Env) (body : Env → Out) : Env → Out := fun env => oBind (di env) env fun ds => loopD tg body ds env
def whileD (dt : Env → Res Bool) (body : Env → Out) : Nat → Env → Out
  | 0, _ => .bad
  | n + 1, env => oBind (dt env) env fun t => if t = true then (match body env with
      | .nx e => whileD dt body n e
      | .ct e => whileD dt body n e
      | .bk e => .nx e
      | .ret v => .ret v
      | .exc c fs e => .exc c fs e
      | .bad => .bad) else .nx env
def sWhile (fuel : Env → Nat) (dt : Env → Res Bool) (body : Env → Out) : Env → Out := fun env => whileD dt body (fuel env) env
/-- xs[ix] = v, xs a list of one's own -/
def sPut (i : Nat) (di de : Env → Res D) : Env → Out := fun env => match env[i]? with
  | some (some (.lst xs)) => oBind (de env) env fun d => oBind (di env) env fun j => (match j with
    | .int j => (match ixN xs.length j with
      | some n => .nx (env.set i (some (.lst (xs.set n d))))
      | none => .bad)
    | _ => .bad)
  | _ => .bad
/-- xs[ix][iy] = v -/
def sPut2 (i : Nat) (di dj de : Env → Res D) : Env → Out := fun env => match env[i]? with
  | some (some (.lst xs)) => oBind (de env) env fun d => oBind (di env) env fun j => (match j with
    | .int j => (match ixN xs.length j with
      | some n => (match xs[n]? with
        | some (.lst ys) => oBind (dj env) env fun j2 => (match j2 with
          | .int j2 => (match ixN ys.length j2 with
            | some m => .nx (env.set i (some (.lst (xs.set n (.lst (ys.set m d))))))
            | none => .bad)
          | _ => .bad)
        | _ => .bad)
      | none => .bad)
    | _ => .bad)
  | _ => .bad
/-- self.f = v, self in slot i -/
def sFld' (i : Nat) (cs : List Str) (f : Str) (de : Env → Res D) : Env → Out := fun env => match env[i]? with
  | some (some (.ins c fs)) => oBind (de env) env fun d => if cs.contains c = true ∧ fs.length < 1000 then .nx (env.set i (some (.ins c (putD f d fs)))) else .bad
  | _ => .bad

/-! ### their rules -/
section
variable {X : Cx} {K : Fr} {W : WX} {w w' w1 bk ct : List Ow} {k rt : Ow} {s : Ws} {st : Stmt} {rest body : List Stmt} {b b2 : Env → Out} {e c tg iter : Expr} {de dj : Env → Res D} {dt : Env → Res Bool} {di : Env → Res (List D)} {dg : D → Env → Option Env} {pos pos' : Pos}
theorem ss_nil : PSs X [] (rdS K w W sNx ⟨w, bk, ct, rt⟩) := PSs_weak pss_nil fun D σ H ⟨B0, H0, B, env, S, h⟩ => h B σ H S
theorem ss_end (hw : fzB w w' = true := by rfl) : PSs X [] (rdS K w W sNx ⟨w', bk, ct, rt⟩) := PSs_weak pss_nil fun D σ H ⟨B0, H0, B, env, S, h⟩ => let ⟨B', S', _⟩ := S.fz hw; h B' σ H S'
theorem ss_cons (h1 : PS X st (rdS K w W b ⟨w1, bk, ct, rt⟩)) (h2 : PSs X rest (rdS K w1 W b2 ⟨w', bk, ct, rt⟩)) : PSs X (st :: rest) (rdS K w W (bSeq b b2) ⟨w', bk, ct, rt⟩) := PSs_weak (pss_cons h1 h2) fun D σ H ⟨B0, H0, B, env, S, h⟩ => by
  refine ⟨B0, H0, B, env, S, ?_⟩
  unfold bSeq at h
  cases e : b env with
  | nx e1 => rw [e] at h; exact fun B1 σ1 H1 S1 => ⟨B0, H0, B1, e1, S1, h⟩
  | bk e1 => rw [e] at h; exact h
  | ct e1 => rw [e] at h; exact h
  | ret d => rw [e] at h; exact h
  | exc c fs e1 => rw [e] at h; exact h
  | bad => rw [e] at h; exact h
theorem s_fz (h : PS X st (rdS K w' W b s)) (hw : fzB w w' = true := by rfl) : PS X st (rdS K w W b s) := PS_weak h fun D σ H ⟨B0, H0, B, env, S, h⟩ => let ⟨B', S', _⟩ := S.fz hw; ⟨B0, H0, B', env, S', h⟩
theorem ss_fz (h : PSs X rest (rdS K w' W b s)) (hw : fzB w w' = true := by rfl) : PSs X rest (rdS K w W b s) := PSs_weak h fun D σ H ⟨B0, H0, B, env, S, h⟩ => let ⟨B', S', _⟩ := S.fz hw; ⟨B0, H0, B', env, S', h⟩
theorem s_never : PS X st (rdS K w W sNever s) := PS_weak ps_never fun D σ H ⟨B0, H0, B, env, S, h⟩ => h
theorem ss_never : PSs X rest (rdS K w W sNever s) := PSs_weak pss_never fun D σ H ⟨B0, H0, B, env, S, h⟩ => h
theorem s_pass : PS X (.Pass pos) (rdS K w W sNx ⟨w, bk, ct, rt⟩) := PS_weak ps_pass fun D σ H ⟨B0, H0, B, env, S, h⟩ => h B σ H S
theorem s_doc {x : Str} {j : Nat} : PS X (.Expr (.Constant (.str x) j pos) pos') (rdS K w W sNx ⟨w, bk, ct, rt⟩) := PS_weak ps_doc fun D σ H ⟨B0, H0, B, env, S, h⟩ => h B σ H S
theorem s_brk (hw : fzB w s.bk = true := by rfl) : PS X (.Break pos) (rdS K w W sBk s) := PS_weak ps_break fun D σ H ⟨B0, H0, B, env, S, h⟩ => let ⟨B', S', _⟩ := S.fz hw; h B' σ H S'
theorem s_cnt (hw : fzB w s.ct = true := by rfl) : PS X (.Continue pos) (rdS K w W sCt s) := PS_weak ps_continue fun D σ H ⟨B0, H0, B, env, S, h⟩ => let ⟨B', S', _⟩ := S.fz hw; h B' σ H S'
/-- name = value -/
theorem s_set (i : Nat) {x : Str} (he : PE X e (rdE K w W de k)) (hl : i < w.length := by exact of_decide_eq_true rfl) (hN : X.N.Nodup := by decide) (hi : X.N[i]? = some x := by rfl) (hx : Loc X.env.scope x := by first | exact Or.inl rfl | exact Or.inr rfl) (hs : swapsWith e (some (.Name x pos')) pos.line X.env = pure false := by rfl)
    (hf : X.fn x = true ∨ X.env.scope.names.lookup x = some .local := by first | exact .inl rfl | exact .inr rfl) : PS X (.Assign [.Name x pos'] e pos) (rdS K w W (sSet i de) ⟨w.set i k, bk, ct, rt⟩) :=
  PS_weak (ps_set hN hi hx he hs hf) fun D σ H ⟨B0, H0, B, env, S, h⟩ => st_E S h fun d v H1 B1 g _ gr r nd hf h1 => by
    obtain ⟨hz, h1⟩ := Out.iff h1
    exact h1 B1 _ H1 (S.set gr r nd hf hz hl)
/-- name = [..] -/
theorem s_setLc (i : Nat) {ke : Ow} {y : Str} {elt : Expr} {ifs : List Expr} {scope : Scope} {py spos : Pos} {tt : Env → Res Bool} (own : List (Str × Nat)) (hi : PI X tg iter (rdI K w W di))
    (hg : ∀ (s : Shared) (H : Hp) (C : Addr) (cl : List (Str × Addr)) (fp : List Addr), PG (X.blk s H scope (compEnvC scope cl C X.env) fp) tg (rdG K (wipeW w (own.map (·.2))) (own.map (·.2)) dg))
    (ht : ∀ (s : Shared) (H : Hp) (C : Addr) (cl : List (Str × Addr)) (fp : List Addr), PTs (X.blk s H scope (compEnvC scope cl C X.env) fp) ifs (rdT K (wipeW w (own.map (·.2))) WF tt))
    (he : ∀ (s : Shared) (H : Hp) (C : Addr) (cl : List (Str × Addr)) (fp : List Addr), PE (X.blk s H scope (compEnvC scope cl C X.env) fp) elt (rdE K (wipeW w (own.map (·.2))) WF de ke))
    (hl : i < w.length := by exact of_decide_eq_true rfl) (ok : blkC X.N X.env.scope scope own = true := by decide +kernel) (hc : X.calm = true := by rfl) (hN : X.N.Nodup := by decide) (hy : X.N[i]? = some y := by rfl) (hyl : X.env.scope.names.lookup y = some .local := by rfl)
    (hsw : swapsWith (.ListComp elt [⟨tg, iter, ifs, 0⟩] scope pos) (some (.Name y py)) spos.line X.env = pure true := by rfl) (hs : ∀ x, foldedSetIterable iter X.env x = pure x := by intro _; rfl) :
    PS X (.Assign [.Name y py] (.ListComp elt [⟨tg, iter, ifs, 0⟩] scope pos) spos) (rdS K w W (sSet i (dLc (own.map (·.2)) di dg tt de)) ⟨w.set i (.l ke), bk, ct, rt⟩) :=
  PS_weak (ps_setLc hc hN hy hyl hsw hi (blkOk_by ok) hg ht he hs) fun D σ H ⟨B0, H0, B, env, S, h⟩ => rdE_lc _ _ _ (st_E S h fun d v H1 B1 g _ gr r nd hf h1 => by
    obtain ⟨hz, h1⟩ := Out.iff h1
    exact h1 B1 _ H1 (S.set gr r nd hf hz hl))
/-- a, b = value -/
theorem s_asg {vs : List Nat} (hg : PG X tg (rdG K w vs dg)) (he : PE X e (rdE K w W de .z)) (hs : swapsWithSole [tg] e pos.line X.env = pure false := by rfl) (hw : swappedStores [tg] e X.env = pure none := by rfl) (h1 : (assignEach [tg] X.env).map (·.2) = [assign tg X.env] := by rfl) :
    PS X (.Assign [tg] e pos) (rdS K w W (sAsg dg de) ⟨w, bk, ct, rt⟩) :=
  PS_weak (ps_asg he hg hs hw h1) fun D σ H ⟨B0, H0, B, env, S, h⟩ => st_E S h fun d v H1 B1 g _ gr r nd hf h1 => by
    obtain ⟨fp, R, k1, k2, k3, k4⟩ := S.gr gr
    cases et : dg d env with
    | none => rw [et] at h1; exact h1.elim
    | some e1 =>
      rw [et] at h1
      exact ⟨B1, env, fp, d, R, r.1, e1, et, fun σ' fp' R' s' _ => h1 B1 σ' H1 ⟨fp', R', k1, k2, k3, fun i a ha => k4 i a (s' i a ha)⟩⟩
theorem s_expr (he : PE X e (rdE K w W de k)) (hs : swapsWith e none pos.line X.env = pure false := by rfl) : PS X (.Expr e pos) (rdS K w W (sExpr de) ⟨w, bk, ct, rt⟩) :=
  PS_weak (ps_expr he hs) fun D σ H ⟨B0, H0, B, env, S, h⟩ => st_E S h fun d v H1 B1 g _ gr r nd hf h1 => h1 B1 σ H1 (S.gr gr)
theorem s_ret (he : PE X e (rdE K w W de s.rt)) : PS X (.Return (some e) pos) (rdS K w W (sRet de) s) :=
  PS_weak (ps_ret he) fun D σ H ⟨B0, H0, B, env, S, h⟩ => st_E S h fun d v H1 B1 g _ gr r nd hf h1 => by
    obtain ⟨fp, R, k1, k2, k3, k4⟩ := S
    exact h1 B1 H1 v g (k1.tr gr.b) (k2.tr gr.h) gr.s (fun a ha => (gr.f a (k2.live ha)).trans (k3 a ha)) r nd fun a ha => ⟨k2.back (hf a ha).1, (hf a ha).2⟩
theorem s_retN (hz : s.rt = .z := by rfl) : PS X (.Return none pos) (rdS K w W sRetN s) :=
  PS_weak ps_retN fun D σ H ⟨B0, H0, B, env, S, h⟩ => by
    obtain ⟨fp, R, k1, k2, k3, k4⟩ := S
    have h : AfS K W s B0 H0 D (.ret .non) := h
    refine h B H .non [] k1 k2 R.s k3 ?_ List.nodup_nil fun a ha => by cases ha
    rw [hz]
    exact ⟨.non, rfl⟩
/-- return x, x a list or an instance of one's own -/
theorem s_retO (i : Nat) {x : Str} (hw : w.getD i .z = s.rt := by rfl) (hN : X.N[i]? = some x := by rfl) (hv : Vis X.env.scope x := by first | exact Or.inl rfl | exact Or.inr (Or.inl rfl) | exact Or.inr (Or.inr rfl)) (hd : (x == ("__debug__" : Str)) = false := by decide)
    (hcd : (x == ("__classdict__" : Str)) = false := by decide) : PS X (.Return (some (.Name x pos')) pos) (rdS K w W (sRet (dv i)) s) :=
  PS_weak (ps_ret (pe_var hN hv hd hcd)) fun D σ H ⟨B0, H0, B, env, S, h⟩ => by
    obtain ⟨fp, R, k1, k2, k3, k4⟩ := S
    have h : AfS K W s B0 H0 D (oBind (dv i env) env .ret) := h
    rcases dv_cases i env with ⟨d, e1, e2⟩ | e2
    · rw [e2] at h
      obtain ⟨v, h1, h2⟩ := R.sl i d e1
      rw [hw] at h2
      exact ⟨v, h1, h B H v (fp i) k1 k2 R.s k3 h2 (R.nd i) fun a ha => ⟨k4 i a ha, R.bn i a ha⟩⟩
    · rw [e2] at h; exact h.elim
theorem s_if {b1 c1 : List Stmt} {db dc : Env → Out} (ht : PT X c (rdT K w W dt)) (hb : PSs X b1 (rdS K w W db s)) (hc : PSs X c1 (rdS K w W dc s)) : PS X (.If c b1 c1 pos) (rdS K w W (sIf dt db dc) s) :=
  PS_weak (ps_if ht hb hc) fun D σ H ⟨B0, H0, B, env, S, h⟩ => st_T S h fun t H1 B1 _ gr h1 => by
    cases t with
    | true => rw [if_pos rfl]; exact ⟨B0, H0, B1, env, S.gr gr, h1⟩
    | false => rw [if_neg Bool.false_ne_true]; exact ⟨B0, H0, B1, env, S.gr gr, h1⟩
/-- raise C('..') -/
theorem s_raise {cn : Str} (he : PMk X e (fun _ H Q => Q (.ref (He.ga K cn)) none H)) (tk : Takes X W) (hc : X.calm = true := by rfl) : PS X (.Raise (some e) none pos) (rdS K w W (sRaise cn) s) :=
  PS_weak (ps_raise hc tk he) fun D σ H ⟨B0, H0, B, env, S, h⟩ => exc_out S h H B none (Gr.rf (let ⟨_, R, _⟩ := S; R.s)) (.inl ⟨rfl, rfl⟩)
/-- one turn of a loop -/
theorem turn_out {B0 H0 B3 H5 : Hp} {D : Ends} {N : L2.St → Hp → Prop} {o : Out} {f : Env → Out} (x : Ex B0 B3) (y : Ex H0 H5) (z : ∀ a, H0 a ≠ none → B3 a = B0 a) (h : AfS K W ⟨w, bk, ct, rt⟩ B0 H0 D (match o with
      | .nx e => f e
      | .ct e => f e
      | .bk e => .nx e
      | .ret v => .ret v
      | .exc c fs e => .exc c fs e
      | .bad => .bad)) (hn : ∀ e, AfS K W ⟨w, bk, ct, rt⟩ B0 H0 D (f e) → ∀ B σ H, SRel K w B3 H5 B H σ e → N σ H) : AfS K W ⟨w, w, w, rt⟩ B3 H5 { D with nx := N, ct := N, bk := D.nx } o := by
  cases o with
  | nx e => exact hn e h
  | ct e => exact hn e h
  | bk e => exact fun B σ H S => h B σ H (SRel.ofBase x y z S).1
  | ret v => exact AfS.base (W := W) x y z (s := ⟨w, bk, ct, rt⟩) (o := .ret v) h
  | exc c fs e => exact AfS.base (W := W) x y z (s := ⟨w, bk, ct, rt⟩) (o := .exc c fs e) h
  | bad => exact h
theorem s_for {vs : List Nat} (hi : PI X tg iter (rdI K w W di)) (hg : PG X tg (rdG K w vs dg)) (hb : PSs X body (rdS K w W b ⟨w, w, w, rt⟩)) (hp : PassesOwn (model X.prog X.w) X.A X.env X.xe) (hc : X.calm = true := by rfl) (hs : ∀ x, foldedSetIterable iter X.env x = pure x := by intro _; rfl) :
    PS X (.For tg iter body [] pos) (rdS K w W (sFor di dg b) ⟨w, bk, ct, rt⟩) :=
  PS_weak (ps_for hp hc hi hg hb hs) fun D σ H ⟨B0, H0, B, env, S, h⟩ => st_Y S h fun ds J H1 B1 _ gr Y h1 => by
    refine ⟨fun i m σ H => m = ds.length - i ∧ i ≤ ds.length ∧ ∃ B e, SRel K w B0 H0 B H σ e ∧ Ex B1 B ∧ AfS K W ⟨w, bk, ct, rt⟩ B0 H0 D (loopD dg b (ds.drop i) e), ⟨ds.length, rfl, Nat.zero_le _, B1, env, S.gr gr, Ex.rfl' _, h1⟩, ?_⟩
    rintro i m σ H ⟨rfl, hi, B2, e, S2, x2, h2⟩
    have s2 : Ex B2 H := let ⟨_, R, _⟩ := S2; R.s
    by_cases hlt : i < ds.length
    · refine .inr ⟨Y.go i H (x2.tr s2) hlt, fun σ' H' => i + 1 ≤ ds.length ∧ ∃ B e, SRel K w B0 H0 B H' σ' e ∧ Ex B1 B ∧ AfS K W ⟨w, bk, ct, rt⟩ B0 H0 D (loopD dg b (ds.drop (i + 1)) e), fun σ' H' n => ⟨ds.length - (i + 1), by omega, rfl, n.1, n.2⟩, fun x H3 y => ?_⟩
      obtain ⟨B3, g3, r3⟩ := Y.yld i ds[i] H x H3 B2 x2 s2 (List.getElem?_eq_getElem hlt) y
      have S3 := S2.gr g3
      obtain ⟨fp, R, k1, k2, k3, k4⟩ := id S3
      rw [List.drop_eq_getElem_cons hlt] at h2
      unfold loopD at h2
      cases et : dg ds[i] e with
      | none => rw [et] at h2; exact h2.elim
      | some e1 =>
        rw [et] at h2
        refine ⟨B3, e, fp, ds[i], R, r3, e1, et, fun σ4 fp4 R4 s4 _ => ?_⟩
        have S4 : SRel K w B0 H0 B3 H3 σ4 e1 := ⟨fp4, R4, k1, k2, k3, fun i a ha => k4 i a (s4 i a ha)⟩
        obtain ⟨H5, S5, x5, f5⟩ := S4.rebase
        exact ⟨B3, H5, B3, e1, S5, turn_out k1 x5 f5 h2 fun e2 h6 B6 σ6 H6 S6 => ⟨hlt, B6, e2, (SRel.ofBase k1 x5 f5 S6).1, (x2.tr g3.b).tr (SRel.ofBase k1 x5 f5 S6).2, h6⟩⟩
    · have ei : i = ds.length := by omega
      subst ei
      rw [List.drop_length] at h2
      exact .inl ⟨Y.stop H (x2.tr s2), h2 B2 σ H S2⟩
theorem s_while (fuel : Env → Nat) (ht : PT X c (rdT K w W dt)) (hb : PSs X body (rdS K w W b ⟨w, w, w, rt⟩)) (hp : PassesOwn (model X.prog X.w) X.A X.env X.xe) : PS X (.While c body [] pos) (rdS K w W (sWhile fuel dt b) ⟨w, bk, ct, rt⟩) :=
  PS_weak (ps_while hp ht hb) fun D σ H ⟨B0, H0, B, env, S, h⟩ => by
    refine ⟨fun m σ H => ∃ B e, SRel K w B0 H0 B H σ e ∧ AfS K W ⟨w, bk, ct, rt⟩ B0 H0 D (whileD dt b m e), ⟨fuel env, B, env, S, h⟩, ?_⟩
    rintro m σ H ⟨B2, e, S2, h2⟩
    cases m with
    | zero => exact h2.elim
    | succ n =>
      refine st_T S2 h2 fun t H3 B3 _ gr h3 => ?_
      have S3 := S2.gr gr
      cases t with
      | false =>
        rw [if_neg Bool.false_ne_true] at h3 ⊢
        exact h3 B3 σ H3 S3
      | true =>
        rw [if_pos rfl] at h3 ⊢
        exact ⟨fun σ' H' => ∃ B e, SRel K w B0 H0 B H' σ' e ∧ AfS K W ⟨w, bk, ct, rt⟩ B0 H0 D (whileD dt b n e), fun σ' H' q => ⟨n, Nat.lt_succ_self _, q⟩, B0, H0, B3, e, S3, turn_out (Ex.rfl' _) (Ex.rfl' _) (fun _ _ => rfl) h3 fun e2 h6 B6 σ6 H6 S6 => ⟨B6, e2, S6, h6⟩⟩

/-! ### lists of one's own are written -/
theorem Rel.own {B H : Hp} {σ : L2.St} {env : Env} {fp : Nat → List Addr} {i : Nat} {d : Fz.D} (R : Rel K w B H σ env fp) (hw : w.getD i .z = .l k) (e : env[i]? = some (some d)) :
    ∃ p vs ds fs, d = .lst ds ∧ σ[i]? = some (some (.ref p)) ∧ H p = some (.lst vs) ∧ ROs (RepO K B H k) vs ds fs ∧ fp i = p :: fs := by
  obtain ⟨v, h1, h2⟩ := R.sl i d e
  rw [hw] at h2
  obtain ⟨p, vs, ds, fs, e1, e2, hp, r, ef⟩ := h2
  subst e1 e2
  exact ⟨p, vs, ds, fs, rfl, h1, hp, r, ef⟩
theorem List.set_get {α : Type} {l : List α} {i : Nat} {a : α} (h : l[i]? = some a) : l.set i a = l := by
  apply List.ext_getElem?
  intro j
  by_cases q : i = j
  · subst q
    have hl := (List.getElem?_eq_some_iff.mp h).1
    rw [List.getElem?_set_self hl, h]
  · rw [List.getElem?_set_ne q]
/-- the slot's own things are written anew; what lies apart from them stays -/
theorem Rel.put {B H H' : Hp} {σ : L2.St} {env : Env} {fp : Nat → List Addr} {i : Nat} {d d' : Fz.D} {v : V} {f : List Addr} (R : Rel K w B H σ env fp) (e : env[i]? = some (some d)) (hv : σ[i]? = some (some v)) (hH : ∀ a o, a ∉ fp i → H a = some o → H' a = some o)
    (r : RepO K B H' (w.getD i .z) v d' f) (nd : f.Nodup) (hf : ∀ a ∈ f, a ∈ fp i ∨ ((∀ j, a ∉ fp j) ∧ B a = none)) : Rel K w B H' σ (env.set i (some d')) (fun j => if j = i then f else fp j) := by
  have hi := (List.getElem?_eq_some_iff.mp e).1
  refine ⟨fun a o q => ?_, by rw [List.length_set]; exact R.len, fun j d2 e2 => ?_, fun j hj => ?_, fun j => ?_, fun j l hjl a ha => ?_, fun j a ha => ?_⟩
  · refine hH a o (fun m => ?_) (R.s a o q)
    rw [R.bn i a m] at q; cases q
  · by_cases q : j = i
    · subst q
      rw [List.getElem?_set_self hi] at e2
      cases e2
      exact ⟨v, hv, by simpa using r⟩
    · rw [List.getElem?_set_ne (Ne.symm q)] at e2
      obtain ⟨u, h1, h2⟩ := R.sl j d2 e2
      refine ⟨u, h1, ?_⟩
      simp only [q, if_false]
      exact h2.on (Ex.rfl' _) _ fun a ha o => hH a o fun m => R.dj j i q a ha m
  · by_cases q : j = i
    · subst q
      exact absurd (List.getElem?_set_self hi) (hj d')
    · rw [if_neg q]
      exact R.nn j fun d2 h2 => hj d2 (by rw [List.getElem?_set_ne (Ne.symm q)]; exact h2)
  · by_cases q : j = i
    · rw [if_pos q]; exact nd
    · rw [if_neg q]; exact R.nd j
  · by_cases q : j = i
    · rw [if_pos q] at ha
      have q2 : l ≠ i := fun z => hjl (q.trans z.symm)
      rw [if_neg q2]
      intro m
      rcases hf a ha with z | z
      · exact R.dj l i q2 a m z
      · exact z.1 l m
    · rw [if_neg q] at ha
      by_cases q2 : l = i
      · rw [if_pos q2]
        intro m
        rcases hf a m with z | z
        · exact R.dj j i q a ha z
        · exact z.1 j ha
      · rw [if_neg q2]; exact R.dj j l hjl a ha
  · by_cases q : j = i
    · rw [if_pos q] at ha
      rcases hf a ha with z | z
      · exact R.bn i a z
      · exact z.2
    · rw [if_neg q] at ha; exact R.bn j a ha
theorem SRel.put {B0 H0 B H H' : Hp} {σ : L2.St} {env : Env} {i : Nat} {d d' : Fz.D} {v : V} {f : List Addr} {fp : Nat → List Addr} (R : Rel K w B H σ env fp) (k1 : Ex B0 B) (k2 : Ex H0 H) (k3 : ∀ a, H0 a ≠ none → B a = B0 a) (k4 : ∀ i, ∀ a ∈ fp i, H0 a = none) (e : env[i]? = some (some d)) (hv : σ[i]? = some (some v))
    (hH : ∀ a o, a ∉ fp i → H a = some o → H' a = some o) (r : RepO K B H' (w.getD i .z) v d' f) (nd : f.Nodup) (hf : ∀ a ∈ f, a ∈ fp i ∨ ((∀ j, a ∉ fp j) ∧ B a = none ∧ H0 a = none)) : SRel K w B0 H0 B H' σ (env.set i (some d')) := by
  refine ⟨_, R.put e hv hH r nd fun a ha => (hf a ha).imp id fun z => ⟨z.1, z.2.1⟩, k1, fun a o q => ?_, k3, fun j a ha => ?_⟩
  · exact hH a o (fun m => by rw [k4 i a m] at q; cases q) (k2 a o q)
  · by_cases q : j = i
    · rw [if_pos q] at ha
      rcases hf a ha with z | z
      · exact k4 i a z
      · exact z.2.2
    · rw [if_neg q] at ha; exact k4 j a ha
theorem ROs.split {R : V → Fz.D → List Addr → Prop} : ∀ {vs : List V} {ds : List Fz.D} {fs : List Addr} {i : Nat} {d : Fz.D}, ROs R vs ds fs → ds[i]? = some d →
    ∃ v f fs1 fs2, vs[i]? = some v ∧ R v d f ∧ fs = fs1 ++ (f ++ fs2)
  | _, _, _, i, d, .nil, e => by simp at e
  | _, _, _, 0, d, .cons r t, e => by
    simp at e; subst e
    exact ⟨_, _, [], _, rfl, r, rfl⟩
  | _, _, _, i + 1, d, .cons (f := f0) r t, e => by
    obtain ⟨v, f, fs1, fs2, h1, h2, h3⟩ := ROs.split (i := i) (d := d) t (by simpa using e)
    exact ⟨v, f, f0 ++ fs1, fs2, by simpa using h1, h2, by rw [h3, List.append_assoc]⟩
/-- the item at i is another one; all others are told by R' -/
theorem ROs.setAt {R R' : V → Fz.D → List Addr → Prop} {u : V} {e : Fz.D} {g : List Addr} (hu : R' u e g) : ∀ {vs : List V} {ds : List Fz.D} {fs : List Addr} {i : Nat} {d : Fz.D}, ROs R vs ds fs → ds[i]? = some d →
    (∀ v d f, R v d f → (∀ a ∈ f, a ∈ fs) → R' v d f) → ∃ f fs1 fs2, fs = fs1 ++ (f ++ fs2) ∧ ROs R' (vs.set i u) (ds.set i e) (fs1 ++ (g ++ fs2))
  | _, _, _, i, d, .nil, h, _ => by simp at h
  | _, _, _, 0, d, .cons (f := f0) (fs := fs0) r t, h, k => by
    have go : ∀ {vs : List V} {ds : List Fz.D} {fs : List Addr}, (∀ v d f, R v d f → (∀ a ∈ f, a ∈ fs) → R' v d f) → ROs R vs ds fs → ROs R' vs ds fs := by
      intro vs ds fs k t
      induction t with
      | nil => exact .nil
      | cons r t ih => exact .cons (k _ _ _ r fun a ha => List.mem_append_left _ ha) (ih fun v d f r hf => k v d f r fun a ha => List.mem_append_right _ (hf a ha))
    exact ⟨f0, [], fs0, rfl, ROs.cons (f := g) (fs := fs0) hu (go (fun v d f r hf => k v d f r fun a ha => List.mem_append_right _ (hf a ha)) t)⟩
  | _, _, _, i + 1, d, .cons (f := f0) r t, h, k => by
    obtain ⟨f, fs1, fs2, h1, h2⟩ := ROs.setAt hu (i := i) (d := d) t (by simpa using h) fun v d f r hf => k v d f r fun a ha => List.mem_append_right _ (hf a ha)
    refine ⟨f, f0 ++ fs1, fs2, by rw [h1, List.append_assoc], ?_⟩
    have q := ROs.cons (k _ _ _ r fun a ha => List.mem_append_left _ ha) h2
    rw [List.append_assoc]
    exact q
/-- xs.append(e), xs a list of one's own -/
theorem s_app (i : Nat) {x : Str} {apos cpos npos : Pos} (hw : w.getD i .z = .l k := by rfl) (he : PE X e (rdE K w W de k)) (hN : X.N[i]? = some x := by rfl) (hv : Vis X.env.scope x := by first | exact Or.inl rfl | exact Or.inr (Or.inl rfl) | exact Or.inr (Or.inr rfl)) (hK : X.K = K := by rfl)
    (hd : (x == ("__debug__" : Str)) = false := by decide) (hcd : (x == ("__classdict__" : Str)) = false := by decide) (hs : swapsWith (.Call (.Attribute (.Name x npos) "append" apos) [e] [] cpos) none pos.line X.env = pure false := by rfl)
    (hbase : attributeBase (.Name x npos) "append" X.env (eval (.Name x npos) X.env) = eval (.Name x npos) X.env := by rfl)
    (hfew : ((backTo cpos (starEach [e] X.env)).all (fun x => !x.1) && (backToKw cpos (keywordEach [] X.env)).all (fun x => x.1.isSome) && decide ([e].length + ([] : List Keyword).length + (if ([] : List Keyword).isEmpty then 0 else 1) < 30)) = true := by rfl)
    (hline : (apos.endLine == cpos.line) = true := by rfl) (hst : starEach [e] X.env = (false, eval e X.env) :: starEach [] X.env := by rfl) (hplain : (backTo cpos (starEach [] X.env)).any (·.1) = false := by rfl) :
    PS X (.Expr (.Call (.Attribute (.Name x npos) "append" apos) [e] [] cpos) pos) (rdS K w W (sApp i de) ⟨w, bk, ct, rt⟩) := by
  subst hK
  have ha : PA X [e] (fun σ H Q => rdE X.K w W de k σ H fun v H1 => Q [v] H1) := PA_weak (pa_cons he pa_nil hst) fun σ H Q h => h
  refine PS_weak (ps_expr (pe_bm PySem.F.plainAttrs_list PySem.F.slot_list_append PySem.F.type_list_append mt_append (pe_var hN hv hd hcd) ha hbase hfew hline hst hplain) hs) fun D σ H ⟨B0, H0, B, env, S, h⟩ => ?_
  unfold sApp at h
  split at h
  · rename_i xs e1
    obtain ⟨fp, R, k1, k2, k3, k4⟩ := id S
    obtain ⟨p, vs, ds, fs, ed, hp, hH, ro, ef⟩ := R.own hw e1
    cases ed
    refine ⟨.ref p, hp, .inl ⟨rfl, vs, SqL.of hH⟩, st_E S h fun d v H1 B1 g _ gr r nd hf h1 => ?_⟩
    obtain ⟨hz, h1⟩ := Out.iff h1
    refine ⟨p, vs, v, rfl, rfl, gr.h _ _ hH, by rw [ro.length, sizeLine_eq]; exact hz, ?_⟩
    have pn : p ∉ fs := by have q := R.nd i; rw [ef] at q; exact (List.nodup_cons.mp q).1
    have pg : p ∉ g := fun m => by have q := (hf p m).1; rw [hH] at q; cases q
    have off : ∀ {a : Addr}, a ≠ p → (upd H1 p (.lst (vs ++ [v]))) a = H1 a := fun h => upd_ne h
    refine h1 B1 σ _ (SRel.put (R.gr gr) (k1.tr gr.b) (k2.tr gr.h) (fun a ha => (gr.f a (k2.live ha)).trans (k3 a ha)) k4 e1 hp (fun a o m q => ?_) (f := p :: (fs ++ g)) ?_ ?_ ?_)
    · rw [off (fun z => m (by rw [z, ef]; exact List.mem_cons_self))]; exact q
    · rw [hw]
      refine ⟨p, vs ++ [v], _, fs ++ g, rfl, rfl, upd_same, ROs.snoc (r.on (Ex.rfl' _) k fun a ha o q => ?_) (ro.onD gr.b fun a ha o q => ?_), rfl⟩
      · rw [off fun z => pg (z ▸ ha)]; exact q
      · rw [off fun z => pn (z ▸ ha)]; exact gr.h a o q
    · refine List.nodup_cons.mpr ⟨fun m => (List.mem_append.mp m).elim pn pg, List.nodup_append.mpr ⟨?_, nd, fun a ha b hb q => ?_⟩⟩
      · have q := R.nd i
        rw [ef] at q
        exact (List.nodup_cons.mp q).2
      · subst q
        exact ro.mem a ha (hf a hb).1
    · intro a ha
      rcases List.mem_cons.mp ha with q | q
      · exact .inl (by rw [q, ef]; exact List.mem_cons_self)
      · rcases List.mem_append.mp q with q | q
        · exact .inl (by rw [ef]; exact List.mem_cons_of_mem _ q)
        · exact .inr ⟨fun j m => R.live j a m (hf a q).1, (hf a q).2, k2.back (hf a q).1⟩
  · exact h.elim
theorem ROs.len {R : V → Fz.D → List Addr → Prop} {vs : List V} {ds : List Fz.D} {fs : List Addr} (r : ROs R vs ds fs) : vs.length = ds.length := r.length
/-- xs[ix] = e -/
theorem s_put (i : Nat) {x : Str} {ix : Expr} {di : Env → Res Fz.D} {npos tpos : Pos} (hw : w.getD i .z = .l k := by rfl) (he : PE X e (rdE K w W de k)) (hx : PE X ix (rdE K w W di .z)) (hN : X.N[i]? = some x := by rfl) (hv : Vis X.env.scope x := by first | exact Or.inl rfl | exact Or.inr (Or.inl rfl) | exact Or.inr (Or.inr rfl))
    (hd : (x == ("__debug__" : Str)) = false := by decide) (hcd : (x == ("__classdict__" : Str)) = false := by decide) (hp : PlainIx ix := by exact fun _ _ => rfl) (hs : swapsWithSole [.Subscript (.Name x npos) ix tpos] e pos.line X.env = pure false := by rfl)
    (hw2 : swappedStores [.Subscript (.Name x npos) ix tpos] e X.env = pure none := by rfl) (h1 : (assignEach [.Subscript (.Name x npos) ix tpos] X.env).map (·.2) = [assign (.Subscript (.Name x npos) ix tpos) X.env] := by rfl)
    (ha : ∀ v, assign (.Subscript (.Name x npos) ix tpos) X.env v = (do
      let ov ← holding [v] (eval (.Name x npos) X.env)
      let iv ← holding [v, ov] (eval ix X.env)
      standAt tpos
      holding [v, ov, iv] (setItem ov iv v)
      release [v, ov, iv] []) := by intro _; rfl) :
    PS X (.Assign [.Subscript (.Name x npos) ix tpos] e pos) (rdS K w W (sPut i di de) ⟨w, bk, ct, rt⟩) := by
  refine PS_weak (ps_asg he (pg_sub (pe_var hN hv hd hcd) hx set_list ha) hs hw2 h1) fun D σ H ⟨B0, H0, B, env, S, h⟩ => ?_
  unfold sPut at h
  split at h
  · rename_i xs e1
    refine st_E S h fun d v H1 B1 g _ gr r nd hf h1 => ?_
    have S1 := S.gr gr
    obtain ⟨fp, R0, k1, k2, k3, k4⟩ := id S
    obtain ⟨p, vs, ds, fs, ed, hp, hH, ro, ef⟩ := R0.own hw e1
    cases ed
    refine ⟨.ref p, hp, st_E S1 h1 fun d2 v2 H2 B2 g2 ed2 gr2 r2 nd2 hf2 h2 => ?_⟩
    split at h2
    · rename_i j
      split at h2
      · rename_i n en
        have ev2 := r2.1.intI
        have g12 := gr.tr gr2
        have hn : n < xs.length := by
          unfold ixN at en
          split at en
          · split at en
            · cases en; omega
            · cases en
          · split at en
            · cases en; omega
            · cases en
        have pn : p ∉ fs := by have q := R0.nd i; rw [ef] at q; exact (List.nodup_cons.mp q).1
        have pg : p ∉ g := fun m => by have q := (hf p m).1; rw [hH] at q; cases q
        refine ⟨p, vs, j, n, rfl, ev2, g12.h _ _ hH, by rw [ro.length]; exact en, ?_⟩
        have off : ∀ {a : Addr}, a ≠ p → (upd H2 p (.lst (vs.set n v))) a = H2 a := fun h => upd_ne h
        obtain ⟨f, fs1, fs2, ea, eb⟩ := ROs.setAt (R' := RepO K B2 (upd H2 p (.lst (vs.set n v))) k) (u := v) (e := d) (g := g) ((r.mono gr2.b gr2.h).on (Ex.rfl' _) k fun a ha o q => by rw [off fun z => pg (z ▸ ha)]; exact q) ro (List.getElem?_eq_getElem hn)
          fun u d f r hs => (r.mono g12.b g12.h).on (Ex.rfl' _) k fun a ha o q => by rw [off fun z => pn (z ▸ hs a ha)]; exact q
        have nfs : fs.Nodup := by have q := R0.nd i; rw [ef] at q; exact (List.nodup_cons.mp q).2
        have sub : ∀ a ∈ fs1 ++ (g ++ fs2), a ∈ fs ∨ a ∈ g := fun a ha => by
          rw [ea]
          rcases List.mem_append.mp ha with q | q
          · exact .inl (List.mem_append_left _ q)
          · rcases List.mem_append.mp q with q | q
            · exact .inr q
            · exact .inl (List.mem_append_right _ (List.mem_append_right _ q))
        refine h2 B2 σ _ (SRel.put (R0.gr g12) (k1.tr g12.b) (k2.tr g12.h) (fun a ha => (g12.f a (k2.live ha)).trans (k3 a ha)) k4 e1 hp (fun a o m q => ?_) (f := p :: (fs1 ++ (g ++ fs2))) ?_ ?_ ?_)
        · rw [off (fun z => m (by rw [z, ef]; exact List.mem_cons_self))]; exact q
        · rw [hw]
          exact ⟨p, _, _, _, rfl, rfl, upd_same, eb, rfl⟩
        · refine List.nodup_cons.mpr ⟨fun m => (sub p m).elim pn pg, ?_⟩
          rw [ea] at nfs
          have fg : ∀ a ∈ fs, a ∉ g := fun a ha m => ro.mem a ha (hf a m).1
          rw [ea] at fg
          obtain ⟨n1, n2, n3⟩ := List.nodup_append.mp nfs
          obtain ⟨_, n4, _⟩ := List.nodup_append.mp n2
          refine List.nodup_append.mpr ⟨n1, List.nodup_append.mpr ⟨nd, n4, fun a ha b hb q => ?_⟩, fun a ha b hb q => ?_⟩
          · subst q
            exact fg a (List.mem_append_right _ (List.mem_append_right _ hb)) ha
          · subst q
            rcases List.mem_append.mp hb with q | q
            · exact fg a (List.mem_append_left _ ha) q
            · exact n3 a ha a (List.mem_append_right _ q) rfl
        · intro a ha
          rcases List.mem_cons.mp ha with q | q
          · exact .inl (by rw [q, ef]; exact List.mem_cons_self)
          · rcases sub a q with q | q
            · exact .inl (by rw [ef]; exact List.mem_cons_of_mem _ q)
            · refine .inr ⟨fun j m => R0.live j a m (hf a q).1, (gr2.f a ?_).trans (hf a q).2, k2.back (hf a q).1⟩
              exact r.mem _ a q
      · exact h2.elim
    · exact h2.elim
  · exact h.elim
end
end Fz
set_option Elab.async false
set_option linter.all false
set_option maxRecDepth 100000
set_option maxHeartbeats 4000000
/-! Functionalization: more statements: xs[i][j] = v, self.f = v, try. -/
namespace Fz
open PySem PySem.Spec PyProof.Rows L2

section
variable {X : Cx} {K : Fr} {W : WX} {w w' w1 bk ct : List Ow} {k rt : Ow} {s : Ws} {st : Stmt} {rest body : List Stmt} {b b2 : Env → Out} {e c tg iter : Expr} {de dj : Env → Res D} {dt : Env → Res Bool} {di : Env → Res (List D)} {dg : D → Env → Option Env} {pos pos' : Pos}
theorem ixN_lt {n : Nat} {i : Int} {j : Nat} (h : ixN n i = some j) : j < n := by
  unfold ixN at h
  split at h
  · split at h
    · cases h; omega
    · cases h
  · split at h
    · cases h; omega
    · cases h
theorem atI_of {α : Type} {xs : List α} {i : Int} {j : Nat} (h : ixN xs.length i = some j) : atI xs i = xs[j]? := by
  unfold atI
  rw [h] <;> rfl
theorem ROs.imp2 {R R' : V → Fz.D → List Addr → Prop} : ∀ {vs : List V} {ds : List Fz.D} {fs : List Addr}, ROs R vs ds fs → (∀ v d f, R v d f → (∀ a ∈ f, a ∈ fs) → R' v d f) → ROs R' vs ds fs
  | _, _, _, .nil, _ => .nil
  | _, _, _, .cons r t, h => .cons (h _ _ _ r fun a ha => List.mem_append_left _ ha) (t.imp2 fun v d f r hf => h v d f r fun a ha => List.mem_append_right _ (hf a ha))
/-- one item, and the others -/
theorem ROs.focus {R : V → Fz.D → List Addr → Prop} : ∀ {vs : List V} {ds : List Fz.D} {fs : List Addr} {i : Nat} {d : Fz.D}, ROs R vs ds fs → ds[i]? = some d →
    ∃ v f fs1 fs2, vs[i]? = some v ∧ R v d f ∧ fs = fs1 ++ (f ++ fs2) ∧ ∀ (R' : V → Fz.D → List Addr → Prop) u e g, R' u e g → (∀ v d f, R v d f → (∀ a ∈ f, a ∈ fs1 ++ fs2) → R' v d f) → ROs R' (vs.set i u) (ds.set i e) (fs1 ++ (g ++ fs2))
  | _, _, _, i, d, .nil, h => by simp at h
  | _, _, _, 0, d, .cons (f := f0) (fs := fs0) r t, h => by
    simp at h; subst h
    exact ⟨_, f0, [], fs0, rfl, r, rfl, fun R' u e g hu k => ROs.cons (f := g) (fs := fs0) hu (t.imp2 k)⟩
  | _, _, _, i + 1, d, .cons (f := f0) r t, h => by
    obtain ⟨v, f, fs1, fs2, h1, h2, h3, h4⟩ := ROs.focus (i := i) (d := d) t (by simpa using h)
    refine ⟨v, f, f0 ++ fs1, fs2, by simpa using h1, h2, by rw [h3, List.append_assoc], fun R' u e g hu k => ?_⟩
    have q := ROs.cons (k _ _ _ r fun a ha => List.mem_append_left _ (List.mem_append_left _ ha)) (h4 R' u e g hu fun v d f r hf => k v d f r fun a ha => by
      rw [List.append_assoc]
      exact List.mem_append_right _ (hf a ha))
    rw [List.append_assoc]
    exact q
/-- xs[ix][iy] = e -/
theorem s_put2 (i : Nat) {x : Str} {ix iy : Expr} {di dj : Env → Res Fz.D} {npos ipos tpos : Pos} (hw : w.getD i .z = .l (.l k) := by rfl) (he : PE X e (rdE K w W de k)) (hx : PE X ix (rdE K w W di .z)) (hy : PE X iy (rdE K w W dj .z)) (hN : X.N[i]? = some x := by rfl)
    (hv : Vis X.env.scope x := by first | exact Or.inl rfl | exact Or.inr (Or.inl rfl) | exact Or.inr (Or.inr rfl)) (hd : (x == ("__debug__" : Str)) = false := by decide) (hcd : (x == ("__classdict__" : Str)) = false := by decide) (hp : PlainIx ix := by exact fun _ _ => rfl)
    (ha : ∀ v, assign (.Subscript (.Subscript (.Name x npos) ix ipos) iy tpos) X.env v = (do
      let ov ← holding [v] (eval (.Subscript (.Name x npos) ix ipos) X.env)
      let iv ← holding [v, ov] (eval iy X.env)
      standAt tpos
      holding [v, ov, iv] (setItem ov iv v)
      release [v, ov, iv] []) := by intro _; rfl)
    (hs : swapsWithSole [.Subscript (.Subscript (.Name x npos) ix ipos) iy tpos] e pos.line X.env = pure false := by rfl)
    (hw2 : swappedStores [.Subscript (.Subscript (.Name x npos) ix ipos) iy tpos] e X.env = pure none := by rfl) (h1 : (assignEach [.Subscript (.Subscript (.Name x npos) ix ipos) iy tpos] X.env).map (·.2) = [assign (.Subscript (.Subscript (.Name x npos) ix ipos) iy tpos) X.env] := by rfl) (hK : X.K = K := by rfl) :
    PS X (.Assign [.Subscript (.Subscript (.Name x npos) ix ipos) iy tpos] e pos) (rdS K w W (sPut2 i di dj de) ⟨w, bk, ct, rt⟩) := by
  subst hK
  refine PS_weak (ps_asg he (pg_sub (pe_ix ix_seq (pe_var hN hv hd hcd) hx hp) hy set_list ha) hs hw2 h1) fun D σ H ⟨B0, H0, B, env, S, h⟩ => ?_
  unfold sPut2 at h
  split at h
  · rename_i xs e1
    refine st_E S h fun d v H1 B1 g _ gr r nd hf h1 => ?_
    have S1 := S.gr gr
    obtain ⟨fp, R0, k1, k2, k3, k4⟩ := id S
    obtain ⟨p, vs, ds, fs, ed, hp, hH, ro, ef⟩ := R0.own hw e1
    cases ed
    refine ⟨.ref p, hp, st_E S1 h1 fun d2 v2 H2 B2 g2 ed2 gr2 r2 nd2 hf2 h2 => ?_⟩
    split at h2
    · rename_i j
      split at h2
      · rename_i n en
        split at h2
        · rename_i ys ey
          have ev2 := r2.1.intI
          have g12 := gr.tr gr2
          have S2 := S1.gr gr2
          obtain ⟨u, f, fs1, fs2, eu, ⟨q, us, es, gs, e3, e4, hq, rq, eq⟩, ea, foc⟩ := ro.focus ey
          subst e3
          cases e4
          have hq2 := g12.h _ _ hq
          refine .inl ⟨p, vs, j, .ref q, rfl, ev2, SqL.of (g12.h _ _ hH), by rw [atI_of (by rw [ro.length]; exact en)]; exact eu, st_E S2 h2 fun d3 v3 H3 B3 g3 ed3 gr3 r3 nd3 hf3 h3 => ?_⟩
          split at h3
          · rename_i j2
            split at h3
            · rename_i m em
              have ev3 := r3.1.intI
              have g13 := g12.tr gr3
              have hm := ixN_lt em
              refine ⟨q, us, j2, m, rfl, ev3, gr3.h _ _ hq2, by rw [rq.length]; exact em, ?_⟩
              have nfs : (p :: fs).Nodup := by have z := R0.nd i; rw [ef] at z; exact z
              obtain ⟨pn, nfs⟩ := List.nodup_cons.mp nfs
              rw [ea, eq] at nfs pn
              obtain ⟨n1, n2, n3⟩ := List.nodup_append.mp nfs
              obtain ⟨n4, n5, n6⟩ := List.nodup_append.mp n2
              obtain ⟨qn, n7⟩ := List.nodup_cons.mp n4
              have qg : q ∉ g := fun z => by have y := (hf q z).1; rw [hq] at y; cases y
              have off : ∀ {a : Addr}, a ≠ q → (upd H3 q (.lst (us.set m v))) a = H3 a := fun h => upd_ne h
              -- the inner list
              obtain ⟨f0, a1, a2, eb, rb⟩ := ROs.setAt (R' := RepO X.K B3 (upd H3 q (.lst (us.set m v))) k) (u := v) (e := d) (g := g) ((r.mono (gr2.tr gr3).b (gr2.tr gr3).h).on (Ex.rfl' _) k fun a ha o z => by rw [off fun y => qg (y ▸ ha)]; exact z) rq (List.getElem?_eq_getElem hm)
                fun u d f r hs => (r.mono g13.b g13.h).on (Ex.rfl' _) k fun a ha o z => by rw [off fun y => qn (y ▸ hs a ha)]; exact z
              have r4 : RepO X.K B3 (upd H3 q (.lst (us.set m v))) (.l k) (.ref q) (.lst (ys.set m d)) (q :: (a1 ++ (g ++ a2))) := ⟨q, _, _, _, rfl, rfl, upd_same, rb, rfl⟩
              -- all lists
              have pq : p ≠ q := fun z => by
                subst z
                exact pn (List.mem_append_right _ (List.mem_append_left _ List.mem_cons_self))
              have sub1 : ∀ a ∈ a1 ++ (g ++ a2), a ∈ gs ∨ a ∈ g := fun a ha => by
                rw [eb]
                rcases List.mem_append.mp ha with z | z
                · exact .inl (List.mem_append_left _ z)
                · rcases List.mem_append.mp z with z | z
                  · exact .inr z
                  · exact .inl (List.mem_append_right _ (List.mem_append_right _ z))
              have eset : vs.set n (.ref q) = vs := List.set_get eu
              have ro4 : ROs (RepO X.K B3 (upd H3 q (.lst (us.set m v))) (.l k)) vs (xs.set n (.lst (ys.set m d))) (fs1 ++ ((q :: (a1 ++ (g ++ a2))) ++ fs2)) := by
                have z := foc (RepO X.K B3 (upd H3 q (.lst (us.set m v))) (.l k)) (.ref q) (.lst (ys.set m d)) (q :: (a1 ++ (g ++ a2))) r4 fun v d f r hs => (r.mono g13.b g13.h).on (Ex.rfl' _) _ fun a ha o z => by
                  rw [off fun y => ?_]
                  · exact z
                  · subst y
                    rcases List.mem_append.mp (hs a ha) with y | y
                    · exact n3 a y a (List.mem_append_left _ List.mem_cons_self) rfl
                    · exact n6 a List.mem_cons_self a y rfl
                rw [eset] at z
                exact z
              have live : ∀ a ∈ fs, H a ≠ none := fun a ha => ro.mem a ha
              rw [ea, eq] at live
              have ng : ∀ a ∈ g, a ∉ fs1 ++ (q :: gs ++ fs2) := fun a ha m => live a m (hf a ha).1
              have pg : p ∉ g := fun z => by have y := (hf p z).1; rw [hH] at y; cases y
              have sub2 : ∀ a ∈ fs1 ++ (q :: (a1 ++ (g ++ a2)) ++ fs2), a ∈ fs1 ++ (q :: gs ++ fs2) ∨ a ∈ g := fun a ha => by
                rcases List.mem_append.mp ha with z | z
                · exact .inl (List.mem_append_left _ z)
                · rcases List.mem_append.mp z with z | z
                  · rcases List.mem_cons.mp z with z | z
                    · exact .inl (by rw [z]; exact List.mem_append_right _ (List.mem_append_left _ List.mem_cons_self))
                    · rcases sub1 a z with z | z
                      · exact .inl (List.mem_append_right _ (List.mem_append_left _ (List.mem_cons_of_mem _ z)))
                      · exact .inr z
                  · exact .inl (List.mem_append_right _ (List.mem_append_right _ z))
              refine h3 B3 σ _ (SRel.put (R0.gr g13) (k1.tr g13.b) (k2.tr g13.h) (fun a ha => (g13.f a (k2.live ha)).trans (k3 a ha)) k4 e1 hp (fun a o m z => ?_) (f := p :: (fs1 ++ (q :: (a1 ++ (g ++ a2)) ++ fs2))) ?_ ?_ ?_)
              · rw [off (fun y => m (by rw [y, ef, ea, eq]; exact List.mem_cons_of_mem _ (List.mem_append_right _ (List.mem_append_left _ List.mem_cons_self))))]; exact z
              · rw [hw]
                refine ⟨p, vs, _, _, rfl, rfl, ?_, ro4, rfl⟩
                rw [off pq]; exact g13.h _ _ hH
              · have n8 : (a1 ++ (g ++ a2)).Nodup := by
                  rw [eb] at n7
                  obtain ⟨m1, m2, m3⟩ := List.nodup_append.mp n7
                  obtain ⟨_, m4, _⟩ := List.nodup_append.mp m2
                  have gg : ∀ a ∈ g, a ∉ gs := fun a ha m => ng a ha (List.mem_append_right _ (List.mem_append_left _ (List.mem_cons_of_mem _ m)))
                  rw [eb] at gg
                  refine List.nodup_append.mpr ⟨m1, List.nodup_append.mpr ⟨nd, m4, fun a ha b hb z => ?_⟩, fun a ha b hb z => ?_⟩
                  · subst z
                    exact gg a ha (List.mem_append_right _ (List.mem_append_right _ hb))
                  · subst z
                    rcases List.mem_append.mp hb with z | z
                    · exact gg a z (List.mem_append_left _ ha)
                    · exact m3 a ha a (List.mem_append_right _ z) rfl
                refine List.nodup_cons.mpr ⟨fun m => (sub2 p m).elim pn pg, List.nodup_append.mpr ⟨n1, List.nodup_append.mpr ⟨List.nodup_cons.mpr ⟨fun m => (sub1 q m).elim qn qg, n8⟩, n5, fun a ha b hb z => ?_⟩, fun a ha b hb z => ?_⟩⟩
                · subst z
                  rcases List.mem_cons.mp ha with z | z
                  · exact n6 a (by rw [z]; exact List.mem_cons_self) a hb rfl
                  · rcases sub1 a z with z | z
                    · exact n6 a (List.mem_cons_of_mem _ z) a hb rfl
                    · exact ng a z (List.mem_append_right _ (List.mem_append_right _ hb))
                · subst z
                  rcases List.mem_append.mp hb with z | z
                  · rcases List.mem_cons.mp z with z | z
                    · exact n3 a ha a (by rw [z]; exact List.mem_append_left _ List.mem_cons_self) rfl
                    · rcases sub1 a z with z | z
                      · exact n3 a ha a (List.mem_append_left _ (List.mem_cons_of_mem _ z)) rfl
                      · exact ng a z (List.mem_append_left _ ha)
                  · exact n3 a ha a (List.mem_append_right _ z) rfl
              · intro a ha
                rcases List.mem_cons.mp ha with z | z
                · exact .inl (by rw [z, ef]; exact List.mem_cons_self)
                · rcases sub2 a z with z | z
                  · exact .inl (by rw [ef, ea, eq]; exact List.mem_cons_of_mem _ z)
                  · refine .inr ⟨fun j m => R0.live j a m (hf a z).1, ((gr2.tr gr3).f a ?_).trans (hf a z).2, k2.back (hf a z).1⟩
                    exact r.mem _ a z
            · exact h3.elim
          · exact h3.elim
        · exact h2.elim
      · exact h2.elim
    · exact h2.elim
  · exact h.elim
theorem RepF.put {B : Hp} {f : Str} {v : V} {d : Fz.D} (h : Rep K B v d) : ∀ {vs : List (Str × V)} {ds : List (Str × Fz.D)}, RepF K B vs ds → RepF K B (putF f v vs) (putD f d ds)
  | _, _, .nil => .cons h .nil
  | _, _, .cons (f := g) r t => by
    unfold putF putD
    by_cases q : f = g
    · rw [if_pos q, if_pos q.symm]; exact .cons h t
    · rw [if_neg q, if_neg (Ne.symm q)]; exact .cons r (RepF.put h t)
theorem Rel.ownI {x : Addr} {B H : Hp} {σ : L2.St} {env : Env} {fp : Nat → List Addr} {i : Nat} {d : Fz.D} (R : Rel K w B H σ env fp) (hw : w.getD i .z = .at x) (e : env[i]? = some (some d)) :
    ∃ dx fvs c fs, d = .ins c fs ∧ σ[i]? = some (some (.ref x)) ∧ H x = some (.ins (He.ga K c) dx fvs) ∧ RepF K B fvs fs ∧ fp i = [x] := by
  obtain ⟨v, h1, h2⟩ := R.sl i d e
  rw [hw] at h2
  obtain ⟨dx, fvs, c, fs, e1, e2, hx, r, ef⟩ := h2
  subst e1 e2
  exact ⟨dx, fvs, c, fs, rfl, h1, hx, r, ef⟩
/-- self.f = e, self one's own instance at x -/
theorem s_fld (i : Nat) {x : Addr} {n f : Str} {npos : Pos} {cs : List Str} (hw : w.getD i .z = .at x := by rfl) (he : PE X e (rdE K w W de .z)) (hc : FldOk K cs f) (hN : X.N[i]? = some n := by rfl) (hv : Vis X.env.scope n := by first | exact Or.inl rfl | exact Or.inr (Or.inl rfl) | exact Or.inr (Or.inr rfl))
    (hd : (n == ("__debug__" : Str)) = false := by decide) (hcd : (n == ("__classdict__" : Str)) = false := by decide) (hs : swapsWith e (some (.Attribute (.Name n npos) f pos')) pos.line X.env = pure false := by rfl) (hK : X.K = K := by rfl) :
    PS X (.Assign [.Attribute (.Name n npos) f pos'] e pos) (rdS K w W (sFld' i cs f de) ⟨w, bk, ct, rt⟩) := by
  subst hK
  refine PS_weak (ps_fld (pe_var hN hv hd hcd) he hs) fun D σ H ⟨B0, H0, B, env, S, h⟩ => ?_
  unfold sFld' at h
  split at h
  · rename_i c fs e1
    refine st_E S h fun d v H1 B1 g ed gr r nd hf h1 => ?_
    obtain ⟨fp, R0, k1, k2, k3, k4⟩ := id S
    obtain ⟨dx, fvs, c', fs', ed', hp, hH, rf, ef⟩ := R0.ownI hw e1
    cases ed'
    obtain ⟨⟨hm, hz⟩, h1⟩ := Out.iff h1
    obtain ⟨q1, q2⟩ := hc c (by simpa using hm)
    refine ⟨.ref x, hp, x, He.ga X.K c, dx, fvs, rfl, gr.h _ _ hH, q1, q2, by rw [rf.length]; exact hz, ?_⟩
    have off : ∀ {a : Addr}, a ≠ x → (upd H1 x (.ins (He.ga X.K c) dx (putF f v fvs))) a = H1 a := fun h => upd_ne h
    refine h1 B1 σ _ (SRel.put (R0.gr gr) (k1.tr gr.b) (k2.tr gr.h) (fun a ha => (gr.f a (k2.live ha)).trans (k3 a ha)) k4 e1 hp (fun a o m q => ?_) (f := [x]) ?_ (by simp) fun a ha => .inl (by rw [ef]; exact ha))
    · rw [off (fun z => m (by rw [z, ef]; exact List.mem_cons_self))]; exact q
    · rw [hw]
      exact ⟨dx, _, c, _, rfl, rfl, upd_same, RepF.put r.1 (rf.mono gr.b), rfl⟩
  · exact h.elim
/-- self.f, self one's own instance -/
def oFldO (i : Nat) (cs : List Str) (f : Str) : Env → Res Fz.D := fun env => (dv i env).bind (oFld cs f)
theorem e_fldO (i : Nat) {x : Addr} {n f : Str} {npos : Pos} {cs : List Str} (hw : w.getD i .z = .at x := by rfl) (hc : FldOk K cs f) (hN : X.N[i]? = some n := by rfl) (hv : Vis X.env.scope n := by first | exact Or.inl rfl | exact Or.inr (Or.inl rfl) | exact Or.inr (Or.inr rfl))
    (hd : (n == ("__debug__" : Str)) = false := by decide) (hcd : (n == ("__classdict__" : Str)) = false := by decide) (hb : attributeBase (.Name n npos) f X.env (eval (.Name n npos) X.env) = eval (.Name n npos) X.env := by rfl) (hK : X.K = K := by rfl) :
    PE X (.Attribute (.Name n npos) f pos) (rdE K w W (oFldO i cs f) .z) := by
  subst hK
  refine PE_weak (pe_fld (pe_var hN hv hd hcd) hb) fun σ H Q ⟨B, env, fp, R, h⟩ => ?_
  have h : AfE X.K W .z B σ H Q ((dv i env).bind (oFld cs f)) := h
  rcases dv_cases i env with ⟨d, e1, e2⟩ | e2
  · rw [e2] at h
    obtain ⟨dx, fvs, c, fs, ed, hp, hH, rf, ef⟩ := R.ownI hw e1
    cases ed
    obtain ⟨hm, h1⟩ := AfE.iff (show AfE X.K W .z B σ H Q (if cs.contains c = true then (match fs.lookup f with | some d => .ok d | none => .bad) else .bad) from h)
    obtain ⟨d, hd, h1⟩ := AfE.opt h1
    obtain ⟨u, hu, ru⟩ := rf.lookup hd
    obtain ⟨k1, k2⟩ := hc c (by simpa using hm)
    exact ⟨.ref x, hp, x, He.ga X.K c, dx, fvs, u, rfl, hH, k1, k2, hu, AfE.val R.s h1 ru⟩
  · rw [e2] at h; exact h.elim

/-! ### try -/
def unE (i : Nat) : Out → Out
  | .nx e => .nx (e.set i none)
  | .bk e => .bk (e.set i none)
  | .ct e => .ct (e.set i none)
  | .ret d => .ret d
  | .exc _ _ _ => .bad
  | .bad => .bad
/-- try: body, except C as e: suite. sub: which class C takes; e's slot: i. An error with fields of its own is not told here -/
def sTry (sub : List (Str × Bool)) (i : Nat) (body suite : Env → Out) : Env → Out := fun env => match body env with
  | .exc c fs e => (match sub.lookup c with
    | some true => if fs = [] ∧ i < e.length then unE i (suite (e.set i (some (.exn c fs)))) else .bad
    | some false => .exc c fs e
    | none => .bad)
  | o => o
theorem lookup_mem {α : Type} {c : Str} {b : α} : ∀ {l : List (Str × α)}, l.lookup c = some b → (c, b) ∈ l
  | [], h => by cases h
  | (d, u) :: r, h => by
    unfold List.lookup at h
    cases q : c == d with
    | true =>
      rw [q] at h
      cases h
      rw [eq_of_beq q]
      exact List.mem_cons_self
    | false =>
      rw [q] at h
      exact List.mem_cons_of_mem _ (lookup_mem h)
theorem SRel.unset {B0 H0 B H : Hp} {σ : L2.St} {env : Env} (S : SRel K w B0 H0 B H σ env) (i : Nat) : SRel K (w.set i .z) B0 H0 B H (σ.set i none) (env.set i none) := by
  obtain ⟨fp, R, h1, h2, h3, h4⟩ := S
  exact ⟨_, R.unset i, h1, h2, h3, fun j a ha => by
    split at ha
    · cases ha
    · exact h4 j a ha⟩
theorem s_try {n m : Str} {np p3 : Pos} {b₀ : Stmt} {suite : List Stmt} {bs : Env → Out} (i : Nat) (z : List Ow) (sub : List (Str × Bool)) (cv : Value)
    (hb : ∀ (W : WX) (pn : List (Addr × Obj)) (xe : Value → Shared → Prop), Takes (X.tr pn xe) W → PassesOwn (model X.prog X.w) X.A X.env xe → PSs (X.tr pn xe) body (rdS K w W b ⟨w1, bk, ct, rt⟩))
    (hsu : ∀ (a C : Addr) (oe : Obj) (pn : List (Addr × Obj)), Zc (.ref C) none oe → (∃ vs, oe.data = .fields vs) → PSs (X.suite a ((a, oe) :: pn)) (b₀ :: suite) (rdS K (z.set i (.ex a C)) WF bs ⟨w1.set i (.ex a C), bk, ct, rt⟩))
    (tk : Takes X W) (hc : Names X n cv) (hsub : ∀ q ∈ sub, PySem.W.exmOne K (.ref (He.ga K q.1)) cv = some q.2) (hz : z = List.replicate z.length .z) (hl : i < z.length) (hl1 : w1.getD i .z = .z) (hbk : bk.getD i .z = .z) (hct : ct.getD i .z = .z)
    (hs : X.stack = X.env :: X.outer := by rfl) (hf : X.env.frame = some X.env.locals := by rfl) (hN : X.N.Nodup := by decide) (hi : X.N[i]? = some m := by rfl) (hln : X.env.kindOf m = some .local := by rfl) (hK : X.K = K := by rfl) :
    PS X (.Try body [.ExceptHandler (some (.Name n np)) (some m) (b₀ :: suite) p3] [] [] pos) (rdS K w W (sTry sub i b bs) ⟨w1, bk, ct, rt⟩) := by
  subst hK
  refine PS_weak (ps_try_as (ts := fun a cls d D σ H => ∃ C, cls = .ref C ∧ d = none ∧ rdS X.K (z.set i (.ex a C)) WF bs ⟨w1.set i (.ex a C), bk, ct, rt⟩ D σ H) (Wout := W) hs hf hN hi hln hc tk hb fun a oe cls d pn hzc hv => ?_) fun D σ H ⟨B0, H0, B, env, S, h⟩ => ?_
  · refine ⟨fun pins s σ H D I ⟨C, e1, e2, h⟩ => ?_⟩
    subst e1 e2
    exact (hsu a C oe pn hzc hv).run pins s σ H D I h
  · refine ⟨B0, H0, B, env, S, ?_⟩
    unfold sTry at h
    have setw : ∀ {w : List Ow}, w.getD i .z = .z → ∀ (k : Ow) (j : Nat), ((w.set i k).set i .z).getD j .z = w.getD j .z := fun {w} hw k j => by
      rw [getD_setz]
      by_cases q : j = i
      · subst q; rw [if_pos rfl, hw]
      · rw [if_neg q, List.getD_eq_getElem?_getD, List.getElem?_set_ne (Ne.symm q), List.getD_eq_getElem?_getD]
    have setz : ∀ {w : List Ow}, w.getD i .z = .z → ∀ (j : Nat), (w.set i .z).getD j .z = w.getD j .z := fun {w} hw j => by
      rw [getD_setz]
      by_cases q : j = i
      · subst q; rw [if_pos rfl, hw]
      · rw [if_neg q]
    have same : ∀ {v v' : List Ow} {B H : Hp} {σ : L2.St} {e : Env}, (∀ j, v'.getD j .z = v.getD j .z) → SRel X.K v B0 H0 B H σ e → SRel X.K v' B0 H0 B H σ e := fun {v v' B H σ e} hv ⟨fp, R, k⟩ => ⟨fp, ⟨R.s, R.len, fun i d e => let ⟨u, h1, h2⟩ := R.sl i d e; ⟨u, h1, by rw [hv]; exact h2⟩, R.nn, R.nd, R.dj, R.bn⟩, k⟩
    cases eb : b env with
    | exc c fs e =>
      rw [eb] at h
      dsimp only at h
      intro B1 σ1 H1 dct S1 xr
      cases es : sub.lookup c with
      | none => rw [es] at h; exact h.elim
      | some t =>
        rw [es] at h
        refine ⟨t, hsub (c, t) (lookup_mem es), fun et a na => ?_, fun et => ?_⟩
        · subst et
          obtain ⟨⟨ef, hle⟩, h⟩ := Out.iff h
          subst ef
          have dn : dct = none := by
            rcases xr with ⟨_, q⟩ | ⟨q, _⟩
            · exact q
            · exact absurd rfl q
          refine ⟨He.ga X.K c, rfl, dn, B0, H0, B1, e.set i (some (.exn c [])), ?_, ?_⟩
          · have S1' : SRel X.K z B0 H0 B1 H1 σ1 e := same (fun j => by
              rw [hz, List.getD_eq_getElem?_getD, List.getElem?_replicate]
              split <;> rfl) S1
            exact S1'.set (k := .ex a (He.ga X.K c)) (Gr.rf (let ⟨_, R, _⟩ := S1; R.s)) (v := .ref a) (f := []) ⟨rfl, ⟨c, [], rfl, rfl⟩, rfl⟩ List.nodup_nil (fun a ha => by cases ha) hle hl
          · cases eo : bs (e.set i (some (.exn c []))) with
            | nx e2 => rw [eo] at h; exact fun B2 σ2 H2 S2 => h B2 _ H2 (same (fun j => (setw hl1 _ j).symm) (S2.unset i))
            | bk e2 =>
              rw [eo] at h
              exact fun B2 σ2 H2 S2 => h B2 _ H2 (same (fun j => (setz hbk j).symm) (S2.unset i))
            | ct e2 =>
              rw [eo] at h
              exact fun B2 σ2 H2 S2 => h B2 _ H2 (same (fun j => (setz hct j).symm) (S2.unset i))
            | ret v => rw [eo] at h; exact h
            | exc _ _ _ => rw [eo] at h; exact h.elim
            | bad => rw [eo] at h; exact h.elim
        · subst et
          exact h B1 σ1 H1 dct S1 xr
    | nx e => rw [eb] at h; exact h
    | bk e => rw [eb] at h; exact h
    | ct e => rw [eb] at h; exact h
    | ret d => rw [eb] at h; exact h
    | bad => rw [eb] at h; exact h
/-- isinstance(e, C) in the suite that holds e -/
def dIsE (i : Nat) (sub : List (Str × Bool)) : Env → Res Fz.D := fun env => match env[i]? with
  | some (some (.exn c _)) => (match sub.lookup c with
    | some b => .ok (.bl b)
    | none => .bad)
  | _ => .bad
theorem e_isE {Y : Cx} (i : Nat) {a C : Addr} {oe : Obj} {pn : List (Addr × Obj)} {x n : Str} {p1 p2 p3 : Pos} {cv : Addr} (sub : List (Str × Bool)) (hw : w.getD i .z = .ex a C := by rfl) (hz : Zc (.ref C) none oe) (hf : ∃ vs, oe.data = .fields vs) (hX : X = Y.suite a ((a, oe) :: pn))
    (hm : X.mg "isinstance" = none) (hc : X.mg n = some (.ref cv)) (hE : ∀ q ∈ sub, ExcC K (He.ga K q.1)) (hsub : ∀ q ∈ sub, PySem.W.kitOne K (.ref (He.ga K q.1)) (.ref cv) = some q.2)
    (hN : X.N[i]? = some x := by rfl) (hv : Vis X.env.scope x := by first | exact Or.inl rfl | exact Or.inr (Or.inl rfl) | exact Or.inr (Or.inr rfl)) (hgc : Gl X n := by rfl) (hgi : Gl X "isinstance" := by rfl) (hd : (x == ("__debug__" : Str)) = false := by decide) (hcd : (x == ("__classdict__" : Str)) = false := by decide) (hdc : (n == ("__debug__" : Str)) = false := by decide)
    (he : starEach (.Name x p1 :: [.Name n p2]) X.env = (false, eval (.Name x p1) X.env) :: starEach [.Name n p2] X.env := by rfl) (he2 : starEach (.Name n p2 :: []) X.env = (false, eval (.Name n p2) X.env) :: starEach [] X.env := by rfl) (hpl : (backTo pos (starEach [.Name n p2] X.env)).any (·.1) = false := by rfl) (hK : X.K = K := by rfl) :
    PE X (.Call (.Name "isinstance" p3) [.Name x p1, .Name n p2] [] pos) (rdE K w W (dIsE i sub) .z) := by
  subst hK
  have key : ∀ D : Addr, C = D → ExcC X.K D → CallR X (.builtin "isinstance") (rIsE X.K D a) := fun D e hD => by
    subst e hX
    exact call_isE hD hz hf
  refine ⟨fun pins s σ H Q I ⟨B, env, fp, R, h⟩ => ?_⟩
  unfold dIsE at h
  split at h
  · rename_i c gs e1
    cases es : sub.lookup c with
    | none => rw [es] at h; exact h.elim
    | some b =>
      rw [es] at h
      obtain ⟨v, h1, h2⟩ := R.sl i _ e1
      rw [hw] at h2
      obtain ⟨ev, ⟨c', fs', e2, eC⟩, _⟩ := h2
      cases e2
      subst ev
      have hm' := lookup_mem es
      exact (pe_callB (key _ eC (hE _ hm')) hgi hm boot_isinstance (pa_cons (pe_var hN hv hd hcd) (pa_cons (pe_glob (v := .ref cv) hgc hc rfl hdc) pa_nil he2) he) (by decide) (by decide) he hpl).run pins s σ H Q I
        ⟨.ref a, h1, .ref cv, .ref cv, b, rfl, fun u hu => hu, hsub _ hm', AfE.val R.s h (.bl b)⟩
  · exact h.elim
end
end Fz
set_option Elab.async false
set_option linter.all false
set_option maxRecDepth 100000
set_option maxHeartbeats 4000000
/-! Functionalization: ==, is None, slices, xs * k. -/
namespace Fz
open PySem PySem.Spec PyProof.Rows L2

section
variable {X : Cx} {K : Fr} {W : WX} {w : List Ow} {k : Ow} {e e1 e2 : Expr} {da db dc' : Env → Res D} {pos p2 : Pos}
def rEqA (K : Fr) : R2 := fun x y H Q => rEq x y H Q ∨ rEqD K x y H Q
def rNeA (K : Fr) : R2 := fun x y H Q => rNe x y H Q ∨ rNeD K x y H Q
theorem op_eqA (hu : X.A.units + 64 < cLine) : OpR X (compareOp .Eq) (rEqA X.K) := OpR.or op_eq (op_eqD hu)
theorem op_neA (hu : X.A.units + 64 < cLine) : OpR X (compareOp .NotEq) (rNeA X.K) := OpR.or op_ne (op_neD hu)
theorem eqD_some {x y : D} {b : Bool} (h : eqD x y = some b) : ∃ p q, x.py = some p ∧ y.py = some q ∧ SeqAt.shaped p = true ∧ SeqAt.shaped q = true ∧ PyData.eqv p q = b := by
  unfold eqD at h
  split at h
  · rename_i p q h1 h2
    split at h
    · rename_i h3
      cases h
      exact ⟨p, q, h1, h2, h3.1, h3.2, rfl⟩
    · cases h
  · cases h
theorem AfE.opB {B H : Hp} {σ : L2.St} {Q : VK} {o : Option Bool} {g : Bool → D} (h : AfE K W k B σ H Q (match o with | some b => .ok (g b) | none => .bad)) : ∃ b, o = some b ∧ AfE K W k B σ H Q (.ok (g b)) := by
  cases o with
  | some d => exact ⟨d, rfl, h⟩
  | none => exact h.elim
theorem cEq_cases (x y : D) : (∃ i j, x = .int i ∧ y = .int j) ∨ (∃ i j, x = .str i ∧ y = .str j) ∨ (∃ i j, x = .bl i ∧ y = .bl j) ∨
    (cEq x y = (match eqD x y with | some b => .ok (.bl b) | none => .bad) ∧ cNe x y = (match eqD x y with | some b => .ok (.bl (!b)) | none => .bad)) := by
  cases x with
  | int i =>
    cases y with
    | int j => exact .inl ⟨i, j, rfl, rfl⟩
    | _ => exact .inr (.inr (.inr ⟨rfl, rfl⟩))
  | str i =>
    cases y with
    | str j => exact .inr (.inl ⟨i, j, rfl, rfl⟩)
    | _ => exact .inr (.inr (.inr ⟨rfl, rfl⟩))
  | bl i =>
    cases y with
    | bl j => exact .inr (.inr (.inl ⟨i, j, rfl, rfl⟩))
    | _ => exact .inr (.inr (.inr ⟨rfl, rfl⟩))
  | _ => exact .inr (.inr (.inr ⟨rfl, rfl⟩))
theorem dec_int {i j : Int} : decide (V.int i = V.int j) = decide (i = j) := by simp
theorem dec_str {i j : Str} : decide (V.str i = V.str j) = decide (i = j) := by simp
theorem dec_bl {i j : Bool} : decide (V.bl i = V.bl j) = decide (i = j) := by simp
theorem od_eq : OpD K (rEqA K) cEq .z := by
  intro W x y a b B H σ Q s rx ry h
  rcases cEq_cases a b with ⟨i, j, e1, e2⟩ | ⟨i, j, e1, e2⟩ | ⟨i, j, e1, e2⟩ | ⟨e, _⟩
  · subst e1 e2
    cases rx; cases ry
    exact .inl ⟨rfl, by rw [dec_int]; exact AfE.val s h (.bl _)⟩
  · subst e1 e2
    cases rx; cases ry
    exact .inl ⟨rfl, by rw [dec_str]; exact AfE.val s h (.bl _)⟩
  · subst e1 e2
    cases rx; cases ry
    exact .inl ⟨rfl, by rw [dec_bl]; exact AfE.val s h (.bl _)⟩
  · rw [e] at h
    obtain ⟨c, hc, h⟩ := AfE.opB (g := fun b => .bl b) h
    obtain ⟨p, q, h1, h2, h3, h4, h5⟩ := eqD_some hc
    exact .inr ⟨p, q, rx.dp s h1, ry.dp s h2, h3, h4, by rw [h5]; exact AfE.val s h (.bl _)⟩
theorem od_ne : OpD K (rNeA K) cNe .z := by
  intro W x y a b B H σ Q s rx ry h
  rcases cEq_cases a b with ⟨i, j, e1, e2⟩ | ⟨i, j, e1, e2⟩ | ⟨i, j, e1, e2⟩ | ⟨_, e⟩
  · subst e1 e2
    cases rx; cases ry
    exact .inl ⟨rfl, by rw [dec_int]; exact AfE.val s h (.bl _)⟩
  · subst e1 e2
    cases rx; cases ry
    exact .inl ⟨rfl, by rw [dec_str]; exact AfE.val s h (.bl _)⟩
  · subst e1 e2
    cases rx; cases ry
    exact .inl ⟨rfl, by rw [dec_bl]; exact AfE.val s h (.bl _)⟩
  · rw [e] at h
    obtain ⟨c, hc, h⟩ := AfE.opB (g := fun b => .bl (!b)) h
    obtain ⟨p, q, h1, h2, h3, h4, h5⟩ := eqD_some hc
    exact .inr ⟨p, q, rx.dp s h1, ry.dp s h2, h3, h4, by rw [h5]; exact AfE.val s h (.bl _)⟩
/-- is None -/
def oIsN (x y : D) : Res D := match y with
  | .non => (match x with
    | .non => .ok (.bl true)
    | _ => .ok (.bl false))
  | _ => .bad
def oIsnN (x y : D) : Res D := match y with
  | .non => (match x with
    | .non => .ok (.bl false)
    | _ => .ok (.bl true))
  | _ => .bad
theorem od_isN : OpD K (fun x y H Q => y = .non ∧ Q (.bl (decide (x = .non))) H) oIsN .z := by
  intro W x y a b B H σ Q s rx ry h
  cases ry with
  | non =>
    refine ⟨rfl, ?_⟩
    cases rx <;> exact AfE.val s h (.bl _)
  | _ => exact h.elim
theorem od_isnN : OpD K (fun x y H Q => y = .non ∧ Q (.bl (!decide (x = .non))) H) oIsnN .z := by
  intro W x y a b B H σ Q s rx ry h
  cases ry with
  | non =>
    refine ⟨rfl, ?_⟩
    cases rx <;> exact AfE.val s h (.bl _)
  | _ => exact h.elim
theorem Reps.flatten {B : Hp} {vs : List V} {ds : List D} (r : Reps K B vs ds) : ∀ n : Nat, Reps K B (List.flatten (List.replicate n vs)) (List.flatten (List.replicate n ds))
  | 0 => .nil
  | n + 1 => by
    rw [List.replicate_succ, List.replicate_succ, List.flatten_cons, List.flatten_cons]
    exact r.append (Reps.flatten r n)
theorem od_repL : OpD K rRep oRepL (.l .z) := by
  intro W x y a b B H σ Q s rx ry h
  cases rx with
  | @lst p xs ds hp rs =>
    cases ry with
    | int n =>
      obtain ⟨hz, h⟩ := AfE.iff (show AfE K W (.l .z) B σ H Q (if -(2 ^ 63) ≤ n ∧ n < 2 ^ 63 ∧ ds.length * n.toNat ≤ 16777216 then _ else _) from h)
      exact ⟨p, n, xs, rfl, rfl, s _ _ hp, hz.1, hz.2.1, by rw [rs.length, sizeLine_eq]; exact hz.2.2, fun t ht => AfE.newL s h ht (rs.flatten _)⟩
    | _ => exact h.elim
  | _ => exact h.elim

/-! ### slices -/
def cutD (xs : List D) (lo hi : Option Int) : List D := (xs.drop (HT.sIx xs.length 0 lo)).take (HT.sIx xs.length xs.length hi - HT.sIx xs.length 0 lo)
def sliD (x : D) (lo hi : Option Int) : Res D := match x with
  | .lst xs => .ok (.lst (cutD xs lo hi))
  | .scr xs => .ok (.lst (cutD xs lo hi))
  | .tup xs => .ok (.tup (cutD xs lo hi))
  | .str z => if z.length ≤ 16777216 then .ok (.str (cutS z lo hi)) else .bad
  | _ => .bad
def rSl (K : Fr) : V → Option Int → Option Int → Hp → VK → Prop := fun x lo hi H Q => rSlL K x lo hi H Q ∨ rSlA K x lo hi H Q ∨ rSlS x lo hi H Q
theorem sl_all : SlR X (rSl X.K) := sl_list.or (sl_tupA.or sl_str)
theorem Reps.cut {B : Hp} {vs : List V} {ds : List D} (r : Reps K B vs ds) (lo hi : Option Int) : Reps K B (cutV vs lo hi) (cutD ds lo hi) := by
  unfold cutV cutD
  rw [r.length]
  exact (r.drop _).take _
theorem cut_all {B : Hp} {vs : List V} {lo hi : Option Int} (h : HT.sIx vs.length 0 lo = 0 ∧ HT.sIx vs.length vs.length hi = vs.length) : cutV vs lo hi = vs := by
  unfold cutV
  rw [h.1, h.2, List.drop_zero, Nat.sub_zero, List.take_length]
theorem sli {B H : Hp} {σ : L2.St} {Q : VK} {x : V} {a : D} {lo hi : Option Int} (s : Ex B H) (r : Rep K B x a) (h : AfE K W .z B σ H Q (sliD a lo hi)) : rSl K x lo hi H Q := by
  cases r with
  | @lst p xs ds hp rs => exact .inl ⟨p, xs, rfl, SqL.of (s _ _ hp), fun q hq => AfE.newB s h hq (.lst upd_same ((rs.cut lo hi).mono (Ex.new (s.back hq))))⟩
  | @scr p xs ds hp rs => exact .inl ⟨p, xs, rfl, s.sl hp, fun q hq => AfE.newB s h hq (.lst upd_same ((rs.cut lo hi).mono (Ex.new (s.back hq))))⟩
  | @tup p xs ds hp rs =>
    refine .inr (.inl ⟨p, xs, rfl, s.st hp, fun hc => ?_, fun _ q hq => AfE.newB s h hq (.tup (SqT.of upd_same) ((rs.cut lo hi).mono (Ex.new (s.back hq))))⟩)
    have q := rs.cut lo hi
    rw [cut_all (B := B) hc] at q
    exact AfE.val s h (.tup hp q)
  | str z =>
    obtain ⟨hz, h⟩ := AfE.iff (show AfE K W .z B σ H Q (if z.length ≤ 16777216 then _ else _) from h)
    exact .inr (.inr ⟨z, rfl, sz hz, AfE.val s h (.str _)⟩)
  | _ => exact h.elim
def dSl (da : Env → Res D) (lo hi : Env → Res (Option Int)) : Env → Res D := fun env => (da env).bind fun x => (lo env).bind fun l => (hi env).bind fun h => sliD x l h
def pNo : Env → Res (Option Int) := fun _ => .ok none
def pAt (de : Env → Res D) : Env → Res (Option Int) := fun env => (de env).bind fun d => match d with
  | .int i => .ok (some i)
  | _ => .bad
/-- a slice's end -/
def AfO (K : Fr) (W : WX) (B : Hp) (σ : L2.St) (H : Hp) (Q : Option Int → Hp → Prop) : Res (Option Int) → Prop
  | .ok o => ∀ H' B', Gr B H B' H' → Q o H'
  | .exc c fs => ∀ H' B' dct, Gr B H B' H' → ExcRep K B' H' dct fs → W (.ref (He.ga K c)) dct σ H'
  | .bad => False
def rdO (K : Fr) (w : List Ow) (W : WX) (dt : Env → Res (Option Int)) : TO := fun σ H Q => ∃ B env fp, Rel K w B H σ env fp ∧ AfO K W B σ H Q (dt env)
theorem PO_weak {e : Option Expr} {t t' : TO} (h : PO X e t) (hw : ∀ σ H Q, t' σ H Q → t σ H Q) : PO X e t' := ⟨fun pins s σ H Q I q => h.run pins s σ H Q I (hw σ H Q q)⟩
theorem o_no : PO X none (rdO K w W pNo) := PO_weak po_none fun σ H Q ⟨B, env, fp, R, h⟩ => h H B (Gr.rf R.s)
theorem o_at (ha : PE X e (rdE K w W da .z)) : PO X (some e) (rdO K w W (pAt da)) := PO_weak (po_some ha) fun σ H Q ⟨B, env, fp, R, h⟩ => by
  refine ⟨B, env, fp, R, ?_⟩
  have h : AfO K W B σ H Q ((da env).bind fun d => match d with | .int i => .ok (some i) | _ => .bad) := h
  cases e : da env with
  | ok d =>
    rw [e] at h
    intro v H1 B1 f g r nd hf
    cases r.1 with
    | int i => exact ⟨i, rfl, h H1 B1 g⟩
    | _ => exact h.elim
  | exc c fs => rw [e] at h; exact h
  | bad => rw [e] at h; exact h
theorem rdO_then {lo : Env → Res (Option Int)} {σ : L2.St} {H B : Hp} {env : Env} {fp : Nat → List Addr} {Q : Option Int → Hp → Prop} {Q2 : VK} {f : Option Int → Res D} (R : Rel K w B H σ env fp) (h : AfE K W k B σ H Q2 ((lo env).bind f))
    (go : ∀ o H1 B1, lo env = .ok o → Gr B H B1 H1 → Rel K w B1 H1 σ env fp → AfE K W k B1 σ H1 Q2 (f o) → Q o H1) : rdO K w W lo σ H Q := by
  refine ⟨B, env, fp, R, ?_⟩
  cases e : lo env with
  | ok d =>
    rw [e] at h
    intro H1 B1 g
    exact go d H1 B1 e g (R.gr g) (AfE.gr g h)
  | exc c fs => rw [e] at h; exact h
  | bad => rw [e] at h; exact h
theorem e_slice {lo hi : Option Expr} {dl dh : Env → Res (Option Int)} (ha : PE X e (rdE K w W da .z)) (hl : PO X lo (rdO K w W dl)) (hh : PO X hi (rdO K w W dh)) (hK : X.K = K := by rfl) : PE X (.Subscript e (.Slice lo hi none p2) pos) (rdE K w W (dSl da dl dh) .z) := by
  subst hK
  exact PE_weak (pe_slice sl_all ha hl hh) fun σ H Q ⟨B, env, fp, R, h⟩ => rdE_then R h fun d v H1 B1 _ g1 R1 r1 h1 => rdO_then R1 h1 fun l H2 B2 _ g2 R2 h2 => rdO_then R2 h2 fun u H3 B3 _ g3 R3 h3 => sli R3.s (r1.mono (g2.tr g3).b) h3
end
end Fz
set_option Elab.async false
set_option linter.all false
set_option maxRecDepth 100000
set_option maxHeartbeats 4000000
/-! Functionalization: whole defs, the head's facts. -/
namespace Fz
open PySem PySem.Spec PyProof.Rows L2

def startE (n : Nat) (ds : List D) : Env := ds.map some ++ List.replicate (n - ds.length) none
def zs (n : Nat) : List Ow := List.replicate n .z
theorem zs_getD (n j : Nat) : (zs n).getD j .z = .z := by
  unfold zs
  rw [List.getD_eq_getElem?_getD, List.getElem?_replicate]
  split <;> rfl
def WE' (E : XK) : WX := fun cls d _ H => E cls d H
def runD (k : Ow) (n : Nat) (b : Env → Out) : List D → Res D := fun ds => match b (startE n ds) with
  | .ret d => .ok d
  | .nx _ => if k = .z then .ok .non else .bad
  | .exc c fs _ => .exc c fs
  | _ => .bad
def runI (c : Str) (n : Nat) (b : Env → Out) : List D → Res (List (Str × D)) := fun ds => match b (startE n (.ins c [] :: ds)) with
  | .nx e => (match e[(0 : Nat)]? with
    | some (some (.ins c' fs)) => if c' = c then .ok fs else .bad
    | _ => .bad)
  | .exc c fs _ => .exc c fs
  | _ => .bad
section
variable {P : Program} {wd : World} {K : Fr} {mg : Str → Option Value} {base : Heap} {k : Ow} {n : Nat} {w w1 : List Ow} {B H : Hp}
theorem start_rel {N : List Str} {vs : List V} {ds : List D} (s : Ex B H) (r : Reps K B vs ds) (hw : ∀ j, w.getD j .z = .z) : Rel K w B H (L2.start N vs) (startE N.length ds) fun _ => [] where
  s := s
  len := by unfold L2.start startE; simp [r.length]
  sl := fun i d e => by
    unfold startE at e
    unfold L2.start
    by_cases hi : i < ds.length
    · rw [List.getElem?_append_left (by simpa using hi), List.getElem?_map] at e
      obtain ⟨d', hd, ed⟩ := Option.map_eq_some_iff.mp e
      cases ed
      obtain ⟨v, hv, rv⟩ := r.get hd
      refine ⟨v, ?_, ?_⟩
      · rw [List.getElem?_append_left (by simpa [r.length] using hi), List.getElem?_map, hv] <;> rfl
      · rw [hw]; exact ⟨rv, rfl⟩
    · rw [List.getElem?_append_right (by simpa using Nat.le_of_not_lt hi), List.getElem?_replicate] at e
      split at e <;> cases e
  nn := fun _ _ => rfl
  nd := fun _ => List.nodup_nil
  dj := fun _ _ _ a ha => by cases ha
  bn := fun _ a ha => by cases ha
theorem run_AfS {E : XK} {Q : VK} {b : Env → Out} {ds : List D} {w1 bk ct : List Ow} (h : AfE K (WE' E) k B [] H Q (runD k n b ds)) (hbk : bk = []) (hct : ct = []) :
    AfS K (WE' E) ⟨w1, bk, ct, k⟩ B H { nx := fun _ H' => Q .non H', rt := Q } (b (startE n ds)) := by
  unfold runD at h
  cases e : b (startE n ds) with
  | ret d =>
    rw [e] at h
    exact fun B' H' v f x1 x2 x3 x4 r nd hf => h v H' B' f ⟨x1, x2, x3, x4⟩ r nd hf
  | nx e1 =>
    rw [e] at h
    obtain ⟨hk, h⟩ := AfE.iff (show AfE K (WE' E) k B [] H Q (if k = .z then .ok .non else .bad) from h)
    subst hk
    rintro B' σ H' ⟨fp, R, x1, x2, x3, _⟩
    exact h .non H' B' [] ⟨x1, x2, R.s, x3⟩ ⟨.non, rfl⟩ List.nodup_nil fun a ha => by cases ha
  | exc c fs e1 =>
    rw [e] at h
    rintro B' σ H' dct ⟨fp, R, x1, x2, x3, _⟩ xr
    exact h H' B' dct ⟨x1, x2, R.s, x3⟩ xr
  | bk e1 => rw [e] at h; exact h.elim
  | ct e1 => rw [e] at h; exact h.elim
  | bad => rw [e] at h; exact h.elim
/-- a def keeps its promise -/
theorem fn_ok {x qual : Str} {params : Arguments} {body : List Stmt} {scope : Scope} {dV : List V} {kws : List (Str × V)} {f : Addr} {fd : FuncData} {N ps : List Str} {kl : Nat} {b : Env → Out} (F : FunD K x qual params body scope dV kws f fd) (S : FnScope N ps scope) (hw : w = zs w.length) (hn : ps.length = n)
    (hb : ∀ (cdv : Value) (A : Around) (outer : List PySem.Env) (s : Shared) (H : Hp) (E : XK), Room kl (A.deeper (envOfC qual scope s.heap.objs.size f cdv)) → PSs (cxOf (L2.CX P wd) P wd K mg base N qual scope f cdv A outer s H E) body (rdS K w (WE' E) b ⟨w1, [], [], k⟩)) :
    FnOk P wd K mg base (L2.CX P wd) (kl + 1) f fd ps (spD K n (runD k N.length b) k) := by
  refine F.ok S (fun vs H Q E ⟨B, ds, s, r, hl, h⟩ => by rw [r.length, hl, hn]) fun cdv A outer s H vs Q E hr ⟨B, ds, sx, r, hl, h⟩ => ⟨_, hb cdv A outer s H E hr, B, H, B, startE N.length ds, ⟨_, start_rel sx r fun j => by rw [hw]; exact zs_getD _ _, Ex.rfl' _, Ex.rfl' _, fun _ _ => rfl, fun _ a ha => by cases ha⟩, run_AfS h rfl rfl⟩
/-- __init__ keeps its promise -/
theorem init_ok {c : Str} {qual : Str} {params : Arguments} {body : List Stmt} {scope : Scope} {dV : List V} {kws : List (Str × V)} {f : Addr} {fd : FuncData} {N ps : List Str} {kl : Nat} {b : Env → Out} (F : FunD K "__init__" qual params body scope dV kws f fd) (S : FnScope N ps scope) (hw : w = zs w.length) (hn : ps.length = n + 1)
    (hb : ∀ (x : Addr) (cdv : Value) (A : Around) (outer : List PySem.Env) (s : Shared) (H : Hp) (E : XK), Room kl (A.deeper (envOfC qual scope s.heap.objs.size f cdv)) →
      ∃ w1 : List Ow, w1.getD 0 .z = .at x ∧ PSs (cxOf (L2.CX P wd) P wd K mg base N qual scope f cdv A outer s H E) body (rdS K (.at x :: w) (WE' E) b ⟨w1, [], [], .z⟩)) :
    FnOk P wd K mg base (L2.CX P wd) (kl + 1) f fd ps (spI K c n (runI c N.length b)) := by
  refine F.ok S (fun vs H Q E ⟨B, ds, x, dx, us, ev, hx, bx, s, r, hl, h⟩ => by rw [ev, List.length_cons, r.length, hl, hn]) fun cdv A outer s H vs Q E hr ⟨B, ds, x, dx, us, ev, hx, bx, sx, r, hl, h⟩ => ?_
  obtain ⟨w1, hw1, hp⟩ := hb x cdv A outer s H E hr
  subst ev
  let H0 : Hp := fun a => if a = x then none else H a
  have h0 : Ex H0 H := fun a o e => by
    by_cases q : a = x
    · rw [show H0 a = none from if_pos q] at e; cases e
    · rw [show H0 a = H a from if_neg q] at e; exact e
  have hx0 : H0 x = none := if_pos rfl
  have hoff : ∀ {a : Addr}, a ≠ x → H0 a = H a := fun q => if_neg q
  have rel : Rel K (.at x :: w) B H (L2.start N (.ref x :: us)) (startE N.length (.ins c [] :: ds)) fun i => if i = 0 then [x] else [] := by
    have R := start_rel (N := N) (w := zs (w.length + 1)) sx (r := Reps.cons (v := .non) (d := .non) .non r) fun j => zs_getD _ _
    have e1 : start N (.ref x :: us) = (L2.start N (.non :: us)).set 0 (some (.ref x)) := by simp [L2.start]
    have e2 : startE N.length (.ins c [] :: ds) = (startE N.length (.non :: ds)).set 0 (some (.ins c [])) := by simp [startE]
    rw [e1, e2]
    refine R.set (i := 0) (k := .at x) (f := [x]) (by simp [startE]) ⟨dx, [], c, [], rfl, rfl, hx, .nil, rfl⟩ (by simp) (fun a ha => ?_) (fun j _ a _ q => by cases q) fun j => ?_
    · have q : a = x := by simpa using ha
      rw [q]; exact bx
    · cases j with
      | zero => rfl
      | succ j =>
        rw [if_neg (Nat.succ_ne_zero j), zs_getD]
        show w.getD j .z = .z
        rw [hw]; exact zs_getD _ _
  have grow : ∀ {B' H' : Hp}, Ex B B' → Ex H0 H' → Ex B' H' → (∀ a, H0 a ≠ none → B' a = B a) → GrX x B H B' H' := fun {B' H'} x1 x2 x3 x4 => ⟨x1, fun a o q e => x2 a o (by rw [hoff q]; exact e), x3, fun a q ha => x4 a (by rw [hoff q]; exact ha)⟩
  refine ⟨_, hp, B, H0, B, _, ⟨_, rel, Ex.rfl' _, h0, fun _ _ => rfl, fun i a ha => ?_⟩, ?_⟩
  · split at ha
    · have q : a = x := by simpa using ha
      rw [q]; exact hx0
    · cases ha
  · unfold runI at h
    have h : AfI K (WE' E) x c B [] H Q (match b (startE N.length (.ins c [] :: ds)) with
      | .nx e => (match e[(0 : Nat)]? with
        | some (some (.ins c' fs)) => if c' = c then .ok fs else .bad
        | _ => .bad)
      | .exc c fs _ => .exc c fs
      | _ => .bad) := h
    cases e : b (startE N.length (.ins c [] :: ds)) with
    | nx e1 =>
      rw [e] at h
      rintro B' σ H' ⟨fp, R, x1, x2, x3, _⟩
      cases e0 : e1[0]? with
      | none => dsimp only at h; rw [e0] at h; exact h.elim
      | some o =>
        cases o with
        | none => dsimp only at h; rw [e0] at h; exact h.elim
        | some d =>
          dsimp only at h
          rw [e0] at h
          obtain ⟨dx', fvs, c', fs', ed, _, hH, rf, ef⟩ := R.ownI hw1 e0
          subst ed
          dsimp only at h
          by_cases q : c' = c
          · rw [if_pos q] at h
            subst q
            exact h H' B' dx' fvs (grow x1 x2 R.s x3) (R.bn 0 x (by rw [ef]; exact List.mem_cons_self)) hH rf
          · rw [if_neg q] at h; exact h.elim
    | exc c fs e1 =>
      rw [e] at h
      rintro B' σ H' dct ⟨fp, R, x1, x2, x3, _⟩ xr
      exact h H' B' dct (grow x1 x2 R.s x3) xr
    | ret d => rw [e] at h; exact h.elim
    | bk e1 => rw [e] at h; exact h.elim
    | ct e1 => rw [e] at h; exact h.elim
    | bad => rw [e] at h; exact h.elim
end
end Fz
set_option Elab.async false
set_option linter.all false
set_option maxRecDepth 100000
set_option maxHeartbeats 4000000
/-! Functionalization: the head's facts, more of them; how a def reads them. -/
namespace Fz
open PySem PySem.Spec PyProof.Rows L2

/-- more facts: an imported built-in; an exception class that isinstance asks; what isinstance says of two classes -/
inductive Fb where
  | blt (x : Str) (id : String)
  | exC (x : Str)
  | kit (x y : Str) (b : Bool)
def Fb.ok (K : Fr) : Fb → Bool
  | .blt x id => He.eqO (PySem.W.nsIn K mainGlobals x) (some (some (.builtin id)))
  | .exC x => He.eqO (PySem.W.findIn K (.ref (He.ga K x)) "__getattribute__") (some (some (.builtin "BaseException.__getattribute__"))) && (He.eqO (PySem.W.findIn K (.ref (He.ga K x)) "__getattr__") (some none) &&
      (decide (PySem.W.subIn K (.ref (He.ga K x)) (.type "BaseException") = some true) && (PySem.W.hasDictIn K (He.ga K x) && (He.eqO (PySem.W.findIn K (.ref (He.ga K x)) "__class__") (some (some (.builtin "object.__class__"))) &&
      (He.eqO (PySem.W.specialIn K (.builtin "object.__class__") "__get__") (some (some (.builtin "getset_descriptor.__get__"))) && (decide (PySem.W.takesIn K (.builtin "object.__class__") = some true) && decide (PySem.W.mroIn K (He.ga K x) (.type "object") = some true)))))))
  | .kit x y b => decide (PySem.W.kitOne K (.ref (He.ga K x)) (.ref (He.ga K y)) = some b)
theorem Fb.exC_ok {K : Fr} {x : Str} (h : (Fb.exC x).ok K = true) : ExcC K (He.ga K x) := by
  obtain ⟨h1, h⟩ := He.ba h
  obtain ⟨h2, h⟩ := He.ba h
  obtain ⟨h3, h⟩ := He.ba h
  obtain ⟨h4, h⟩ := He.ba h
  obtain ⟨h5, h⟩ := He.ba h
  obtain ⟨h6, h⟩ := He.ba h
  obtain ⟨h7, h8⟩ := He.ba h
  exact ⟨He.eqO_ok h1, He.eqO_ok h2, of_decide_eq_true h3, h4, He.eqO_ok h5, He.eqO_ok h6, of_decide_eq_true h7, of_decide_eq_true h8⟩
def exB (fb : List Fb) (K : Fr) : Bool := fb.all fun f => f.ok K
def clsB : Stmt → List Stmt
  | .ClassDef (body := b) .. => b
  | _ => []
/-! ### the Hook -/
abbrev AlZ : Type := He.AlD × Bool
def obsZ (n : Nat) (fa : List He.Fa) (fn : List He.DefD) (fb : List Fb) (g : Addr → Option Obj) : AlZ := (He.obsDG n fa fn g, exB fb (He.frG g (He.asD g n)))
def hookZ (n : Nat) (fa : List He.Fa) (fn : List He.DefD) (fb : List Fb) : PySem.W.Hook where
  α := AlZ
  obs := fun s => obsZ n fa fn fb s.heap.get?
  val := fun _ => (He.valD fn, true)
  says := fun _ h => ∃ K : Fr, K.In h ∧ He.SaysD fa fn K ∧ exB fb K = true
  of := fun _ _ e => ⟨_, He.frG_in, congrArg (fun z : AlZ => z.1) e, congrArg (fun z : AlZ => z.2) e⟩
  keeps := fun _ _ _ ⟨K, hK, c⟩ k => ⟨K, PySem.W.Frag.In.keeps hK k, c⟩
theorem obsZ_eq {n : Nat} {fa : List He.Fa} {fn : List He.DefD} {fb : List Fb} {g : Addr → Option Obj} {s : Shared} (h : ∀ a, g a = s.heap.get? a) : obsZ n fa fn fb g = (hookZ n fa fn fb).obs s := by
  have e : g = s.heap.get? := funext h
  rw [e] <;> rfl
/-! ### what the defs read -/
structure Ctx (fa : List He.Fa) (fn : List He.DefD) (fb : List Fb) (K : Fr) (mg : Str → Option Value) : Prop where
  hp : ∃ h : Heap, K.In h ∧ h.Ns mainGlobals mg
  c : He.SaysD fa fn K
  x : exB fb K = true
section
variable {fa : List He.Fa} {fn : List He.DefD} {fb : List Fb} {K : Fr} {mg : Str → Option Value}
theorem Ctx.glo (C : Ctx fa fn fb K mg) (i : Nat) {x : Str} (h : fa[i]? = some (.glo x) := by rfl) : mg x = some (.ref (He.ga K x)) := let ⟨_, X, G⟩ := C.hp; He.glo_ok X G (C.c.fact i h)
theorem Ctx.free (C : Ctx fa fn fb K mg) (i : Nat) {x : Str} (h : fa[i]? = some (.free x) := by rfl) : mg x = none := let ⟨_, X, G⟩ := C.hp; He.free_ok X G (C.c.fact i h)
theorem Ctx.int (C : Ctx fa fn fb K mg) (i : Nat) {x : Str} {j : Int} (h : fa[i]? = some (.int x j) := by rfl) : ∃ t, mg x = some (.int j t) := let ⟨_, X, G⟩ := C.hp; He.int_ok X G (C.c.fact i h)
theorem Ctx.cls (C : Ctx fa fn fb K mg) (i : Nat) {x : Str} (h : fa[i]? = some (.cls x) := by rfl) : Cls K (He.ga K x) := He.cls_ok (C.c.fact i h)
theorem Ctx.noat (C : Ctx fa fn fb K mg) (i : Nat) {x f : Str} (h : fa[i]? = some (.noat x f) := by rfl) : NoAttr K (He.ga K x) f := He.noat_ok (C.c.fact i h)
theorem Ctx.meth (C : Ctx fa fn fb K mg) (i : Nat) {x m : Str} (h : fa[i]? = some (.meth x m) := by rfl) : Meth K (He.ga K x) m (He.ma K (He.ga K x) m) := He.meth_ok (C.c.fact i h)
theorem Ctx.mkr (C : Ctx fa fn fb K mg) (i : Nat) {x : Str} (h : fa[i]? = some (.mkr x) := by rfl) : Mk K (He.ga K x) (He.ma K (He.ga K x) "__init__") := He.mkr_ok (C.c.fact i h)
theorem Ctx.exm (C : Ctx fa fn fb K mg) (i : Nat) {x y : Str} {b : Bool} (h : fa[i]? = some (.exm x y b) := by rfl) : PySem.W.exmOne K (.ref (He.ga K x)) (.ref (He.ga K y)) = some b := He.exm_ok (C.c.fact i h)
theorem Ctx.more (C : Ctx fa fn fb K mg) (i : Nat) {f : Fb} (h : fb[i]? = some f) : f.ok K = true := List.all_eq_true.mp C.x f (List.mem_of_getElem? h)
theorem Ctx.blt (C : Ctx fa fn fb K mg) (i : Nat) {x : Str} {id : String} (h : fb[i]? = some (.blt x id) := by rfl) : mg x = some (.builtin id) := let ⟨_, X, G⟩ := C.hp; PySem.W.mg_of X G (He.eqO_ok (C.more i h))
theorem Ctx.exC (C : Ctx fa fn fb K mg) (i : Nat) {x : Str} (h : fb[i]? = some (.exC x) := by rfl) : ExcC K (He.ga K x) := Fb.exC_ok (C.more i h)
theorem Ctx.kit (C : Ctx fa fn fb K mg) (i : Nat) {x y : Str} {b : Bool} (h : fb[i]? = some (.kit x y b) := by rfl) : PySem.W.kitOne K (.ref (He.ga K x)) (.ref (He.ga K y)) = some b := of_decide_eq_true (C.more i h)
theorem Ctx.rse {X : Cx} (C : Ctx fa fn fb X.K X.mg) (g i : Nat) {x m : Str} {j : Nat} {p p2 pos : Pos} (hg : fa[g]? = some (.glo x) := by rfl) (h : fa[i]? = some (.exc x) := by rfl) (hgl : Gl X x := by rfl) (hdb : (x == ("__debug__" : Str)) = false := by decide) :
    PMk X (.Call (.Name x p) [.Constant (.str m) j p2] [] pos) (fun _ H Q => Q (.ref (He.ga X.K x)) none H) := by
  obtain ⟨h1, h2, h3, h4⟩ := He.exc_ok (C.c.fact i h)
  exact pmk_own PySem.F.excBase_ValueError h1 (C.glo g hg) h2 (raises_own h3 h4) hgl hdb
theorem Ctx.fld (C : Ctx fa fn fb K mg) {f : Str} : FldOk K [] f := fun _ h => by cases h
theorem FldOk.cons {c f : Str} {cs : List Str} (h1 : Cls K (He.ga K c)) (h2 : NoAttr K (He.ga K c) f) (r : FldOk K cs f) : FldOk K (c :: cs) f := fun d hd => by
  rcases List.mem_cons.mp hd with e | hd
  · rw [e]; exact ⟨h1, h2⟩
  · exact r d hd
theorem FldOk.nil {f : Str} : FldOk K [] f := fun _ h => by cases h
theorem takes_WF {X : Cx} : Takes X WF := fun u s' ⟨_, _, _, _, _, _, _, _, _, _, _, _, _, _, _, _, w⟩ => w.elim
theorem takes_E {X : Cx} {E : XK} {E₁ : Value → Shared → Prop} (hs : X.stack = X.env :: X.outer) (hf : X.env.frame = some X.env.locals) (hex : X.ex = [])
    (hx : X.xe = fun e s' => wpAny (model X.prog X.w) X.A (leaving X.env e) (fun _ s'' => CX X.prog X.w X.outer X.H_0 X.s_0 E e s'') E₁ s') : Takes X (WE' E) := takes_of hs hf hex hx
end
/-- an item of a list of one's own, its items frozen -/
def oIxO (i : Nat) (di : Env → Res D) : Env → Res D := fun env => match env[i]? with
  | some (some (.lst xs)) => (di env).bind fun j => oIx (.lst xs) j
  | _ => .bad
section
variable {X : Cx} {K : Fr} {W : WX} {w : List Ow}
theorem e_ixO (i : Nat) {n : Str} {ix : Expr} {di : Env → Res D} {npos pos : Pos} (hx : PE X ix (rdE K w W di .z)) (hw : w.getD i .z = .l .z := by rfl) (hN : X.N[i]? = some n := by rfl) (hv : Vis X.env.scope n := by first | exact Or.inl rfl | exact Or.inr (Or.inl rfl) | exact Or.inr (Or.inr rfl))
    (hd : (n == ("__debug__" : Str)) = false := by decide) (hcd : (n == ("__classdict__" : Str)) = false := by decide) (hp : PlainIx ix := by exact fun _ _ => rfl) (hK : X.K = K := by rfl) : PE X (.Subscript (.Name n npos) ix pos) (rdE K w W (oIxO i di) .z) := by
  subst hK
  refine PE_weak (pe_ix ix_seq (pe_var hN hv hd hcd) hx hp) fun σ H Q ⟨B, env, fp, R, h⟩ => ?_
  unfold oIxO at h
  split at h
  · rename_i xs e1
    obtain ⟨p, vs, ds, fs, ed, hp, hH, ro, ef⟩ := R.own hw e1
    cases ed
    obtain ⟨rs, _⟩ := ROs.z ro
    refine ⟨.ref p, hp, rdE_then R h fun d v H1 B1 _ g1 R1 r1 h1 => ?_⟩
    cases r1 with
    | int j =>
      obtain ⟨d, hd, h1⟩ := AfE.opt (show AfE X.K W .z B1 σ H1 Q (match atI xs j with | some d => .ok d | none => .bad) from h1)
      obtain ⟨u, hu, ru⟩ := rs.atI hd
      exact .inl ⟨p, vs, j, u, rfl, rfl, SqL.of (g1.h _ _ hH), hu, AfE.val R1.s h1 (ru.mono g1.b)⟩
    | _ => exact h1.elim
  · exact h.elim
variable {k : Ow} {st : Stmt} {pos : Pos} {bk ct : List Ow} {rt : Ow} {tg iter : Expr} {di : Env → Res (List D)} {dg : D → Env → Option Env}
/-- [] of any kind -/
theorem e_lst0 {pos : Pos} : PE X (.List [] pos) (rdE K w W (dcall oLst dnil) (.l k)) := PE_weak (pe_lst pa_nil) fun σ H Q ⟨B, env, fp, R, h⟩ => by
  have h : AfE K W (.l k) B σ H Q (.ok (.lst [])) := h
  exact ⟨Nat.zero_le _, fun p hp => h (.ref p) _ B [p] (Gr.out R.s hp) ⟨p, [], [], [], rfl, rfl, upd_same, .nil, rfl⟩ (by simp) fun a ha => by
    have q : a = p := by simpa using ha
    subst q
    exact ⟨hp, R.s.back hp⟩⟩
/-- name = [..], the list frozen -/
theorem s_setLcz (i : Nat) {y : Str} {elt : Expr} {ifs : List Expr} {scope : Scope} {py spos : Pos} {tt : Env → Res Bool} {de : Env → Res D} (own : List (Str × Nat)) (hi : PI X tg iter (rdI K w W di))
    (hg : ∀ (s : Shared) (H : Hp) (C : Addr) (cl : List (Str × Addr)) (fp : List Addr), PG (X.blk s H scope (compEnvC scope cl C X.env) fp) tg (rdG K (wipeW w (own.map (·.2))) (own.map (·.2)) dg))
    (ht : ∀ (s : Shared) (H : Hp) (C : Addr) (cl : List (Str × Addr)) (fp : List Addr), PTs (X.blk s H scope (compEnvC scope cl C X.env) fp) ifs (rdT K (wipeW w (own.map (·.2))) WF tt))
    (he : ∀ (s : Shared) (H : Hp) (C : Addr) (cl : List (Str × Addr)) (fp : List Addr), PE (X.blk s H scope (compEnvC scope cl C X.env) fp) elt (rdE K (wipeW w (own.map (·.2))) WF de .z))
    (hl : i < w.length := by exact of_decide_eq_true rfl) (ok : blkC X.N X.env.scope scope own = true := by decide +kernel) (hc : X.calm = true := by rfl) (hN : X.N.Nodup := by decide) (hy : X.N[i]? = some y := by rfl) (hyl : X.env.scope.names.lookup y = some .local := by rfl)
    (hsw : swapsWith (.ListComp elt [⟨tg, iter, ifs, 0⟩] scope pos) (some (.Name y py)) spos.line X.env = pure true := by rfl) (hs : ∀ x, foldedSetIterable iter X.env x = pure x := by intro _; rfl) :
    PS X (.Assign [.Name y py] (.ListComp elt [⟨tg, iter, ifs, 0⟩] scope pos) spos) (rdS K w W (sSet i (dLc (own.map (·.2)) di dg tt de)) ⟨w.set i .z, bk, ct, rt⟩) :=
  PS_weak (ps_setLc hc hN hy hyl hsw hi (blkOk_by ok) hg ht he hs) fun D σ H ⟨B0, H0, B, env, S, h⟩ => rdE_lc _ _ _ (rdE_z (st_E S h fun d v H1 B1 g _ gr r nd hf h1 => by
    obtain ⟨hz, h1⟩ := Out.iff h1
    exact h1 B1 _ H1 (S.set gr r nd hf hz hl)))
end
end Fz
set_option Elab.async false
set_option linter.all false
set_option maxRecDepth 100000
set_option maxHeartbeats 4000000
/-! Functionalization: the law's own def. -/
namespace Fz
open PySem PySem.Spec PyProof.Rows L2
theorem FnOk.toCX0 {P : Program} {w : World} {K : Fr} {mg : Str → Option Value} {base : Heap} {k : Nat} {f : Addr} {fd : FuncData} {ps : List Str} {sp : Sp} (F : L2.FnOk P w K mg base (L2.CX P w) k f fd ps sp) :
    L2.FnOk P w K mg base CX0 k f fd ps (fun vs H Q _ => sp vs H Q fun _ _ _ => False) :=
  ⟨fun vs H Q E q => F.len vs H Q _ q, fun A outer s H args us vs Q E hr he hb hv hs => codeAny_mono (F.run A outer s H args us vs Q _ hr he hb hv hs) fun r s' h => by
    cases r with
    | error e =>
      obtain ⟨_, _, _, _, _, _, _, _, _, _, _, _, z⟩ := h
      exact z.elim
    | ok fl => cases fl <;> exact h⟩
/-- the law told a script -/
theorem law_sp {K : Fr} {H : Hp} {a : Addr} {ns : List Int} {f : List D → Res D} (hS : SqL K H a (ns.map V.int)) (h : f [.scr (ns.map .int)] = .ok (.bl true)) : spD K 1 f .z [.ref a] H (fun v _ => v = .bl true) fun _ _ _ => False := by
  refine ⟨H, [.scr (ns.map .int)], Ex.rfl' _, .cons (.scr hS Reps.ints) .nil, rfl, ?_⟩
  rw [h]
  intro v H' B' f g r nd hf
  have q := r.1
  cases q
  rfl
end Fz
set_option Elab.async false
set_option linter.all false
set_option maxRecDepth 100000
/-! Functionalization: how the plain functions are reckoned. -/
namespace Fz
open PySem

abbrev dI (ns : List Int) : List D := ns.map .int
abbrev tupI (ns : List Int) : D := .tup (dI ns)
abbrev lstI (ns : List Int) : D := .lst (dI ns)

theorem nr {α : Type} {a b : α} (h : a = b) : a = b := h
/-! ### evaluation: no match stands in what is reckoned (the kernel would reckon what it looks at) -/
def endRun (k : Ow) : Out → Res D
  | .ret d => .ok d
  | .nx _ => if k = .z then .ok .non else .bad
  | .exc c fs _ => .exc c fs
  | _ => .bad
def endIni (c : Str) : Option (Option D) → Res (List (Str × D))
  | some (some (.ins c' fs)) => if c' = c then .ok fs else .bad
  | _ => .bad
def endInit (c : Str) : Out → Res (List (Str × D))
  | .nx e => endIni c e[(0 : Nat)]?
  | .exc c fs _ => .exc c fs
  | _ => .bad
def Out.seq (o : Out) (c : Env → Out) : Out := match o with
  | .nx e => c e
  | o => o
def dvK : Option (Option D) → Res D
  | some (some d) => .ok d
  | _ => .bad
def optK : Option D → Res D
  | some d => .ok d
  | none => .bad
def asB : D → Res Bool
  | .bl b => .ok b
  | _ => .bad
def asO : D → Res (Option Int)
  | .int i => .ok (some i)
  | _ => .bad
def andK (x : D) (r : Res D) : Res D := match x with
  | .bl true => r
  | .bl false => .ok (.bl false)
  | _ => .bad
def orK (x : D) (r : Res D) : Res D := match x with
  | .bl true => .ok (.bl true)
  | .bl false => r
  | _ => .bad
def appK (i : Nat) (env : Env) (r : Res D) : Option (Option D) → Out
  | some (some (.lst xs)) => oBind r env fun d => if xs.length < 16777216 then .nx (env.set i (some (.lst (xs ++ [d])))) else .bad
  | _ => .bad
def fldK (i : Nat) (cs : List Str) (f : Str) (env : Env) (r : Res D) : Option (Option D) → Out
  | some (some (.ins c fs)) => oBind r env fun d => if cs.contains c = true ∧ fs.length < 1000 then .nx (env.set i (some (.ins c (putD f d fs)))) else .bad
  | _ => .bad
def putK (i : Nat) (env : Env) (xs : List D) (d : D) : Option Nat → Out
  | some n => .nx (env.set i (some (.lst (xs.set n d))))
  | none => .bad
def ixK (xs : List D) : D → Option Nat
  | .int j => L2.ixN xs.length j
  | _ => none
section
variable {α β : Type}
@[simp] theorem bind_ok (a : α) (f : α → Res β) : (Res.ok a).bind f = f a := nr rfl
@[simp] theorem bind_exc (c : Str) (fs : List (Str × D)) (f : α → Res β) : (Res.exc c fs : Res α).bind f = .exc c fs := nr rfl
@[simp] theorem bind_bad (f : α → Res β) : (Res.bad : Res α).bind f = .bad := nr rfl
@[simp] theorem oBind_ok (a : α) (env : Env) (f : α → Out) : oBind (.ok a) env f = f a := nr rfl
@[simp] theorem oBind_exc (c : Str) (fs : List (Str × D)) (env : Env) (f : α → Out) : oBind (.exc c fs : Res α) env f = .exc c fs env := nr rfl
end
@[simp] theorem seq_nx (e : Env) (c : Env → Out) : (Out.nx e).seq c = c e := nr rfl
@[simp] theorem seq_ret (d : D) (c : Env → Out) : (Out.ret d).seq c = .ret d := nr rfl
@[simp] theorem seq_exc (x : Str) (fs : List (Str × D)) (e : Env) (c : Env → Out) : (Out.exc x fs e).seq c = .exc x fs e := nr rfl
@[simp] theorem seq_ct (e : Env) (c : Env → Out) : (Out.ct e).seq c = .ct e := nr rfl
@[simp] theorem seq_bk (e : Env) (c : Env → Out) : (Out.bk e).seq c = .bk e := nr rfl
@[simp] theorem endRun_ret (k : Ow) (d : D) : endRun k (.ret d) = .ok d := nr rfl
@[simp] theorem endRun_nx (e : Env) : endRun .z (.nx e) = .ok .non := nr rfl
@[simp] theorem endRun_exc (k : Ow) (c : Str) (fs : List (Str × D)) (e : Env) : endRun k (.exc c fs e) = .exc c fs := nr rfl
@[simp] theorem endIni_ins (c : Str) (fs : List (Str × D)) : endIni c (some (some (.ins c fs))) = .ok fs := if_pos rfl
@[simp] theorem endInit_nx (c : Str) (e : Env) : endInit c (.nx e) = endIni c e[(0 : Nat)]? := nr rfl
@[simp] theorem endInit_exc (k c : Str) (fs : List (Str × D)) (e : Env) : endInit k (.exc c fs e) = .exc c fs := nr rfl
@[simp] theorem dvK_some (d : D) : dvK (some (some d)) = .ok d := nr rfl
@[simp] theorem optK_some (d : D) : optK (some d) = .ok d := nr rfl
@[simp] theorem asB_bl (b : Bool) : asB (.bl b) = .ok b := nr rfl
@[simp] theorem asO_int (i : Int) : asO (.int i) = .ok (some i) := nr rfl
@[simp] theorem andK_t (r : Res D) : andK (.bl true) r = r := nr rfl
@[simp] theorem andK_f (r : Res D) : andK (.bl false) r = .ok (.bl false) := nr rfl
@[simp] theorem orK_t (r : Res D) : orK (.bl true) r = .ok (.bl true) := nr rfl
@[simp] theorem orK_f (r : Res D) : orK (.bl false) r = r := nr rfl
@[simp] theorem appK_lst (i : Nat) (env : Env) (r : Res D) (xs : List D) : appK i env r (some (some (.lst xs))) = oBind r env fun d => if xs.length < 16777216 then .nx (env.set i (some (.lst (xs ++ [d])))) else .bad := nr rfl
@[simp] theorem fldK_ins (i : Nat) (cs : List Str) (f : Str) (env : Env) (r : Res D) (c : Str) (fs : List (Str × D)) : fldK i cs f env r (some (some (.ins c fs))) = oBind r env fun d => if cs.contains c = true ∧ fs.length < 1000 then .nx (env.set i (some (.ins c (putD f d fs)))) else .bad := nr rfl
theorem runD_eq (k : Ow) (n : Nat) (b : Env → Out) (ds : List D) : runD k n b ds = endRun k (b (startE n ds)) := by
  unfold runD endRun
  cases b (startE n ds) <;> rfl
theorem runI_eq (c : Str) (n : Nat) (b : Env → Out) (ds : List D) : runI c n b ds = endInit c (b (startE n (.ins c [] :: ds))) := by
  unfold runI endInit
  cases b (startE n (.ins c [] :: ds)) with
  | nx e =>
    dsimp only
    cases e[(0 : Nat)]? with
    | none => rfl
    | some o =>
      cases o with
      | none => rfl
      | some d => cases d <;> rfl
  | _ => rfl
variable (env : Env)
@[simp] theorem dv_ev (i : Nat) : dv i env = dvK env[i]? := by
  unfold dv dvK
  cases env[i]? with
  | none => rfl
  | some o => cases o <;> rfl
@[simp] theorem dc_ev (d : D) : dc d env = .ok d := nr rfl
@[simp] theorem d1_ev (f : D → Res D) (a : Env → Res D) : d1 f a env = (a env).bind f := nr rfl
@[simp] theorem d2_ev (f : D → D → Res D) (a b : Env → Res D) : d2 f a b env = (a env).bind fun x => (b env).bind fun y => f x y := nr rfl
@[simp] theorem dnil_ev : dnil env = .ok [] := nr rfl
@[simp] theorem dcons_ev (a : Env → Res D) (r : Env → Res (List D)) : dcons a r env = (a env).bind fun x => (r env).bind fun ys => .ok (x :: ys) := nr rfl
@[simp] theorem dcall_ev (f : List D → Res D) (a : Env → Res (List D)) : dcall f a env = (a env).bind f := nr rfl
@[simp] theorem iSeq_ev (f : D → Res (List D)) (a : Env → Res D) : iSeq f a env = (a env).bind f := nr rfl
@[simp] theorem iArg_ev (f : List D → Res (List D)) (a : Env → Res (List D)) : iArg f a env = (a env).bind f := nr rfl
@[simp] theorem tVal_ev (a : Env → Res D) : tVal a env = (a env).bind asB := nr rfl
@[simp] theorem tTru_ev (a : Env → Res D) : tTru a env = (a env).bind truD := nr rfl
@[simp] theorem tNot_ev (t : Env → Res Bool) : Fz.tNot t env = (t env).bind fun b => .ok (!b) := nr rfl
@[simp] theorem tAnd_ev (t u : Env → Res Bool) : Fz.tAnd t u env = (t env).bind fun b => if b = true then u env else .ok false := nr rfl
@[simp] theorem tOr_ev (t u : Env → Res Bool) : Fz.tOr t u env = (t env).bind fun b => if b = true then .ok true else u env := nr rfl
@[simp] theorem dAnd_ev (a b : Env → Res D) : dAnd a b env = (a env).bind fun x => andK x (b env) := nr rfl
@[simp] theorem dOr_ev (a b : Env → Res D) : dOr a b env = (a env).bind fun x => orK x (b env) := nr rfl
@[simp] theorem dIf_ev (t : Env → Res Bool) (a b : Env → Res D) : dIf t a b env = (t env).bind fun c => if c = true then a env else b env := nr rfl
@[simp] theorem chainK_t (r : Res D) : chainK r (.bl true) = r := nr rfl
@[simp] theorem chainK_f (r : Res D) : chainK r (.bl false) = .ok (.bl false) := nr rfl
@[simp] theorem dChain_ev (f g : D → D → Res D) (a b c : Env → Res D) : dChain f g a b c env = (a env).bind fun x => (b env).bind fun y => (f x y).bind (chainK ((c env).bind fun u => g y u)) := nr rfl
@[simp] theorem dSl_ev (a : Env → Res D) (lo hi : Env → Res (Option Int)) : dSl a lo hi env = (a env).bind fun x => (lo env).bind fun l => (hi env).bind fun h => sliD x l h := nr rfl
@[simp] theorem pNo_ev : pNo env = .ok none := nr rfl
@[simp] theorem pAt_ev (de : Env → Res D) : pAt de env = (de env).bind asO := nr rfl
@[simp] theorem bSeq_ev (b c : Env → Out) : bSeq b c env = (b env).seq c := by
  unfold bSeq Out.seq
  cases b env <;> rfl
@[simp] theorem sNx_ev : sNx env = .nx env := nr rfl
@[simp] theorem sCt_ev : sCt env = .ct env := nr rfl
@[simp] theorem sBk_ev : sBk env = .bk env := nr rfl
@[simp] theorem sSet_ev (i : Nat) (de : Env → Res D) : sSet i de env = oBind (de env) env fun d => if i < env.length then .nx (env.set i (some d)) else .bad := nr rfl
@[simp] theorem sRet_ev (de : Env → Res D) : sRet de env = oBind (de env) env .ret := nr rfl
@[simp] theorem sRaise_ev (c : Str) : sRaise c env = .exc c [] env := nr rfl
@[simp] theorem sIf_ev (dt : Env → Res Bool) (b c : Env → Out) : sIf dt b c env = oBind (dt env) env fun t => if t = true then b env else c env := nr rfl
@[simp] theorem sFor_ev (di : Env → Res (List D)) (tg : D → Env → Option Env) (body : Env → Out) : sFor di tg body env = oBind (di env) env fun ds => loopD tg body ds env := nr rfl
@[simp] theorem sApp_ev (i : Nat) (de : Env → Res D) : sApp i de env = appK i env (de env) env[i]? := by
  unfold sApp appK
  cases env[i]? with
  | none => rfl
  | some o =>
    cases o with
    | none => rfl
    | some d => cases d <;> rfl
@[simp] theorem sFld_ev (i : Nat) (cs : List Str) (f : Str) (de : Env → Res D) : sFld' i cs f de env = fldK i cs f env (de env) env[i]? := by
  unfold sFld' fldK
  cases env[i]? with
  | none => rfl
  | some o =>
    cases o with
    | none => rfl
    | some d => cases d <;> rfl
@[simp] theorem tgN_ev (i : Nat) (d : D) : tgN i d env = if i < env.length then some (env.set i (some d)) else none := nr rfl
@[simp] theorem tgT_ev (is : List Nat) (ds : List D) : tgT is (.tup ds) env = tgL is ds env := nr rfl
@[simp] theorem tgL_cons (i : Nat) (r : List Nat) (d : D) (ds : List D) : tgL (i :: r) (d :: ds) env = if i < env.length then tgL r ds (env.set i (some d)) else none := nr rfl
@[simp] theorem tgL_nil : tgL [] [] env = some env := nr rfl
@[simp] theorem oFldO_ev (i : Nat) (cs : List Str) (f : Str) : oFldO i cs f env = (dv i env).bind (oFld cs f) := nr rfl
@[simp] theorem dLc_ev (vs : List Nat) (di : Env → Res (List D)) (tg : D → Env → Option Env) (tt : Env → Res Bool) (de : Env → Res D) : dLc vs di tg tt de env = (di env).bind fun ds => endLc (lcGo tg tt de (wipeE env vs) ds) := nr rfl
@[simp] theorem wipeE_nil : wipeE env [] = env := nr rfl
@[simp] theorem wipeE_cons (v : Nat) (vs : List Nat) : wipeE env (v :: vs) = (wipeE env vs).set v none := nr rfl
@[simp] theorem dYes_ev : dYes env = .ok true := nr rfl
@[simp] theorem withD_ev (n : Nat) (dvs : List D) (f : List D → Res D) (ds : List D) : withD n dvs f ds = if (ds ++ dvs).length = n then f (ds ++ dvs) else .bad := nr rfl
@[simp] theorem dmeth_ev (c m : Str) (n : Nat) (dvs : List D) (f : List D → Res D) (a : Env → Res D) (da : Env → Res (List D)) : dmeth c m n dvs f a da env = (a env).bind (methK c m fun o => (da env).bind fun ds => withD n dvs f (o :: ds)) := nr rfl
@[simp] theorem methK_ev (c m : Str) (g : D → Res D) (c' : Str) (fs : List (Str × D)) : methK c m g (.ins c' fs) = if c' = c ∧ fs.lookup m = none then g (.ins c' fs) else .bad := nr rfl
@[simp] theorem mkD_ev (c : Str) (n : Nat) (dvs : List D) (f : List D → Res (List (Str × D))) (ds : List D) : mkD c n dvs f ds = if (ds ++ dvs).length = n then (f (ds ++ dvs)).bind fun fs => .ok (.ins c fs) else .bad := nr rfl
@[simp] theorem oFld_ev (cs : List Str) (f c : Str) (fs : List (Str × D)) : oFld cs f (.ins c fs) = if cs.contains c = true then optK (fs.lookup f) else .bad := by
  show (if cs.contains c = true then (match fs.lookup f with | some d => Res.ok d | none => .bad) else .bad) = _
  cases fs.lookup f <;> rfl
theorem sPut_ok {i : Nat} {di de : Env → Res D} {env : Env} {xs : List D} {d : D} {j : Int} {n : Nat} (h : env[i]? = some (some (.lst xs))) (hd : de env = .ok d) (hi : di env = .ok (.int j)) (hn : L2.ixN xs.length j = some n) : sPut i di de env = .nx (env.set i (some (.lst (xs.set n d)))) := by
  unfold sPut
  rw [h]
  dsimp only
  rw [hd]
  show oBind (di env) env _ = _
  rw [hi]
  show (match L2.ixN xs.length j with | some n => Out.nx (env.set i (some (.lst (xs.set n d)))) | none => .bad) = _
  rw [hn]
theorem ixN_nat {n k : Nat} {j : Int} (hj : j = (k : Int)) (h : k < n) : L2.ixN n j = some k := by
  unfold L2.ixN
  rw [hj, if_pos (by omega), if_pos (by omega)]
  simp
theorem oIxO_ok {i : Nat} {di : Env → Res D} {env : Env} {xs : List D} (h : env[i]? = some (some (.lst xs))) : oIxO i di env = (di env).bind fun j => oIx (.lst xs) j := by
  unfold oIxO
  rw [h]
theorem sTry_exc {sub : List (Str × Bool)} {i : Nat} {body suite : Env → Out} {env e : Env} {c : Str} (h : body env = .exc c [] e) (hs : sub.lookup c = some true) (hi : i < e.length) : sTry sub i body suite env = unE i (suite (e.set i (some (.exn c [])))) := by
  unfold sTry
  rw [h]
  dsimp only
  rw [hs]
  exact if_pos ⟨rfl, hi⟩
theorem dIsE_ok {i : Nat} {sub : List (Str × Bool)} {env : Env} {c : Str} {fs : List (Str × D)} {b : Bool} (h : env[i]? = some (some (.exn c fs))) (hs : sub.lookup c = some b) : dIsE i sub env = .ok (.bl b) := by
  unfold dIsE
  rw [h]
  dsimp only
  rw [hs]
@[simp] theorem unE_ret (i : Nat) (d : D) : unE i (.ret d) = .ret d := nr rfl
theorem dflat_ok {a : Env → Res D} {d : D} {env : Env} (h : a env = .ok d) (hf : d.flat = true) : dflat a env = .ok d := by
  unfold dflat
  rw [h]
  exact if_pos hf
theorem tflat_ok {a : Env → Res Bool} {b : Bool} {env : Env} (h : a env = .ok b) : tflat a env = .ok b := by
  unfold tflat
  rw [h]

/-! ### operators -/
@[simp] theorem oAdd_int (i j : Int) : oAdd (.int i) (.int j) = .ok (.int (i + j)) := nr rfl
@[simp] theorem oSub_int (i j : Int) : oSub (.int i) (.int j) = .ok (.int (i - j)) := nr rfl
@[simp] theorem oNeg_int (i : Int) : oNeg (.int i) = .ok (.int (-i)) := nr rfl
@[simp] theorem cI_int (p : Int → Int → Bool) (i j : Int) : cI p (.int i) (.int j) = .ok (.bl (p i j)) := nr rfl
@[simp] theorem cEq_int (i j : Int) : cEq (.int i) (.int j) = .ok (.bl (decide (i = j))) := nr rfl
@[simp] theorem cNe_int (i j : Int) : cNe (.int i) (.int j) = .ok (.bl (!decide (i = j))) := nr rfl
@[simp] theorem cEq_str (i j : Str) : cEq (.str i) (.str j) = .ok (.bl (decide (i = j))) := nr rfl
@[simp] theorem cNe_str (i j : Str) : cNe (.str i) (.str j) = .ok (.bl (!decide (i = j))) := nr rfl
@[simp] theorem oNot_bl (b : Bool) : oNot (.bl b) = .ok (.bl (!b)) := nr rfl
@[simp] theorem bInt_int (i : Int) : bInt [.int i] = .ok (.int i) := nr rfl
@[simp] theorem bAbs_int (i : Int) : bAbs [.int i] = .ok (.int (if i < 0 then -i else i)) := nr rfl
@[simp] theorem bMax_2 (i j : Int) : bMax [.int i, .int j] = .ok (.int (if j > i then j else i)) := nr rfl
@[simp] theorem bMin_2 (i j : Int) : bMin [.int i, .int j] = .ok (.int (if j < i then j else i)) := nr rfl
@[simp] theorem bGcd_2 (i j : Int) : bGcd [.int i, .int j] = .ok (.int ((Int.gcd i j : Nat) : Int)) := nr rfl
@[simp] theorem bLen_lst (ds : List D) : bLen [.lst ds] = .ok (.int ds.length) := nr rfl
@[simp] theorem bLen_scr (ds : List D) : bLen [.scr ds] = .ok (.int ds.length) := nr rfl
@[simp] theorem bLen_tup (ds : List D) : bLen [.tup ds] = .ok (.int ds.length) := nr rfl
@[simp] theorem bTup_lst (ds : List D) : bTup [.lst ds] = .ok (.tup ds) := nr rfl
@[simp] theorem bTup_tup (ds : List D) : bTup [.tup ds] = .ok (.tup ds) := nr rfl
@[simp] theorem bLst_lst (ds : List D) : bLst [.lst ds] = .ok (.lst ds) := nr rfl
@[simp] theorem bLst_tup (ds : List D) : bLst [.tup ds] = .ok (.lst ds) := nr rfl
@[simp] theorem itD_lst (ds : List D) : itD (.lst ds) = .ok ds := nr rfl
@[simp] theorem itD_scr (ds : List D) : itD (.scr ds) = .ok ds := nr rfl
@[simp] theorem itD_tup (ds : List D) : itD (.tup ds) = .ok ds := nr rfl
@[simp] theorem revD_lst (ds : List D) : revD (.lst ds) = .ok ds.reverse := nr rfl
@[simp] theorem revD_tup (ds : List D) : revD (.tup ds) = .ok ds.reverse := nr rfl
@[simp] theorem tupRevD_lst (ds : List D) : tupRevD (.lst ds) = .ok (.tup ds.reverse) := nr rfl
@[simp] theorem truD_bl (b : Bool) : truD (.bl b) = .ok b := nr rfl
@[simp] theorem truD_int (i : Int) : truD (.int i) = .ok (i != 0) := nr rfl
@[simp] theorem truD_lst (ds : List D) : truD (.lst ds) = .ok (!ds.isEmpty) := nr rfl
@[simp] theorem enmD_tup (ds : List D) : enmD [.tup ds] = .ok (enumD 0 ds) := nr rfl
@[simp] theorem enmD_lst (ds : List D) : enmD [.lst ds] = .ok (enumD 0 ds) := nr rfl
theorem oMul_ok {i j : Int} (h : mulOk i j = true) : oMul (.int i) (.int j) = .ok (.int (i * j)) := if_pos h
theorem oDiv_ok {i j : Int} (h : divOk j = true) : oDiv (.int i) (.int j) = .ok (.int (i.fdiv j)) := if_pos h
theorem oMod_ok {i j : Int} (h : j ≠ 0) : oMod (.int i) (.int j) = .ok (.int (i.fmod j)) := if_pos h
theorem oPow_ok {i j : Int} (h : powOk i j = true) : oPow (.int i) (.int j) = .ok (.int (i ^ j.toNat)) := if_pos h
theorem mulOk_r {i j : Int} (h : -(2 ^ 60) ≤ j ∧ j ≤ 2 ^ 60) : mulOk i j = true := by
  simp only [mulOk, Bool.or_eq_true, decide_eq_true_eq]
  exact .inl (.inr (by omega))
theorem mulOk_l {i j : Int} (h : -(2 ^ 60) ≤ i ∧ i ≤ 2 ^ 60) : mulOk i j = true := by
  simp only [mulOk, Bool.or_eq_true, decide_eq_true_eq]
  exact .inl (.inl (by omega))
theorem divOk_of {j : Int} (h : 0 < j) (h2 : j < 1073741824) : divOk j = true := by
  simp only [divOk, Bool.and_eq_true, Bool.or_eq_true, decide_eq_true_eq]
  exact ⟨by omega, .inl (by omega)⟩
theorem fmod_pos {i j : Int} (h : 0 < j) : i.fmod j = i % j := Int.fmod_eq_emod_of_nonneg i (Int.le_of_lt h)
theorem fdiv_pos {i j : Int} (h : 0 < j) : i.fdiv j = i / j := Int.fdiv_eq_ediv_of_nonneg i (Int.le_of_lt h)
/-- a divisor that is positive -/
theorem oMod_p {i j : Int} (h : 0 < j) : oMod (.int i) (.int j) = .ok (.int (i % j)) := by rw [oMod_ok (by omega), fmod_pos h]
theorem oDiv_p {i j : Int} (h : 0 < j) (h2 : j < 1073741824) : oDiv (.int i) (.int j) = .ok (.int (i / j)) := by rw [oDiv_ok (divOk_of h h2), fdiv_pos h]
theorem oMul_r {i j : Int} (h : -(2 ^ 60) ≤ j ∧ j ≤ 2 ^ 60) : oMul (.int i) (.int j) = .ok (.int (i * j)) := oMul_ok (mulOk_r h)
theorem oMul_l {i j : Int} (h : -(2 ^ 60) ≤ i ∧ i ≤ 2 ^ 60) : oMul (.int i) (.int j) = .ok (.int (i * j)) := oMul_ok (mulOk_l h)
@[simp] theorem oLst_nil : oLst [] = .ok (.lst []) := if_pos (by decide)
@[simp] theorem oLst_1 (a : D) : oLst [a] = .ok (.lst [a]) := if_pos (by show 1 ≤ 16777216; decide)
@[simp] theorem oLst_2 (a b : D) : oLst [a, b] = .ok (.lst [a, b]) := if_pos (by show 2 ≤ 16777216; decide)
@[simp] theorem oLst_3 (a b c : D) : oLst [a, b, c] = .ok (.lst [a, b, c]) := if_pos (by show 3 ≤ 16777216; decide)
@[simp] theorem oTup_nil : oTup [] = .ok (.tup []) := if_pos (by decide)
@[simp] theorem oTup_1 (a : D) : oTup [a] = .ok (.tup [a]) := if_pos (by show 1 ≤ 16777216; decide)
@[simp] theorem oTup_2 (a b : D) : oTup [a, b] = .ok (.tup [a, b]) := if_pos (by show 2 ≤ 16777216; decide)
@[simp] theorem oTup_3 (a b c : D) : oTup [a, b, c] = .ok (.tup [a, b, c]) := if_pos (by show 3 ≤ 16777216; decide)
@[simp] theorem oTup_4 (a b c d : D) : oTup [a, b, c, d] = .ok (.tup [a, b, c, d]) := if_pos (by show 4 ≤ 16777216; decide)
theorem oAdd_tup {xs ys : List D} (h : xs.length + ys.length ≤ 16777216) : oAdd (.tup xs) (.tup ys) = .ok (.tup (xs ++ ys)) := if_pos h
theorem oAddL_ok {xs ys : List D} (h : xs.length + ys.length ≤ 16777216) : oAddL (.lst xs) (.lst ys) = .ok (.lst (xs ++ ys)) := if_pos h
/-! ### items -/
theorem atI_nat {α : Type} (xs : List α) (n : Nat) : L2.atI xs (n : Int) = xs[n]? := by
  unfold L2.atI L2.ixN
  by_cases h : n < xs.length
  · rw [if_pos (by omega), if_pos (by omega)]
    simp
  · rw [if_pos (by omega), if_neg (by omega)]
    rw [List.getElem?_eq_none (by omega)]
    rfl
theorem oIx_tup {xs : List D} {n : Nat} {d : D} {i : Int} (hi : i = (n : Int)) (h : xs[n]? = some d) : oIx (.tup xs) (.int i) = .ok d := by
  show (match L2.atI xs i with | some d => Res.ok d | none => .bad) = _
  rw [hi, atI_nat, h]
theorem oIx_lst {xs : List D} {n : Nat} {d : D} {i : Int} (hi : i = (n : Int)) (h : xs[n]? = some d) : oIx (.lst xs) (.int i) = .ok d := by
  show (match L2.atI xs i with | some d => Res.ok d | none => .bad) = _
  rw [hi, atI_nat, h]
theorem oIx_scr {xs : List D} {n : Nat} {d : D} {i : Int} (hi : i = (n : Int)) (h : xs[n]? = some d) : oIx (.scr xs) (.int i) = .ok d := by
  show (match L2.atI xs i with | some d => Res.ok d | none => .bad) = _
  rw [hi, atI_nat, h]
/-- the n-th number, 0 beyond -/
def nth (ns : List Int) (n : Nat) : Int := ns.getD n 0
/-- the n-th item -/
def nthA {α : Type} [Inhabited α] (xs : List α) (n : Nat) : α := xs.getD n default
theorem dI_get {ns : List Int} {n : Nat} (h : n < ns.length) : (dI ns)[n]? = some (.int (nth ns n)) := by
  simp [dI, nth, List.getElem?_map, List.getElem?_eq_getElem h, List.getD_eq_getElem?_getD]
theorem map_get {α : Type} {f : α → D} {xs : List α} {n : Nat} {x : α} (h : xs[n]? = some x) : (xs.map f)[n]? = some (f x) := by rw [List.getElem?_map, h] <;> rfl

theorem atI_int {α : Type} {xs : List α} {i : Int} (h0 : 0 ≤ i) : L2.atI xs i = xs[i.toNat]? := by
  obtain ⟨n, rfl⟩ : ∃ n : Nat, i = (n : Int) := ⟨i.toNat, by omega⟩
  rw [atI_nat]
  simp
theorem oIx_lstI {ns : List Int} {i : Int} (h0 : 0 ≤ i) (h : i < ns.length) : oIx (lstI ns) (.int i) = .ok (.int (nth ns i.toNat)) := oIx_lst (n := i.toNat) (by omega) (dI_get (by omega))
theorem oIx_tupI {ns : List Int} {i : Int} (h0 : 0 ≤ i) (h : i < ns.length) : oIx (tupI ns) (.int i) = .ok (.int (nth ns i.toNat)) := oIx_tup (n := i.toNat) (by omega) (dI_get (by omega))
theorem nthA_get {α : Type} [Inhabited α] {xs : List α} {n : Nat} (h : n < xs.length) : xs[n]? = some (nthA xs n) := by
  unfold nthA
  rw [List.getD_eq_getElem?_getD, List.getElem?_eq_getElem h] <;> rfl
theorem nthA_mem {α : Type} [Inhabited α] {xs : List α} {n : Nat} (h : n < xs.length) : nthA xs n ∈ xs := by
  unfold nthA
  rw [List.getD_eq_getElem?_getD, List.getElem?_eq_getElem h]
  exact List.getElem_mem h
theorem nth_get {xs : List Int} {n : Nat} (h : n < xs.length) : xs[n]? = some (nth xs n) := by
  unfold nth
  rw [List.getD_eq_getElem?_getD, List.getElem?_eq_getElem h] <;> rfl
theorem oIx_lstM {α : Type} [Inhabited α] {f : α → D} {xs : List α} {i : Int} (h0 : 0 ≤ i) (h : i < xs.length) : oIx (.lst (xs.map f)) (.int i) = .ok (f (nthA xs i.toNat)) :=
  oIx_lst (n := i.toNat) (by omega) (map_get (nthA_get (by omega)))
theorem oIx_tupM {α : Type} [Inhabited α] {f : α → D} {xs : List α} {i : Int} (h0 : 0 ≤ i) (h : i < xs.length) : oIx (.tup (xs.map f)) (.int i) = .ok (f (nthA xs i.toNat)) :=
  oIx_tup (n := i.toNat) (by omega) (map_get (nthA_get (by omega)))
theorem nth_mem {ns : List Int} {n : Nat} (h : n < ns.length) : nth ns n ∈ ns := by
  unfold nth
  rw [List.getD_eq_getElem?_getD, List.getElem?_eq_getElem h]
  exact List.getElem_mem h
theorem oIx_dN {ns : List Int} {n : Nat} (h : n < ns.length) : oIx (tupI ns) (.int (n : Int)) = .ok (.int (nth ns n)) := oIx_tup rfl (dI_get h)
theorem oIx_dNl {ns : List Int} {n : Nat} (h : n < ns.length) : oIx (lstI ns) (.int (n : Int)) = .ok (.int (nth ns n)) := oIx_lst rfl (dI_get h)
theorem oIx_mN {α : Type} [Inhabited α] {f : α → D} {xs : List α} {n : Nat} (h : n < xs.length) : oIx (.tup (xs.map f)) (.int (n : Int)) = .ok (f (nthA xs n)) := oIx_tup rfl (map_get (nthA_get h))
theorem oIx_mNl {α : Type} [Inhabited α] {f : α → D} {xs : List α} {n : Nat} (h : n < xs.length) : oIx (.lst (xs.map f)) (.int (n : Int)) = .ok (f (nthA xs n)) := oIx_lst rfl (map_get (nthA_get h))
theorem cut_lo {xs : List D} {n : Nat} (h : n ≤ xs.length) : cutD xs none (some (n : Int)) = xs.take n := by
  unfold cutD HT.sIx
  simp
  rw [if_neg (by omega)]
  congr 1
  omega
theorem cut_hi {xs : List D} {n : Nat} (h : n ≤ xs.length) : cutD xs (some (n : Int)) none = xs.drop n := by
  unfold cutD HT.sIx
  simp
  rw [if_neg (by omega), Nat.min_eq_left (by omega)]
  exact List.take_of_length_le (by simp)
/-! ### loops -/
section
variable {β : Type} {tg : D → Env → Option Env} {body : Env → Out} {dd : β → D}
theorem loopD_nx {d : D} {r : List D} {env e1 e2 : Env} (h1 : tg d env = some e1) (h2 : body e1 = .nx e2) : loopD tg body (d :: r) env = loopD tg body r e2 := by
  conv => lhs; unfold loopD
  rw [h1]; dsimp only; rw [h2]
theorem loopD_ct {d : D} {r : List D} {env e1 e2 : Env} (h1 : tg d env = some e1) (h2 : body e1 = .ct e2) : loopD tg body (d :: r) env = loopD tg body r e2 := by
  conv => lhs; unfold loopD
  rw [h1]; dsimp only; rw [h2]
theorem loopD_ret {d : D} {r : List D} {env e1 : Env} {v : D} (h1 : tg d env = some e1) (h2 : body e1 = .ret v) : loopD tg body (d :: r) env = .ret v := by
  conv => lhs; unfold loopD
  rw [h1]; dsimp only; rw [h2]
theorem loopD_exc {d : D} {r : List D} {env e1 e2 : Env} {c : Str} {fs : List (Str × D)} (h1 : tg d env = some e1) (h2 : body e1 = .exc c fs e2) : loopD tg body (d :: r) env = .exc c fs e2 := by
  conv => lhs; unfold loopD
  rw [h1]; dsimp only; rw [h2]
@[simp] theorem loopD_nil {env : Env} : loopD tg body [] env = .nx env := nr rfl
/-- a loop that is never left: the invariant by what is still to come -/
theorem loop_inv (Inv : List β → Env → Prop) (h : ∀ x r e, Inv (x :: r) e → ∃ e1, tg (dd x) e = some e1 ∧ ∃ e2, (body e1 = .nx e2 ∨ body e1 = .ct e2) ∧ Inv r e2) : ∀ (xs : List β) (e : Env), Inv xs e → ∃ e', loopD tg body (xs.map dd) e = .nx e' ∧ Inv [] e'
  | [], e, i => ⟨e, rfl, i⟩
  | x :: r, e, i => by
    obtain ⟨e1, h1, e2, h2, h3⟩ := h x r e i
    obtain ⟨e', h4, h5⟩ := loop_inv Inv h r e2 h3
    refine ⟨e', ?_, h5⟩
    show loopD tg body (dd x :: r.map dd) e = _
    unfold loopD
    rw [h1]
    rcases h2 with h2 | h2
    · dsimp only; rw [h2]; exact h4
    · dsimp only; rw [h2]; exact h4
/-- a loop that may be left: what comes out -/
theorem loop_out (Inv : List β → Env → Prop) (Post : Out → Prop) (h : ∀ x r e, Inv (x :: r) e → ∃ e1, tg (dd x) e = some e1 ∧
      match body e1 with | .nx e2 => Inv r e2 | .ct e2 => Inv r e2 | .bk e2 => Post (.nx e2) | .ret v => Post (.ret v) | .exc c fs e2 => Post (.exc c fs e2) | .bad => Post .bad)
    (h0 : ∀ e, Inv [] e → Post (.nx e)) : ∀ (xs : List β) (e : Env), Inv xs e → Post (loopD tg body (xs.map dd) e)
  | [], e, i => h0 e i
  | x :: r, e, i => by
    obtain ⟨e1, h1, h2⟩ := h x r e i
    show Post (loopD tg body (dd x :: r.map dd) e)
    unfold loopD
    rw [h1]
    dsimp only
    cases hb : body e1 with
    | nx e2 => rw [hb] at h2; exact loop_out Inv Post h h0 r e2 h2
    | ct e2 => rw [hb] at h2; exact loop_out Inv Post h h0 r e2 h2
    | bk e2 => rw [hb] at h2; exact h2
    | ret v => rw [hb] at h2; exact h2
    | exc c fs e2 => rw [hb] at h2; exact h2
    | bad => rw [hb] at h2; exact h2
/-- .. over a range -/
theorem loop_rng {lo : Int} (n : Nat) (Inv : Nat → Env → Prop) (h : ∀ i e, i < n → Inv i e → ∃ e1, tg (.int (lo + (i : Int))) e = some e1 ∧ ∃ e2, (body e1 = .nx e2 ∨ body e1 = .ct e2) ∧ Inv (i + 1) e2) (e : Env) (h0 : Inv 0 e) :
    ∃ e', loopD tg body (rngD lo n) e = .nx e' ∧ Inv n e' := by
  obtain ⟨e', h1, i, h2, h3⟩ := loop_inv (tg := tg) (body := body) (dd := fun (i : Nat) => D.int (lo + (i : Int))) (fun r e => ∃ i, r = (List.range n).drop i ∧ i ≤ n ∧ Inv i e) (fun x r e ⟨i, hr, hi, iv⟩ => by
    have hlt : i < n := by
      rcases Nat.lt_or_ge i n with q | q
      · exact q
      · rw [List.drop_eq_nil_of_le (by simpa using q)] at hr; cases hr
    rw [List.drop_eq_getElem_cons (by simpa using hlt)] at hr
    injection hr with hx hr
    rw [List.getElem_range] at hx
    subst hx
    obtain ⟨e1, k1, e2, k2, k3⟩ := h x e hlt iv
    exact ⟨e1, k1, e2, k2, x + 1, hr, hlt, k3⟩) (List.range n) e ⟨0, rfl, Nat.zero_le _, h0⟩
  refine ⟨e', h1, ?_⟩
  have : i = n := by
    rcases Nat.lt_or_ge i n with q | q
    · have z := congrArg List.length h2
      simp at z
      omega
    · omega
  rw [← this]; exact h3.2
/-- 0, 1, .. -/
def digs (n : Nat) : List Int := (List.range n).map fun (i : Nat) => (i : Int)
theorem rngD0 (n : Nat) : rngD 0 n = dI (digs n) := by simp [rngD, dI, digs]
theorem digs_len (n : Nat) : (digs n).length = n := by simp [digs]
theorem digs_mem {n : Nat} {x : Int} : x ∈ digs n ↔ 0 ≤ x ∧ x < n := by
  simp only [digs, List.mem_map, List.mem_range]
  constructor
  · rintro ⟨i, hi, rfl⟩; omega
  · intro ⟨h1, h2⟩; exact ⟨x.toNat, by omega, by omega⟩
/-- a comprehension without tests -/
theorem lc_map {de : Env → Res D} {env : Env} {g : β → D} : ∀ {xs : List β}, (∀ x ∈ xs, ∃ e1, tg (dd x) env = some e1 ∧ de e1 = .ok (g x)) → lcGo tg dYes de env (xs.map dd) = .ok (xs.map g)
  | [], _ => rfl
  | x :: r, h => by
    obtain ⟨e1, h1, h2⟩ := h x List.mem_cons_self
    have ih := lc_map (xs := r) fun y hy => h y (List.mem_cons_of_mem _ hy)
    show lcGo tg dYes de env (dd x :: r.map dd) = .ok (g x :: r.map g)
    unfold lcGo
    rw [h1]
    dsimp only [dYes]
    rw [h2, ih]
    rfl
theorem endLc_map {γ : Type} {g : γ → D} {xs : List γ} (h : xs.length ≤ 16777216) : endLc (.ok (xs.map g)) = .ok (.lst (xs.map g)) := if_pos (by rw [List.length_map]; exact h)
end
end Fz
set_option Elab.async false
set_option linter.all false
set_option maxRecDepth 100000
/-! Functionalization: == of plain data is equality. -/
namespace Fz
open PySem

mutual
/-- None, ints, texts, lists and tuples of such -/
def D.lay : D → Bool
  | .non => true
  | .int _ => true
  | .str x => PyData.strOk x
  | .lst ds => D.lays ds
  | .tup ds => D.lays ds
  | _ => false
def D.lays : List D → Bool
  | [] => true
  | d :: r => D.lay d && D.lays r
end
mutual
def D.dep : D → Nat
  | .lst ds => D.deps ds + 1
  | .tup ds => D.deps ds + 1
  | _ => 0
def D.deps : List D → Nat
  | [] => 0
  | d :: r => max (D.dep d) (D.deps r)
end
mutual
theorem D.lay_py : ∀ d : D, d.lay = true → ∃ p, d.py = some p ∧ p.canLay0 = true ∧ p.depth = d.dep
  | .non, _ => ⟨.none, rfl, by simp [PyData.canLay0], by simp [PyData.depth, D.dep]⟩
  | .int i, _ => ⟨.int i, rfl, by simp [PyData.canLay0], by simp [PyData.depth, D.dep]⟩
  | .str x, h => ⟨.str x, rfl, by simp only [PyData.canLay0]; simpa [D.lay] using h, by simp [PyData.depth, D.dep]⟩
  | .lst ds, h => by
    obtain ⟨ps, h1, h2, h3⟩ := D.lays_py ds (by simpa [D.lay] using h)
    exact ⟨.list ps, by simp [D.py, h1], by simp only [PyData.canLay0]; exact h2, by simp [PyData.depth, D.dep, h3]⟩
  | .tup ds, h => by
    obtain ⟨ps, h1, h2, h3⟩ := D.lays_py ds (by simpa [D.lay] using h)
    exact ⟨.tuple ps, by simp [D.py, h1], by simp only [PyData.canLay0]; exact h2, by simp [PyData.depth, D.dep, h3]⟩
  | .bl _, h => by simp [D.lay] at h
  | .scr _, h => by simp [D.lay] at h
  | .ins _ _, h => by simp [D.lay] at h
  | .exn _ _, h => by simp [D.lay] at h
theorem D.lays_py : ∀ ds : List D, D.lays ds = true → ∃ ps, D.pys ds = some ps ∧ PyData.canLayAll0 ps = true ∧ PyData.depthAll ps = D.deps ds
  | [], _ => ⟨[], rfl, by simp [PyData.canLayAll0], by simp [PyData.depthAll, D.deps]⟩
  | d :: r, h => by
    obtain ⟨h1, h2⟩ : d.lay = true ∧ D.lays r = true := by simpa [D.lays] using h
    obtain ⟨p, a1, a2, a3⟩ := D.lay_py d h1
    obtain ⟨ps, b1, b2, b3⟩ := D.lays_py r h2
    exact ⟨p :: ps, by simp [D.pys, a1, b1], by simp [PyData.canLayAll0, a2, b2], by simp [PyData.depthAll, D.deps, a3, b3]⟩
end
mutual
theorem D.eqv_iff : ∀ (x y : D) (p q : PyData), x.lay = true → y.lay = true → x.py = some p → y.py = some q → (PyData.eqv p q = true ↔ x = y)
  | .non, y, p, q, _, h2, e1, e2 => by
    cases e1
    cases y with
    | non => cases e2; simp [PyData.eqv]
    | int j => cases e2; simp [PyData.eqv]
    | str j => cases e2; simp [PyData.eqv]
    | lst ds => obtain ⟨qs, _, rfl⟩ := Option.map_eq_some_iff.mp (show (D.pys ds).map PyData.list = some q from e2); simp [PyData.eqv]
    | tup ds => obtain ⟨qs, _, rfl⟩ := Option.map_eq_some_iff.mp (show (D.pys ds).map PyData.tuple = some q from e2); simp [PyData.eqv]
    | _ => simp [D.lay] at h2
  | .int i, y, p, q, _, h2, e1, e2 => by
    cases e1
    cases y with
    | non => cases e2; simp [PyData.eqv]
    | int j => cases e2; simp [PyData.eqv]
    | str j => cases e2; simp [PyData.eqv]
    | lst ds => obtain ⟨qs, _, rfl⟩ := Option.map_eq_some_iff.mp (show (D.pys ds).map PyData.list = some q from e2); simp [PyData.eqv]
    | tup ds => obtain ⟨qs, _, rfl⟩ := Option.map_eq_some_iff.mp (show (D.pys ds).map PyData.tuple = some q from e2); simp [PyData.eqv]
    | _ => simp [D.lay] at h2
  | .str i, y, p, q, _, h2, e1, e2 => by
    cases e1
    cases y with
    | non => cases e2; simp [PyData.eqv]
    | int j => cases e2; simp [PyData.eqv]
    | str j => cases e2; simp [PyData.eqv]
    | lst ds => obtain ⟨qs, _, rfl⟩ := Option.map_eq_some_iff.mp (show (D.pys ds).map PyData.list = some q from e2); simp [PyData.eqv]
    | tup ds => obtain ⟨qs, _, rfl⟩ := Option.map_eq_some_iff.mp (show (D.pys ds).map PyData.tuple = some q from e2); simp [PyData.eqv]
    | _ => simp [D.lay] at h2
  | .lst xs, y, p, q, h1, h2, e1, e2 => by
    obtain ⟨ps, k1, rfl⟩ := Option.map_eq_some_iff.mp (show (D.pys xs).map PyData.list = some p from e1)
    cases y with
    | non => cases e2; simp [PyData.eqv]
    | int j => cases e2; simp [PyData.eqv]
    | str j => cases e2; simp [PyData.eqv]
    | lst ys =>
      obtain ⟨qs, k2, rfl⟩ := Option.map_eq_some_iff.mp (show (D.pys ys).map PyData.list = some q from e2)
      have := D.eqvs_iff xs ys ps qs (by simpa [D.lay] using h1) (by simpa [D.lay] using h2) k1 k2
      simp [PyData.eqv, this]
    | tup ds => obtain ⟨qs, _, rfl⟩ := Option.map_eq_some_iff.mp (show (D.pys ds).map PyData.tuple = some q from e2); simp [PyData.eqv]
    | _ => simp [D.lay] at h2
  | .tup xs, y, p, q, h1, h2, e1, e2 => by
    obtain ⟨ps, k1, rfl⟩ := Option.map_eq_some_iff.mp (show (D.pys xs).map PyData.tuple = some p from e1)
    cases y with
    | non => cases e2; simp [PyData.eqv]
    | int j => cases e2; simp [PyData.eqv]
    | str j => cases e2; simp [PyData.eqv]
    | tup ys =>
      obtain ⟨qs, k2, rfl⟩ := Option.map_eq_some_iff.mp (show (D.pys ys).map PyData.tuple = some q from e2)
      have := D.eqvs_iff xs ys ps qs (by simpa [D.lay] using h1) (by simpa [D.lay] using h2) k1 k2
      simp [PyData.eqv, this]
    | lst ds => obtain ⟨qs, _, rfl⟩ := Option.map_eq_some_iff.mp (show (D.pys ds).map PyData.list = some q from e2); simp [PyData.eqv]
    | _ => simp [D.lay] at h2
  | .bl _, _, _, _, h, _, _, _ => by simp [D.lay] at h
  | .scr _, _, _, _, h, _, _, _ => by simp [D.lay] at h
  | .ins _ _, _, _, _, h, _, _, _ => by simp [D.lay] at h
  | .exn _ _, _, _, _, h, _, _, _ => by simp [D.lay] at h
theorem D.eqvs_iff : ∀ (xs ys : List D) (ps qs : List PyData), D.lays xs = true → D.lays ys = true → D.pys xs = some ps → D.pys ys = some qs → (PyData.eqvAll ps qs = true ↔ xs = ys)
  | [], [], ps, qs, _, _, e1, e2 => by cases e1; cases e2; simp [PyData.eqvAll]
  | [], y :: ys, ps, qs, _, h2, e1, e2 => by
    obtain ⟨a1, a2⟩ : y.lay = true ∧ D.lays ys = true := by simpa [D.lays] using h2
    obtain ⟨q, b1, _⟩ := D.lay_py y a1
    obtain ⟨qs', c1, _⟩ := D.lays_py ys a2
    simp [D.pys, b1, c1] at e2
    cases e1; subst e2
    simp [PyData.eqvAll]
  | x :: xs, [], ps, qs, h1, _, e1, e2 => by
    obtain ⟨a1, a2⟩ : x.lay = true ∧ D.lays xs = true := by simpa [D.lays] using h1
    obtain ⟨q, b1, _⟩ := D.lay_py x a1
    obtain ⟨qs', c1, _⟩ := D.lays_py xs a2
    simp [D.pys, b1, c1] at e1
    cases e2; subst e1
    simp [PyData.eqvAll]
  | x :: xs, y :: ys, ps, qs, h1, h2, e1, e2 => by
    obtain ⟨a1, a2⟩ : x.lay = true ∧ D.lays xs = true := by simpa [D.lays] using h1
    obtain ⟨b1, b2⟩ : y.lay = true ∧ D.lays ys = true := by simpa [D.lays] using h2
    obtain ⟨p, c1, _⟩ := D.lay_py x a1
    obtain ⟨ps', c2, _⟩ := D.lays_py xs a2
    obtain ⟨q, d1, _⟩ := D.lay_py y b1
    obtain ⟨qs', d2, _⟩ := D.lays_py ys b2
    simp [D.pys, c1, c2] at e1
    simp [D.pys, d1, d2] at e2
    subst e1 e2
    have k1 := D.eqv_iff x y p q a1 b1 c1 d1
    have k2 := D.eqvs_iff xs ys ps' qs' a2 b2 c2 d2
    simp [PyData.eqvAll, k1, k2]
end
theorem eqD_lay {x y : D} (h1 : x.lay = true) (h2 : y.lay = true) (k1 : x.dep ≤ 64) (k2 : y.dep ≤ 64) : ∃ b, eqD x y = some b ∧ (b = true ↔ x = y) := by
  obtain ⟨p, a1, a2, a3⟩ := D.lay_py x h1
  obtain ⟨q, b1, b2, b3⟩ := D.lay_py y h2
  refine ⟨PyData.eqv p q, ?_, D.eqv_iff x y p q h1 h2 a1 b1⟩
  have s1 : SeqAt.shaped p = true := by
    show (p.canLay0 && decide (p.depth ≤ 64)) = true
    rw [a2, a3]; simpa using k1
  have s2 : SeqAt.shaped q = true := by
    show (q.canLay0 && decide (q.depth ≤ 64)) = true
    rw [b2, b3]; simpa using k2
  unfold eqD
  rw [a1, b1]
  exact if_pos ⟨s1, s2⟩
theorem cEq_lay {x y : D} (h1 : x.lay = true) (h2 : y.lay = true) (k1 : x.dep ≤ 64) (k2 : y.dep ≤ 64) : ∃ b, cEq x y = .ok (.bl b) ∧ cNe x y = .ok (.bl (!b)) ∧ (b = true ↔ x = y) := by
  obtain ⟨b, e, hb⟩ := eqD_lay h1 h2 k1 k2
  rcases cEq_cases x y with ⟨i, j, rfl, rfl⟩ | ⟨i, j, rfl, rfl⟩ | ⟨i, j, rfl, rfl⟩ | ⟨e1, e2⟩
  · exact ⟨decide (i = j), rfl, rfl, by simp⟩
  · exact ⟨decide (i = j), rfl, rfl, by simp⟩
  · simp [D.lay] at h1
  · rw [e1, e2, e]
    exact ⟨b, rfl, rfl, hb⟩
theorem cEq_yes {x : D} (h : x.lay = true) (k : x.dep ≤ 64) : cEq x x = .ok (.bl true) := by
  obtain ⟨b, e, _, hb⟩ := cEq_lay h h k k
  rw [e, hb.mpr rfl]
theorem cNe_no {x : D} (h : x.lay = true) (k : x.dep ≤ 64) : cNe x x = .ok (.bl false) := by
  obtain ⟨b, _, e, hb⟩ := cEq_lay h h k k
  rw [e, hb.mpr rfl] <;> rfl
theorem cEq_no {x y : D} (h1 : x.lay = true) (h2 : y.lay = true) (k1 : x.dep ≤ 64) (k2 : y.dep ≤ 64) (ne : x ≠ y) : cEq x y = .ok (.bl false) := by
  obtain ⟨b, e, _, hb⟩ := cEq_lay h1 h2 k1 k2
  have : b = false := by cases b with | false => rfl | true => exact absurd (hb.mp rfl) ne
  rw [e, this]
theorem cNe_yes {x y : D} (h1 : x.lay = true) (h2 : y.lay = true) (k1 : x.dep ≤ 64) (k2 : y.dep ≤ 64) (ne : x ≠ y) : cNe x y = .ok (.bl true) := by
  obtain ⟨b, _, e, hb⟩ := cEq_lay h1 h2 k1 k2
  have : b = false := by cases b with | false => rfl | true => exact absurd (hb.mp rfl) ne
  rw [e, this] <;> rfl
/-! ### numbers -/
theorem lays_map {α : Type} {f : α → D} {xs : List α} (h : ∀ x ∈ xs, (f x).lay = true) : D.lays (xs.map f) = true := by
  induction xs with
  | nil => rfl
  | cons x r ih => simp [D.lays, h x List.mem_cons_self, ih fun y hy => h y (List.mem_cons_of_mem _ hy)]
theorem deps_map {α : Type} {f : α → D} {xs : List α} {k : Nat} (h : ∀ x ∈ xs, (f x).dep ≤ k) : D.deps (xs.map f) ≤ k := by
  induction xs with
  | nil => simp [D.deps]
  | cons x r ih =>
    have h1 := h x List.mem_cons_self
    have h2 := ih fun y hy => h y (List.mem_cons_of_mem _ hy)
    simp [D.deps]; omega
theorem lay_dI (ns : List Int) : D.lays (dI ns) = true := lays_map fun _ _ => rfl
theorem deps_dI (ns : List Int) : D.deps (dI ns) = 0 := Nat.le_zero.mp (deps_map fun _ _ => Nat.le_refl _)
end Fz
set_option Elab.async false
set_option linter.all false
set_option maxRecDepth 100000
set_option maxHeartbeats 0
/-! Printed by gen.py: the plain functions of the defs, their walks. -/
namespace K88
open PySem PySem.Spec PyProof.Rows L2 Fz
def top (i : Nat) : Stmt := PySem.Challenge.pw_slipsgrowrare_k88_rules_gains_and_rests.main.body.getD i (.Pass ⟨0, 0, 0, 0⟩)
/-! ### _law_mix -/
abbrev st__law_mix : Stmt := (top 33)
def d__law_mix : He.DefD := ⟨("_law_mix", none), "_law_mix", "_law_mix", defArgs st__law_mix, defBody st__law_mix, defScope st__law_mix, [], []⟩
def m__law_mix : Fz.Env → Out := bSeq (sSet 2 (d2 oMod (dcall bInt (dcons (d2 oAdd (d2 oAdd (d2 oMul (dv 0) (dc (.int 48271))) (d2 oMul (dv 1) (dc (.int 69621)))) (dc (.int 7919))) dnil)) (dc (.int 2147483647)))) (bSeq (sSet 3 (d2 oMod (dcall bInt (dcons (d2 oAdd (d2 oAdd (d2 oMul (dv 2) (dc (.int 40692))) (d2 oMul (dv 1) (dc (.int 52774)))) (d2 oDiv (dv 2) (dc (.int 977)))) dnil)) (dc (.int 2147483399)))) (bSeq (sRet (d2 oMod (dcall bInt (dcons (d2 oAdd (d2 oMul (dv 3) (dc (.int 39373))) (d2 oDiv (dv 3) (dc (.int 1013)))) dnil)) (dc (.int 2147483647)))) sNx))
def f__law_mix : List D → Res D := runD .z 4 m__law_mix
/-! ### _law_row -/
abbrev st__law_row : Stmt := (top 34)
def d__law_row : He.DefD := ⟨("_law_row", none), "_law_row", "_law_row", defArgs st__law_row, defBody st__law_row, defScope st__law_row, [], []⟩
def b__law_row_0 : Fz.Env → Out := bSeq (sIf (Fz.tAnd (tVal (d2 cGe (dcall bAbs (dcons (dv 0) dnil)) (d2 oPow (dc (.int 10)) (dc (.int 18))))) (tVal (d2 cGt (dv 4) (dc (.int 0))))) (bSeq (sApp 3 (d2 oMod (dcall bInt (dcons (dv 4) dnil)) (dv 2))) (bSeq (sSet 4 (d2 oDiv (dv 4) (dv 2))) sNx)) (bSeq (sApp 3 (d2 oMod (dcall bInt (dcons (dcall (withD 2 [] f__law_mix) (dcons (dv 0) (dcons (dv 5) dnil))) dnil)) (dv 2))) sNx)) sNx
def m__law_row : Fz.Env → Out := bSeq (sSet 3 (dcall oLst dnil)) (bSeq (sSet 4 (dcall bAbs (dcons (dv 0) dnil))) (bSeq (sFor (iArg rng1D (dcons (dv 1) dnil)) (tgN 5) b__law_row_0) (bSeq (sRet (dv 3)) sNx)))
def f__law_row : List D → Res D := runD .z 6 m__law_row
/-! ### _law_sizes -/
abbrev st__law_sizes : Stmt := (top 35)
def d__law_sizes : He.DefD := ⟨("_law_sizes", none), "_law_sizes", "_law_sizes", defArgs st__law_sizes, defBody st__law_sizes, defScope st__law_sizes, [], []⟩
def b__law_sizes_0 : Fz.Env → Out := bSeq (sSet 7 (d2 oAdd (dc (.int 1)) (d2 oMod (dcall bInt (dcons (d2 oIx (dv 1) (d2 oAdd (dc (.int 2)) (dv 6))) dnil)) (dc (.int 5))))) (bSeq (sIf (tVal (d2 cGt (d2 oMul (dv 5) (dv 7)) (dv 3))) (bSeq (sSet 7 (dcall bMax (dcons (dc (.int 1)) (dcons (d2 oDiv (dv 3) (dv 5)) dnil)))) sNx) sNx) (bSeq (sSet 5 (d2 oMul (dv 5) (dv 7))) (bSeq (sApp 4 (dv 7)) sNx)))
def m__law_sizes : Fz.Env → Out := bSeq (sSet 1 (dcall (withD 3 [] f__law_row) (dcons (dv 0) (dcons (dc (.int 6)) (dcons (dc (.int 60)) dnil))))) (bSeq (sSet 2 (d2 oAdd (dc (.int 1)) (d2 oMod (dcall bInt (dcons (d2 oAdd (d2 oIx (dv 1) (dc (.int 0))) (dc (.int 1))) dnil)) (dc (.int 4))))) (bSeq (sSet 3 (dc (.int 12))) (bSeq (sIf (tVal (d2 cLt (d2 oIx (dv 1) (dc (.int 1))) (dc (.int 8)))) (bSeq (sSet 3 (dc (.int 120))) sNx) sNx) (bSeq (sSet 4 (dcall oLst dnil)) (bSeq (sSet 5 (dc (.int 1))) (bSeq (sFor (iArg rng1D (dcons (dv 2) dnil)) (tgN 6) b__law_sizes_0) (bSeq (sRet (dv 4)) sNx)))))))
def f__law_sizes : List D → Res D := runD .z 8 m__law_sizes
/-! ### _law_cell -/
abbrev st__law_cell : Stmt := (top 32)
def d__law_cell : He.DefD := ⟨("_law_cell", none), "_law_cell", "_law_cell", defArgs st__law_cell, defBody st__law_cell, defScope st__law_cell, [], []⟩
def m__law_cell : Fz.Env → Out := bSeq (sIf (tVal (d2 cLt (dv 1) (dcall bLen (dcons (dv 0) dnil)))) (bSeq (sRet (d2 oIx (dv 0) (dv 1))) sNx) sNx) (bSeq (sRet (dc (.int 0))) sNx)
def f__law_cell : List D → Res D := runD .z 2 m__law_cell
/-! ### _law_count -/
abbrev st__law_count : Stmt := (top 36)
def d__law_count : He.DefD := ⟨("_law_count", none), "_law_count", "_law_count", defArgs st__law_count, defBody st__law_count, defScope st__law_count, [], []⟩
def b__law_count_0 : Fz.Env → Out := bSeq (sSet 1 (d2 oMul (dv 1) (dv 2))) sNx
def m__law_count : Fz.Env → Out := bSeq (sSet 1 (dc (.int 1))) (bSeq (sFor (iSeq itD (dv 0)) (tgN 2) b__law_count_0) (bSeq (sRet (dv 1)) sNx))
def f__law_count : List D → Res D := runD .z 3 m__law_count
/-! ### _law_plays -/
abbrev st__law_plays : Stmt := (top 37)
def d__law_plays : He.DefD := ⟨("_law_plays", none), "_law_plays", "_law_plays", defArgs st__law_plays, defBody st__law_plays, defScope st__law_plays, [], []⟩
def b__law_plays_0 : Fz.Env → Out := bSeq (sApp 3 (d2 oAdd (dv 4) (dcall oTup (dcons (dv 5) dnil)))) sNx
def b__law_plays_1 : Fz.Env → Out := bSeq (sFor (iArg rng1D (dcons (dv 2) dnil)) (tgN 5) b__law_plays_0) sNx
def b__law_plays_2 : Fz.Env → Out := bSeq (sSet 3 (dcall oLst dnil)) (bSeq (sFor (iSeq itD (dcall bLst (dcons (dv 1) dnil))) (tgN 4) b__law_plays_1) (bSeq (sSet 1 (dv 3)) sNx))
def m__law_plays : Fz.Env → Out := bSeq (sSet 1 (dcall oLst (dcons (dcall oTup dnil) dnil))) (bSeq (sFor (iSeq itD (dv 0)) (tgN 2) b__law_plays_2) (bSeq (sRet (dv 1)) sNx))
def f__law_plays : List D → Res D := runD .z 6 m__law_plays
/-! ### _law_pays -/
abbrev st__law_pays : Stmt := (top 38)
def d__law_pays : He.DefD := ⟨("_law_pays", none), "_law_pays", "_law_pays", defArgs st__law_pays, defBody st__law_pays, defScope st__law_pays, [], []⟩
def b__law_pays_0 : Fz.Env → Res D := d2 oSub (d2 oMod (dcall bInt (dcons (dv 4) dnil)) (dc (.int 5))) (dc (.int 2))
def b__law_pays_1 : Fz.Env → Res D := d2 oSub (d2 oMod (dcall bInt (dcons (dv 4) dnil)) (dc (.int 41))) (dc (.int 20))
def b__law_pays_2 : Fz.Env → Res D := d2 oAdd (d2 oMul (d2 oSub (dv 4) (dc (.int 50001))) (d2 oPow (dc (.int 10)) (dc (.int 24)))) (dv 4)
def b__law_pays_3 : Fz.Env → Res D := d2 oMul (d2 oSub (d2 oMod (dcall bInt (dcons (dv 4) dnil)) (dc (.int 15))) (dc (.int 7))) (dc (.int 60))
def m__law_pays : Fz.Env → Out := bSeq (sSet 2 (d2 oMod (dcall bInt (dcons (dcall (withD 2 [] f__law_mix) (dcons (dv 0) (dcons (dc (.int 91)) dnil))) dnil)) (dc (.int 5)))) (bSeq (sSet 3 (dcall (withD 3 [] f__law_row) (dcons (dv 0) (dcons (dv 1) (dcons (dc (.int 100003)) dnil))))) (bSeq (sIf (tVal (d2 cEq (dv 2) (dc (.int 0)))) (bSeq (sRet (dLc (([("number", 4)] : List (Str × Nat)).map (·.2)) (iSeq itD (dv 3)) (tgN 4) dYes b__law_pays_0)) sNx) sNx) (bSeq (sIf (tVal (d2 cEq (dv 2) (dc (.int 1)))) (bSeq (sRet (dLc (([("number", 4)] : List (Str × Nat)).map (·.2)) (iSeq itD (dv 3)) (tgN 4) dYes b__law_pays_1)) sNx) sNx) (bSeq (sIf (tVal (d2 cEq (dv 2) (dc (.int 2)))) (bSeq (sRet (dLc (([("number", 4)] : List (Str × Nat)).map (·.2)) (iSeq itD (dv 3)) (tgN 4) dYes (d2 oSub (dv 4) (dc (.int 50001))))) sNx) sNx) (bSeq (sIf (tVal (d2 cEq (dv 2) (dc (.int 3)))) (bSeq (sRet (dLc (([("number", 4)] : List (Str × Nat)).map (·.2)) (iSeq itD (dv 3)) (tgN 4) dYes b__law_pays_2)) sNx) sNx) (bSeq (sRet (dLc (([("number", 4)] : List (Str × Nat)).map (·.2)) (iSeq itD (dv 3)) (tgN 4) dYes b__law_pays_3)) sNx))))))
def f__law_pays : List D → Res D := runD .z 5 m__law_pays
/-! ### count_plays -/
abbrev st_count_plays : Stmt := (top 11)
def d_count_plays : He.DefD := ⟨("count_plays", none), "count_plays", "count_plays", defArgs st_count_plays, defBody st_count_plays, defScope st_count_plays, [], []⟩
def b_count_plays_0 : Fz.Env → Out := bSeq (sSet 1 (d2 oMul (dv 1) (dv 2))) sNx
def m_count_plays : Fz.Env → Out := bSeq (sSet 1 (dc (.int 1))) (bSeq (sFor (iSeq itD (dv 0)) (tgN 2) b_count_plays_0) (bSeq (sRet (dv 1)) sNx))
def f_count_plays : List D → Res D := runD .z 3 m_count_plays
/-! ### check_sizes -/
abbrev st_check_sizes : Stmt := (top 12)
def d_check_sizes : He.DefD := ⟨("check_sizes", none), "check_sizes", "check_sizes", defArgs st_check_sizes, defBody st_check_sizes, defScope st_check_sizes, [], []⟩
def m_check_sizes : Fz.Env → Out := bSeq (sIf (Fz.tOr (tVal (d2 cEq (dcall bLen (dcons (dv 0) dnil)) (dc (.int 0)))) (tVal (d2 cLt (dcall bMin (dcons (dv 0) dnil)) (dc (.int 1))))) (bSeq (sRaise "BadGame") sNx) sNx) (bSeq (sIf (tVal (d2 cGt (dcall bLen (dcons (dv 0) dnil)) (dc (.int 4)))) (bSeq sNever sNx) sNx) (bSeq (sIf (tVal (d2 cGt (dcall bMax (dcons (dv 0) dnil)) (dc (.int 5)))) (bSeq sNever sNx) sNx) (bSeq (sIf (tVal (d2 cGt (dcall (withD 1 [] f_count_plays) (dcons (dv 0) dnil)) (dc (.int 120)))) (bSeq sNever sNx) sNx) (bSeq (sRet (dcall bTup (dcons (dv 0) dnil))) sNx))))
def f_check_sizes : List D → Res D := runD .z 1 m_check_sizes
/-! ### divisor -/
abbrev st_divisor : Stmt := (top 25)
def d_divisor : He.DefD := ⟨("divisor", none), "divisor", "divisor", defArgs st_divisor, defBody st_divisor, defScope st_divisor, [], []⟩
def b_divisor_0 : Fz.Env → Out := bSeq (sSet 1 (dcall bGcd (dcons (dv 1) (dcons (dv 2) dnil)))) sNx
def m_divisor : Fz.Env → Out := bSeq (sFor (iSeq itD (dv 0)) (tgN 2) b_divisor_0) (bSeq (sRet (dv 1)) sNx)
def f_divisor : List D → Res D := runD .z 3 m_divisor
/-! ### Game.__init__ -/
abbrev st_Game_init : Stmt := ((clsB (top 29)).getD 0 (.Pass ⟨0, 0, 0, 0⟩))
def d_Game_init : He.DefD := ⟨("Game", some "__init__"), "__init__", "Game.__init__", defArgs st_Game_init, defBody st_Game_init, defScope st_Game_init, [.int 1], []⟩
def b_Game_init_0 : Fz.Env → Out := bSeq (sIf (tVal (d2 cNe (dcall bLen (dcons (dv 6) dnil)) (dv 4))) (bSeq (sRaise "BadGame") sNx) sNx) (bSeq (sSet 5 (dcall (withD 2 [] f_divisor) (dcons (dv 6) (dcons (dv 5) dnil)))) sNx)
def b_Game_init_1 : Fz.Env → Res D := dcall bTup (dcons (dLc (([("pay", 7)] : List (Str × Nat)).map (·.2)) (iSeq itD (dv 6)) (tgN 7) dYes (d2 oDiv (dv 7) (dv 5))) dnil)
def m_Game_init : Fz.Env → Out := bSeq (sFld' 0 ["Table", "Game"] "sizes" (dcall (withD 1 [] f_check_sizes) (dcons (dv 1) dnil))) (bSeq (sIf (Fz.tOr (tVal (d2 cNe (dcall bLen (dcons (dv 2) dnil)) (dcall bLen (dcons (dv 1) dnil)))) (tVal (d2 cLt (dv 3) (dc (.int 1))))) (bSeq (sRaise "BadGame") sNx) sNx) (bSeq (sSet 4 (dcall (withD 1 [] f_count_plays) (dcons (dv 1) dnil))) (bSeq (sSet 5 (dv 3)) (bSeq (sFor (iSeq itD (dv 2)) (tgN 6) b_Game_init_0) (bSeq (sFld' 0 ["Game"] "pays" (dcall bTup (dcons (dLc (([("row", 6)] : List (Str × Nat)).map (·.2)) (iSeq itD (dv 2)) (tgN 6) dYes b_Game_init_1) dnil))) (bSeq (sFld' 0 ["Table", "Game"] "over" (d2 oDiv (dv 3) (dv 5))) sNx))))))
def f_Game_init : List D → Res (List (Str × D)) := runI "Game" 8 m_Game_init
/-! ### _law_gcd -/
abbrev st__law_gcd : Stmt := (top 39)
def d__law_gcd : He.DefD := ⟨("_law_gcd", none), "_law_gcd", "_law_gcd", defArgs st__law_gcd, defBody st__law_gcd, defScope st__law_gcd, [], []⟩
def b__law_gcd_0 : Fz.Env → Out := bSeq (sIf (tVal (d2 cEq (dv 1) (dc (.int 0)))) (bSeq (sRet (dv 0)) sNx) sNx) (bSeq (sSet 3 (d2 oMod (dcall bInt (dcons (dv 0) dnil)) (dv 1))) (bSeq (sSet 0 (dv 1)) (bSeq (sSet 1 (dv 3)) sNx)))
def m__law_gcd : Fz.Env → Out := bSeq (sSet 0 (dcall bAbs (dcons (dv 0) dnil))) (bSeq (sSet 1 (dcall bAbs (dcons (dv 1) dnil))) (bSeq (sFor (iArg rng1D (dcons (dc (.int 400)) dnil)) (tgN 2) b__law_gcd_0) (bSeq (sRet (dv 0)) sNx)))
def f__law_gcd : List D → Res D := runD .z 4 m__law_gcd
/-! ### _law_place -/
abbrev st__law_place : Stmt := (top 40)
def d__law_place : He.DefD := ⟨("_law_place", none), "_law_place", "_law_place", defArgs st__law_place, defBody st__law_place, defScope st__law_place, [], []⟩
def b__law_place_0 : Fz.Env → Out := bSeq (sSet 2 (d2 oAdd (d2 oMul (dv 2) (d2 oIx (dv 0) (dv 3))) (d2 oIx (dv 1) (dv 3)))) sNx
def m__law_place : Fz.Env → Out := bSeq (sSet 2 (dc (.int 0))) (bSeq (sFor (iArg rng1D (dcons (dcall bLen (dcons (dv 0) dnil)) dnil)) (tgN 3) b__law_place_0) (bSeq (sRet (dv 2)) sNx))
def f__law_place : List D → Res D := runD .z 4 m__law_place
/-! ### _law_gain -/
abbrev st__law_gain : Stmt := (top 41)
def d__law_gain : He.DefD := ⟨("_law_gain", none), "_law_gain", "_law_gain", defArgs st__law_gain, defBody st__law_gain, defScope st__law_gain, [], []⟩
def m__law_gain : Fz.Env → Out := bSeq (sSet 5 (d2 oAdd (d2 oAdd (dSl (dv 2) pNo (pAt (dv 3))) (dcall oTup (dcons (dv 4) dnil))) (dSl (dv 2) (pAt (d2 oAdd (dv 3) (dc (.int 1)))) pNo))) (bSeq (sRet (d2 oSub (d2 oIx (d2 oIx (dv 1) (dv 3)) (dcall (withD 2 [] f__law_place) (dcons (dv 0) (dcons (dv 5) dnil)))) (d2 oIx (d2 oIx (dv 1) (dv 3)) (dcall (withD 2 [] f__law_place) (dcons (dv 0) (dcons (dv 2) dnil)))))) sNx)
def f__law_gain : List D → Res D := runD .z 6 m__law_gain
/-! ### is_play -/
abbrev st_is_play : Stmt := (top 14)
def d_is_play : He.DefD := ⟨("is_play", none), "is_play", "is_play", defArgs st_is_play, defBody st_is_play, defScope st_is_play, [], []⟩
def b_is_play_0 : Fz.Env → Out := bSeq (sIf (Fz.tNot (tVal (dChain cLe cLt (dc (.int 0)) (dv 2) (dv 3)))) (bSeq (sRet (dc (.bl false))) sNx) sNx) sNx
def m_is_play : Fz.Env → Out := bSeq (sIf (tVal (d2 cNe (dcall bLen (dcons (dv 1) dnil)) (dcall bLen (dcons (dv 0) dnil)))) (bSeq (sRet (dc (.bl false))) sNx) sNx) (bSeq (sFor (iArg zp2D (dcons (dv 1) (dcons (dv 0) dnil))) (tgT [2, 3]) b_is_play_0) (bSeq (sRet (dc (.bl true))) sNx))
def f_is_play : List D → Res D := runD .z 4 m_is_play
/-! ### place -/
abbrev st_place : Stmt := (top 16)
def d_place : He.DefD := ⟨("place", none), "place", "place", defArgs st_place, defBody st_place, defScope st_place, [], []⟩
def b_place_0 : Fz.Env → Out := bSeq (sSet 2 (d2 oAdd (d2 oMul (dv 2) (dv 4)) (dv 3))) sNx
def m_place : Fz.Env → Out := bSeq (sIf (Fz.tNot (tTru (dcall (withD 2 [] f_is_play) (dcons (dv 0) (dcons (dv 1) dnil))))) (bSeq (sRaise "BadPlay") sNx) sNx) (bSeq (sSet 2 (dc (.int 0))) (bSeq (sFor (iArg zp2D (dcons (dv 1) (dcons (dv 0) dnil))) (tgT [3, 4]) b_place_0) (bSeq (sRet (dv 2)) sNx)))
def f_place : List D → Res D := runD .z 5 m_place
/-! ### is_change -/
abbrev st_is_change : Stmt := (top 15)
def d_is_change : He.DefD := ⟨("is_change", none), "is_change", "is_change", defArgs st_is_change, defBody st_is_change, defScope st_is_change, [], []⟩
def m_is_change : Fz.Env → Out := bSeq (sRet (dAnd (dChain cLe cLt (dc (.int 0)) (dv 1) (dcall bLen (dcons (dv 0) dnil))) (dChain cLe cLt (dc (.int 0)) (dv 2) (d2 oIx (dv 0) (dv 1))))) sNx
def f_is_change : List D → Res D := runD .z 3 m_is_change
/-! ### strides -/
abbrev st_strides : Stmt := (top 13)
def d_strides : He.DefD := ⟨("strides", none), "strides", "strides", defArgs st_strides, defBody st_strides, defScope st_strides, [], []⟩
def b_strides_0 : Fz.Env → Out := bSeq (sApp 1 (dv 2)) (bSeq (sSet 2 (d2 oMul (dv 2) (dv 3))) sNx)
def m_strides : Fz.Env → Out := bSeq (sSet 1 (dcall oLst dnil)) (bSeq (sSet 2 (dc (.int 1))) (bSeq (sFor (iSeq revD (dv 0)) (tgN 3) b_strides_0) (bSeq (sRet (d1 tupRevD (dv 1))) sNx)))
def f_strides : List D → Res D := runD .z 4 m_strides
/-! ### gain -/
abbrev st_gain : Stmt := (top 19)
def d_gain : He.DefD := ⟨("gain", none), "gain", "gain", defArgs st_gain, defBody st_gain, defScope st_gain, [], []⟩
def m_gain : Fz.Env → Out := bSeq (sSet 4 (dcall (withD 2 [] f_place) (dcons (d1 (oFld ["Table", "Game"] "sizes") (dv 0)) (dcons (dv 1) dnil)))) (bSeq (sIf (Fz.tNot (tTru (dcall (withD 3 [] f_is_change) (dcons (d1 (oFld ["Table", "Game"] "sizes") (dv 0)) (dcons (dv 2) (dcons (dv 3) dnil)))))) (bSeq (sRaise "BadPlay") sNx) sNx) (bSeq (sSet 5 (d2 oIx (d1 (oFld ["Game"] "pays") (dv 0)) (dv 2))) (bSeq (sRet (d2 oSub (d2 oIx (dv 5) (d2 oAdd (dv 4) (d2 oMul (d2 oIx (dcall (withD 1 [] f_strides) (dcons (d1 (oFld ["Table", "Game"] "sizes") (dv 0)) dnil)) (dv 2)) (d2 oSub (dv 3) (d2 oIx (dv 1) (dv 2)))))) (d2 oIx (dv 5) (dv 4)))) sNx)))
def f_gain : List D → Res D := runD .z 6 m_gain
/-! ### _law_is_whole -/
abbrev st__law_is_whole : Stmt := (top 31)
def d__law_is_whole : He.DefD := ⟨("_law_is_whole", none), "_law_is_whole", "_law_is_whole", defArgs st__law_is_whole, defBody st__law_is_whole, defScope st__law_is_whole, [], []⟩
def m__law_is_whole : Fz.Env → Out := bSeq (sRet (dAnd (d1 (fun v => bIsi .int [v]) (dv 0)) (d1 oNot (d1 (fun v => bIsi .bool [v]) (dv 0))))) sNx
def f__law_is_whole : List D → Res D := runD .z 1 m__law_is_whole
/-! ### arcs -/
abbrev st_arcs : Stmt := (top 20)
def d_arcs : He.DefD := ⟨("arcs", none), "arcs", "arcs", defArgs st_arcs, defBody st_arcs, defScope st_arcs, [], []⟩
def b_arcs_0 : Fz.Env → Res D := d2 oIx (dv 10) (d2 oAdd (dv 9) (d2 oMul (dv 7) (dv 13)))
def b_arcs_1 : Fz.Env → Out := bSeq (sSet 14 (d2 oIx (dv 10) (d2 oAdd (dv 9) (d2 oMul (dv 7) (dv 13))))) (bSeq (sIf (Fz.tOr (tVal (d2 cEq (dv 13) (dv 8))) (tVal (d2 cLt (dv 14) (dv 11)))) (bSeq sCt sNx) sNx) (bSeq (sIf (Fz.tOr (tVal (d2 cEq (dv 2) (dc (.str "even")))) (Fz.tAnd (tVal (d2 cGt (dv 14) (dv 11))) (Fz.tOr (tVal (d2 cEq (dv 2) (dc (.str "better")))) (tVal (d2 cEq (dv 14) (dv 12)))))) (bSeq (sApp 3 (dcall oTup (dcons (dv 5) (dcons (dv 13) (dcons (d2 oAdd (dv 9) (d2 oMul (dv 7) (dv 13))) (dcons (d2 oSub (dv 14) (dv 11)) dnil)))))) sNx) sNx) sNx))
def b_arcs_2 : Fz.Env → Out := bSeq (sSet 7 (d2 oIx (dv 4) (dv 5))) (bSeq (sSet 8 (d2 oMod (d2 oDiv (dv 1) (dv 7)) (dv 6))) (bSeq (sSet 9 (d2 oSub (dv 1) (d2 oMul (dv 8) (dv 7)))) (bSeq (sSet 10 (d2 oIx (d1 (oFld ["Game"] "pays") (dv 0)) (dv 5))) (bSeq (sSet 11 (d2 oIx (dv 10) (dv 1))) (bSeq (sSet 12 (dcall bMax (dcons (dLc (([("choice", 13)] : List (Str × Nat)).map (·.2)) (iArg rng1D (dcons (dv 6) dnil)) (tgN 13) dYes b_arcs_0) dnil))) (bSeq (sIf (Fz.tAnd (tVal (d2 cNe (dv 2) (dc (.str "even")))) (tVal (d2 cEq (dv 12) (dv 11)))) (bSeq sCt sNx) sNx) (bSeq (sFor (iArg rng1D (dcons (dv 6) dnil)) (tgN 13) b_arcs_1) sNx)))))))
def m_arcs : Fz.Env → Out := bSeq (sSet 3 (dcall oLst dnil)) (bSeq (sSet 4 (dcall (withD 1 [] f_strides) (dcons (d1 (oFld ["Table", "Game"] "sizes") (dv 0)) dnil))) (bSeq (sFor (iArg enmD (dcons (d1 (oFld ["Table", "Game"] "sizes") (dv 0)) dnil)) (tgT [5, 6]) b_arcs_2) (bSeq (sRet (dv 3)) sNx)))
def f_arcs : List D → Res D := runD .z 15 m_arcs
/-! ### moves -/
abbrev st_moves : Stmt := (top 21)
def d_moves : He.DefD := ⟨("moves", none), "moves", "moves", defArgs st_moves, defBody st_moves, defScope st_moves, [], []⟩
def b_moves_0 : Fz.Env → Res D := dcall oTup (dcons (dv 4) (dcons (dv 5) dnil))
def m_moves : Fz.Env → Out := bSeq (sSet 3 (dcall (withD 2 [] f_place) (dcons (d1 (oFld ["Table", "Game"] "sizes") (dv 0)) (dcons (dv 1) dnil)))) (bSeq (sRet (dLc (([("person", 4), ("choice", 5), ("new", 6), ("more", 7)] : List (Str × Nat)).map (·.2)) (iSeq itD (dcall (withD 3 [] f_arcs) (dcons (dv 0) (dcons (dv 3) (dcons (dv 2) dnil))))) (tgT [4, 5, 6, 7]) dYes b_moves_0)) sNx)
def f_moves : List D → Res D := runD (.l .z) 8 m_moves
/-! ### _law_is_list -/
abbrev st__law_is_list : Stmt := (top 43)
def d__law_is_list : He.DefD := ⟨("_law_is_list", none), "_law_is_list", "_law_is_list", defArgs st__law_is_list, defBody st__law_is_list, defScope st__law_is_list, [], []⟩
def b__law_is_list_0 : Fz.Env → Out := bSeq (sIf (Fz.tOr (Fz.tNot (tTru (dcall (withD 1 [] f__law_is_whole) (dcons (d2 oIx (d2 oIx (dv 0) (dv 2)) (dv 3)) dnil)))) (tVal (d2 cNe (d2 oIx (d2 oIx (dv 0) (dv 2)) (dv 3)) (d2 oIx (d2 oIx (dv 1) (dv 2)) (dv 3))))) (bSeq (sRet (dc (.bl false))) sNx) sNx) sNx
def b__law_is_list_1 : Fz.Env → Out := bSeq (sIf (Fz.tOr (Fz.tNot (tTru (d1 (fun v => bIsi .tuple [v]) (d2 oIx (dv 0) (dv 2))))) (tVal (d2 cNe (dcall bLen (dcons (d2 oIx (dv 0) (dv 2)) dnil)) (dcall bLen (dcons (d2 oIx (dv 1) (dv 2)) dnil))))) (bSeq (sRet (dc (.bl false))) sNx) sNx) (bSeq (sFor (iArg rng1D (dcons (dcall bLen (dcons (d2 oIx (dv 1) (dv 2)) dnil)) dnil)) (tgN 3) b__law_is_list_0) sNx)
def m__law_is_list : Fz.Env → Out := bSeq (sIf (Fz.tOr (Fz.tNot (tTru (d1 (fun v => bIsi .list [v]) (dv 0)))) (tVal (d2 cNe (dcall bLen (dcons (dv 0) dnil)) (dcall bLen (dcons (dv 1) dnil))))) (bSeq (sRet (dc (.bl false))) sNx) sNx) (bSeq (sFor (iArg rng1D (dcons (dcall bLen (dcons (dv 1) dnil)) dnil)) (tgN 2) b__law_is_list_1) (bSeq (sRet (dc (.bl true))) sNx))
def f__law_is_list : List D → Res D := runD .z 4 m__law_is_list
/-! ### _law_moves -/
abbrev st__law_moves : Stmt := (top 42)
def d__law_moves : He.DefD := ⟨("_law_moves", none), "_law_moves", "_law_moves", defArgs st__law_moves, defBody st__law_moves, defScope st__law_moves, [], []⟩
def b__law_moves_0 : Fz.Env → Res D := dcall (withD 5 [] f__law_gain) (dcons (dv 0) (dcons (dv 1) (dcons (dv 2) (dcons (dv 5) (dcons (dv 7) dnil)))))
def b__law_moves_1 : Fz.Env → Out := bSeq (sIf (tVal (d2 cEq (dv 7) (d2 oIx (dv 2) (dv 5)))) (bSeq sCt sNx) sNx) (bSeq (sIf (Fz.tAnd (tVal (d2 cEq (dv 3) (dc (.str "even")))) (tVal (d2 cGe (d2 oIx (dv 6) (dv 7)) (dc (.int 0))))) (bSeq (sApp 4 (dcall oTup (dcons (dv 5) (dcons (dv 7) dnil)))) sNx) sNx) (bSeq (sIf (Fz.tAnd (tVal (d2 cEq (dv 3) (dc (.str "better")))) (tVal (d2 cGt (d2 oIx (dv 6) (dv 7)) (dc (.int 0))))) (bSeq (sApp 4 (dcall oTup (dcons (dv 5) (dcons (dv 7) dnil)))) sNx) sNx) (bSeq (sIf (Fz.tAnd (tVal (d2 cEq (dv 3) (dc (.str "best")))) (Fz.tAnd (tVal (d2 cGt (d2 oIx (dv 6) (dv 7)) (dc (.int 0)))) (tVal (d2 cEq (d2 oIx (dv 6) (dv 7)) (dcall bMax (dcons (dv 6) dnil)))))) (bSeq (sApp 4 (dcall oTup (dcons (dv 5) (dcons (dv 7) dnil)))) sNx) sNx) sNx)))
def b__law_moves_2 : Fz.Env → Out := bSeq (sSet 6 (dLc (([("choice", 7)] : List (Str × Nat)).map (·.2)) (iArg rng1D (dcons (d2 oIx (dv 0) (dv 5)) dnil)) (tgN 7) dYes b__law_moves_0)) (bSeq (sFor (iArg rng1D (dcons (d2 oIx (dv 0) (dv 5)) dnil)) (tgN 7) b__law_moves_1) sNx)
def m__law_moves : Fz.Env → Out := bSeq (sSet 4 (dcall oLst dnil)) (bSeq (sFor (iArg rng1D (dcons (dcall bLen (dcons (dv 0) dnil)) dnil)) (tgN 5) b__law_moves_2) (bSeq (sRet (dv 4)) sNx))
def f__law_moves : List D → Res D := runD .z 8 m__law_moves
/-! ### slack -/
abbrev st_slack : Stmt := (top 22)
def d_slack : He.DefD := ⟨("slack", none), "slack", "slack", defArgs st_slack, defBody st_slack, defScope st_slack, [], []⟩
def m_slack : Fz.Env → Out := bSeq (sSet 2 (dcall (withD 2 [] f_place) (dcons (d1 (oFld ["Table", "Game"] "sizes") (dv 0)) (dcons (dv 1) dnil)))) (bSeq (sRet (dcall bMax (dcons (d2 oAddL (dcall oLst (dcons (dc (.int 0)) dnil)) (dLc (([("person", 3), ("choice", 4), ("new", 5), ("more", 6)] : List (Str × Nat)).map (·.2)) (iSeq itD (dcall (withD 3 [] f_arcs) (dcons (dv 0) (dcons (dv 2) (dcons (dc (.str "better")) dnil))))) (tgT [3, 4, 5, 6]) dYes (dv 6))) dnil))) sNx)
def f_slack : List D → Res D := runD .z 7 m_slack
/-! ### _law_at_play -/
abbrev st__law_at_play : Stmt := (top 44)
def d__law_at_play : He.DefD := ⟨("_law_at_play", none), "_law_at_play", "_law_at_play", defArgs st__law_at_play, defBody st__law_at_play, defScope st__law_at_play, [], []⟩
def b__law_at_play_0 : Fz.Env → Out := bSeq (sSet 7 (dcall (withD 5 [] f__law_gain) (dcons (dv 1) (dcons (dv 2) (dcons (dv 3) (dcons (dv 5) (dcons (dv 6) dnil))))))) (bSeq (sSet 8 (dcall (withD 4 [] f_gain) (dcons (dv 0) (dcons (dv 3) (dcons (dv 5) (dcons (dv 6) dnil)))))) (bSeq (sIf (Fz.tOr (Fz.tNot (tTru (dcall (withD 1 [] f__law_is_whole) (dcons (dv 8) dnil)))) (tVal (d2 cNe (dv 8) (dv 7)))) (bSeq (sRet (dc (.bl false))) sNx) sNx) (bSeq (sSet 4 (dcall bMax (dcons (dv 4) (dcons (dv 7) dnil)))) sNx)))
def b__law_at_play_1 : Fz.Env → Out := bSeq (sFor (iArg rng1D (dcons (d2 oIx (dv 1) (dv 5)) dnil)) (tgN 6) b__law_at_play_0) sNx
def b__law_at_play_2 : Fz.Env → Out := bSeq (sSet 8 (dcall (withD 3 [] f_moves) (dcons (dv 0) (dcons (dv 3) (dcons (dv 9) dnil))))) (bSeq (sIf (Fz.tNot (tTru (dflat (dcall (withD 2 [] f__law_is_list) (dcons (dv 8) (dcons (dcall (withD 4 [] f__law_moves) (dcons (dv 1) (dcons (dv 2) (dcons (dv 3) (dcons (dv 9) dnil))))) dnil)))))) (bSeq (sRet (dc (.bl false))) sNx) sNx) (bSeq (sApp 8 (dcall oTup (dcons (dc (.int 0)) (dcons (dc (.int 0)) dnil)))) (bSeq (sIf (Fz.tNot (tTru (dcall (withD 2 [] f__law_is_list) (dcons (dcall (withD 3 [] f_moves) (dcons (dv 0) (dcons (dv 3) (dcons (dv 9) dnil)))) (dcons (dcall (withD 4 [] f__law_moves) (dcons (dv 1) (dcons (dv 2) (dcons (dv 3) (dcons (dv 9) dnil))))) dnil))))) (bSeq (sRet (dc (.bl false))) sNx) sNx) sNx)))
def m__law_at_play : Fz.Env → Out := bSeq (sSet 4 (dc (.int 0))) (bSeq (sFor (iArg rng1D (dcons (dcall bLen (dcons (dv 1) dnil)) dnil)) (tgN 5) b__law_at_play_1) (bSeq (sFor (iSeq itD (dcall oLst (dcons (dc (.str "better")) (dcons (dc (.str "best")) (dcons (dc (.str "even")) dnil))))) (tgN 9) b__law_at_play_2) (bSeq (sSet 8 (dcall (withD 2 [] f_slack) (dcons (dv 0) (dcons (dv 3) dnil)))) (bSeq (sRet (dAnd (dcall (withD 1 [] f__law_is_whole) (dcons (dv 8) dnil)) (d2 cEq (dv 8) (dv 4)))) sNx))))
def f__law_at_play : List D → Res D := runD .z 10 m__law_at_play
/-! ### play_at -/
abbrev st_play_at : Stmt := (top 17)
def d_play_at : He.DefD := ⟨("play_at", none), "play_at", "play_at", defArgs st_play_at, defBody st_play_at, defScope st_play_at, [], []⟩
def b_play_at_0 : Fz.Env → Out := bSeq (sApp 2 (d2 oMod (dv 1) (dv 3))) (bSeq (sSet 1 (d2 oDiv (dv 1) (dv 3))) sNx)
def m_play_at : Fz.Env → Out := bSeq (sIf (Fz.tNot (tVal (dChain cLe cLt (dc (.int 0)) (dv 1) (dcall (withD 1 [] f_count_plays) (dcons (dv 0) dnil))))) (bSeq (sRaise "BadPlay") sNx) sNx) (bSeq (sSet 2 (dcall oLst dnil)) (bSeq (sFor (iSeq revD (dv 0)) (tgN 3) b_play_at_0) (bSeq (sRet (d1 tupRevD (dv 2))) sNx)))
def f_play_at : List D → Res D := runD .z 4 m_play_at
/-! ### rests -/
abbrev st_rests : Stmt := (top 23)
def d_rests : He.DefD := ⟨("rests", none), "rests", "rests", defArgs st_rests, defBody st_rests, defScope st_rests, [], []⟩
def b_rests_0 : Fz.Env → Out := bSeq (sIf (tVal (d2 cEq (dcall bLen (dcons (dcall (withD 3 [] f_arcs) (dcons (dv 0) (dcons (dv 2) (dcons (dc (.str "better")) dnil)))) dnil)) (dc (.int 0)))) (bSeq (sApp 1 (dcall (withD 2 [] f_play_at) (dcons (d1 (oFld ["Table", "Game"] "sizes") (dv 0)) (dcons (dv 2) dnil)))) sNx) sNx) sNx
def m_rests : Fz.Env → Out := bSeq (sSet 1 (dcall oLst dnil)) (bSeq (sFor (iArg rng1D (dcons (dcall (withD 1 [] f_count_plays) (dcons (d1 (oFld ["Table", "Game"] "sizes") (dv 0)) dnil)) dnil)) (tgN 2) b_rests_0) (bSeq (sRet (dv 1)) sNx))
def f_rests : List D → Res D := runD (.l .z) 3 m_rests
/-! ### _law_bad_play -/
abbrev st__law_bad_play : Stmt := (top 46)
def d__law_bad_play : He.DefD := ⟨("_law_bad_play", none), "_law_bad_play", "_law_bad_play", defArgs st__law_bad_play, defBody st__law_bad_play, defScope st__law_bad_play, [], []⟩
def m__law_bad_play : Fz.Env → Out := bSeq (sSet 3 (d2 oMod (dcall bInt (dcons (dv 2) dnil)) (dc (.int 4)))) (bSeq (sSet 4 (d2 oMod (dcall bInt (dcons (d2 oDiv (dv 2) (dc (.int 4))) dnil)) (dcall bLen (dcons (dv 0) dnil)))) (bSeq (sIf (tVal (d2 cEq (dv 3) (dc (.int 0)))) (bSeq (sRet (d2 oAdd (dSl (dv 1) pNo (pAt (dv 4))) (dSl (dv 1) (pAt (d2 oAdd (dv 4) (dc (.int 1)))) pNo))) sNx) sNx) (bSeq (sIf (tVal (d2 cEq (dv 3) (dc (.int 1)))) (bSeq (sRet (d2 oAdd (dv 1) (dcall oTup (dcons (dc (.int 0)) dnil)))) sNx) sNx) (bSeq (sIf (tVal (d2 cEq (dv 3) (dc (.int 2)))) (bSeq (sRet (d2 oAdd (d2 oAdd (dSl (dv 1) pNo (pAt (dv 4))) (dcall oTup (dcons (d1 oNeg (dc (.int 1))) dnil))) (dSl (dv 1) (pAt (d2 oAdd (dv 4) (dc (.int 1)))) pNo))) sNx) sNx) (bSeq (sRet (d2 oAdd (d2 oAdd (dSl (dv 1) pNo (pAt (dv 4))) (dcall oTup (dcons (d2 oIx (dv 0) (dv 4)) dnil))) (dSl (dv 1) (pAt (d2 oAdd (dv 4) (dc (.int 1)))) pNo))) sNx)))))
def f__law_bad_play : List D → Res D := runD .z 5 m__law_bad_play
/-! ### Game.pay -/
abbrev st_Game_pay : Stmt := ((clsB (top 29)).getD 3 (.Pass ⟨0, 0, 0, 0⟩))
def d_Game_pay : He.DefD := ⟨("Game", some "pay"), "pay", "Game.pay", defArgs st_Game_pay, defBody st_Game_pay, defScope st_Game_pay, [], []⟩
def m_Game_pay : Fz.Env → Out := bSeq (sSet 3 (dcall (withD 2 [] f_place) (dcons (d1 (oFld ["Table", "Game"] "sizes") (dv 0)) (dcons (dv 1) dnil)))) (bSeq (sIf (Fz.tNot (tVal (dChain cLe cLt (dc (.int 0)) (dv 2) (dcall bLen (dcons (d1 (oFld ["Table", "Game"] "sizes") (dv 0)) dnil))))) (bSeq (sRaise "BadPlay") sNx) sNx) (bSeq (sRet (d2 oIx (d2 oIx (d1 (oFld ["Game"] "pays") (dv 0)) (dv 2)) (dv 3))) sNx))
def f_Game_pay : List D → Res D := runD .z 4 m_Game_pay
/-! ### Table.__init__ -/
abbrev st_Table_init : Stmt := ((clsB (top 27)).getD 0 (.Pass ⟨0, 0, 0, 0⟩))
def d_Table_init : He.DefD := ⟨("Table", some "__init__"), "__init__", "Table.__init__", defArgs st_Table_init, defBody st_Table_init, defScope st_Table_init, [.int 1], []⟩
def m_Table_init : Fz.Env → Out := bSeq (sFld' 0 ["Table", "Game"] "sizes" (dcall (withD 1 [] f_check_sizes) (dcons (dv 1) dnil))) (bSeq (sIf (Fz.tOr (tVal (d2 cNe (dcall bLen (dcons (dv 2) dnil)) (dcall (withD 1 [] f_count_plays) (dcons (dv 1) dnil)))) (tVal (d2 cLt (dv 3) (dc (.int 1))))) (bSeq (sRaise "BadGame") sNx) sNx) (bSeq (sSet 4 (dcall (withD 2 [] f_divisor) (dcons (dv 2) (dcons (dv 3) dnil)))) (bSeq (sFld' 0 ["Table"] "numbers" (dcall bTup (dcons (dLc (([("number", 5)] : List (Str × Nat)).map (·.2)) (iSeq itD (dv 2)) (tgN 5) dYes (d2 oDiv (dv 5) (dv 4))) dnil))) (bSeq (sFld' 0 ["Table", "Game"] "over" (d2 oDiv (dv 3) (dv 4))) sNx))))
def f_Table_init : List D → Res (List (Str × D)) := runI "Table" 6 m_Table_init
/-! ### Game.row -/
abbrev st_Game_row : Stmt := ((clsB (top 29)).getD 4 (.Pass ⟨0, 0, 0, 0⟩))
def d_Game_row : He.DefD := ⟨("Game", some "row"), "row", "Game.row", defArgs st_Game_row, defBody st_Game_row, defScope st_Game_row, [], []⟩
def m_Game_row : Fz.Env → Out := bSeq (sIf (Fz.tNot (tVal (dChain cLe cLt (dc (.int 0)) (dv 1) (dcall bLen (dcons (d1 (oFld ["Table", "Game"] "sizes") (dv 0)) dnil))))) (bSeq (sRaise "BadPlay") sNx) sNx) (bSeq (sRet (dcall (mkD "Table" 3 [] f_Table_init) (dcons (d1 (oFld ["Table", "Game"] "sizes") (dv 0)) (dcons (d2 oIx (d1 (oFld ["Game"] "pays") (dv 0)) (dv 1)) (dcons (d1 (oFld ["Table", "Game"] "over") (dv 0)) dnil))))) sNx)
def f_Game_row : List D → Res D := runD .z 2 m_Game_row
/-! ### Table.at -/
abbrev st_Table_at : Stmt := ((clsB (top 27)).getD 3 (.Pass ⟨0, 0, 0, 0⟩))
def d_Table_at : He.DefD := ⟨("Table", some "at"), "at", "Table.at", defArgs st_Table_at, defBody st_Table_at, defScope st_Table_at, [], []⟩
def m_Table_at : Fz.Env → Out := bSeq (sRet (d2 oIx (d1 (oFld ["Table"] "numbers") (dv 0)) (dcall (withD 2 [] f_place) (dcons (d1 (oFld ["Table", "Game"] "sizes") (dv 0)) (dcons (dv 1) dnil))))) sNx
def f_Table_at : List D → Res D := runD .z 2 m_Table_at
/-! ### Game.with_pay -/
abbrev st_Game_with_pay : Stmt := ((clsB (top 29)).getD 5 (.Pass ⟨0, 0, 0, 0⟩))
def d_Game_with_pay : He.DefD := ⟨("Game", some "with_pay"), "with_pay", "Game.with_pay", defArgs st_Game_with_pay, defBody st_Game_with_pay, defScope st_Game_with_pay, [.int 1], []⟩
def b_Game_with_pay_0 : Fz.Env → Res D := dLc (([("pay", 8)] : List (Str × Nat)).map (·.2)) (iSeq itD (dv 7)) (tgN 8) dYes (d2 oMul (dv 8) (dv 4))
def m_Game_with_pay : Fz.Env → Out := bSeq (sSet 5 (dcall (withD 2 [] f_place) (dcons (d1 (oFld ["Table", "Game"] "sizes") (dv 0)) (dcons (dv 1) dnil)))) (bSeq (sIf (Fz.tNot (tVal (dChain cLe cLt (dc (.int 0)) (dv 2) (dcall bLen (dcons (d1 (oFld ["Table", "Game"] "sizes") (dv 0)) dnil))))) (bSeq (sRaise "BadPlay") sNx) sNx) (bSeq (sIf (tVal (d2 cLt (dv 4) (dc (.int 1)))) (bSeq (sRaise "BadGame") sNx) sNx) (bSeq (sSet 6 (dLc (([("row", 7)] : List (Str × Nat)).map (·.2)) (iSeq itD (d1 (oFld ["Game"] "pays") (dv 0))) (tgN 7) dYes b_Game_with_pay_0)) (bSeq (sPut2 6 (dv 2) (dv 5) (d2 oMul (dv 3) (d1 (oFld ["Table", "Game"] "over") (dv 0)))) (bSeq (sRet (dcall (mkD "Game" 3 [] f_Game_init) (dcons (d1 (oFld ["Table", "Game"] "sizes") (dv 0)) (dcons (dv 6) (dcons (d2 oMul (d1 (oFld ["Table", "Game"] "over") (dv 0)) (dv 4)) dnil))))) sNx)))))
def f_Game_with_pay : List D → Res D := runD .z 9 m_Game_with_pay
/-! ### _law_refuses -/
abbrev st__law_refuses : Stmt := (top 45)
def d__law_refuses : He.DefD := ⟨("_law_refuses", none), "_law_refuses", "_law_refuses", defArgs st__law_refuses, defBody st__law_refuses, defScope st__law_refuses, [], []⟩
def m__law_refuses : Fz.Env → Out := bSeq (sSet 6 (dc (.int 0))) (bSeq (sTry [("Fault", true), ("BadGame", true), ("BadPlay", true)] 7 (bSeq (sIf (tVal (d2 cEq (dv 0) (dc (.int 0)))) (bSeq (sSet 6 (dcall (withD 4 [] f_gain) (dcons (dv 1) (dcons (dv 3) (dcons (dc (.int 0)) (dcons (dc (.int 0)) dnil)))))) sNx) (bSeq (sIf (tVal (d2 cEq (dv 0) (dc (.int 1)))) (bSeq (sSet 6 (dcall (withD 4 [] f_gain) (dcons (dv 1) (dcons (dv 2) (dcons (dv 4) (dcons (dc (.int 0)) dnil)))))) sNx) (bSeq (sIf (tVal (d2 cEq (dv 0) (dc (.int 2)))) (bSeq (sSet 6 (dcall (withD 4 [] f_gain) (dcons (dv 1) (dcons (dv 2) (dcons (dc (.int 0)) (dcons (dv 5) dnil)))))) sNx) (bSeq (sIf (tVal (d2 cEq (dv 0) (dc (.int 3)))) (bSeq (sSet 6 (dcall (withD 3 [] f_moves) (dcons (dv 1) (dcons (dv 3) (dcons (dc (.str "better")) dnil))))) sNx) (bSeq (sIf (tVal (d2 cEq (dv 0) (dc (.int 4)))) (bSeq (sSet 6 (dcall (withD 2 [] f_slack) (dcons (dv 1) (dcons (dv 3) dnil)))) sNx) (bSeq (sIf (tVal (d2 cEq (dv 0) (dc (.int 5)))) (bSeq (sSet 6 (dmeth "Game" "pay" 3 [] f_Game_pay (dv 1) (dcons (dv 3) (dcons (dc (.int 0)) dnil)))) sNx) (bSeq (sIf (tVal (d2 cEq (dv 0) (dc (.int 6)))) (bSeq (sSet 6 (dmeth "Game" "pay" 3 [] f_Game_pay (dv 1) (dcons (dv 2) (dcons (dv 4) dnil)))) sNx) (bSeq (sIf (tVal (d2 cEq (dv 0) (dc (.int 7)))) (bSeq (sSet 6 (dmeth "Game" "row" 2 [] f_Game_row (dv 1) (dcons (dv 4) dnil))) sNx) (bSeq (sIf (tVal (d2 cEq (dv 0) (dc (.int 8)))) (bSeq (sSet 6 (dmeth "Table" "at" 2 [] f_Table_at (dmeth "Game" "row" 2 [] f_Game_row (dv 1) (dcons (dc (.int 0)) dnil)) (dcons (dv 3) dnil))) sNx) (bSeq (sIf (tVal (d2 cEq (dv 0) (dc (.int 9)))) (bSeq (sSet 6 (dmeth "Game" "with_pay" 5 [] f_Game_with_pay (dv 1) (dcons (dv 3) (dcons (dc (.int 0)) (dcons (dc (.int 1)) (dcons (dc (.int 0)) dnil)))))) sNx) (bSeq (sSet 6 (dmeth "Game" "with_pay" 5 [.int 1] f_Game_with_pay (dv 1) (dcons (dv 2) (dcons (dv 4) (dcons (dc (.int 1)) dnil))))) sNx)) sNx)) sNx)) sNx)) sNx)) sNx)) sNx)) sNx)) sNx)) sNx)) sNx) (bSeq (sRet (dAnd (dIsE 7 [("Fault", false), ("BadGame", false), ("BadPlay", true)]) (dAnd (d1 oNot (dIsE 7 [("Fault", false), ("BadGame", true), ("BadPlay", false)])) (d1 oNot (dIsE 7 [("Fault", false), ("BadGame", false), ("BadPlay", false)]))))) sNx)) (bSeq (sRet (dc (.bl false))) sNx))
def f__law_refuses : List D → Res D := runD .z 8 m__law_refuses
/-! ### law -/
abbrev st_law : Stmt := (top 47)
def d_law : He.DefD := ⟨("law", none), "law", "law", defArgs st_law, defBody st_law, defScope st_law, [], []⟩
def b_law_0 : Fz.Env → Res D := dcall (withD 2 [] f__law_pays) (dcons (d2 oAdd (dcall (withD 2 [] f__law_cell) (dcons (dv 0) (dcons (d2 oAdd (dc (.int 2)) (dv 7)) dnil))) (d2 oMul (dc (.int 17)) (dv 7))) (dcons (dv 2) dnil))
def b_law_1 : Fz.Env → Out := bSeq (sSet 10 (dcall (withD 2 [] f__law_gcd) (dcons (dv 10) (dcons (dv 11) dnil)))) sNx
def b_law_2 : Fz.Env → Out := bSeq (sFor (iSeq itD (dv 9)) (tgN 11) b_law_1) sNx
def b_law_3 : Fz.Env → Res D := dLc (([("pay", 11)] : List (Str × Nat)).map (·.2)) (iSeq itD (dv 9)) (tgN 11) dYes (d2 oDiv (dv 11) (dv 10))
def b_law_4 : Fz.Env → Res D := d2 oIx (dv 3) (d2 oMod (dcall bInt (dcons (d2 oAdd (d2 oMul (d2 oIx (dv 4) (d2 oAdd (dc (.int 2)) (dv 7))) (dc (.int 3600))) (d2 oIx (dv 4) (d2 oAdd (dc (.int 3)) (dv 7)))) dnil)) (dv 2))
def b_law_5 : Fz.Env → Out := bSeq (sIf (Fz.tNot (tTru (dflat (dcall (withD 4 [] f__law_at_play) (dcons (dv 8) (dcons (dv 1) (dcons (dv 6) (dcons (dv 13) dnil)))))))) (bSeq (sRet (dc (.bl false))) sNx) sNx) sNx
def b_law_6 : Fz.Env → Out := bSeq (sIf (tflat (tVal (d2 cEq (dcall (withD 4 [] f__law_moves) (dcons (dv 1) (dcons (dv 6) (dcons (dv 13) (dcons (dc (.str "better")) dnil))))) (dcall oLst dnil)))) (bSeq (sApp 14 (dv 13)) sNx) sNx) sNx
def b_law_7 : Fz.Env → Out := bSeq (sIf (Fz.tNot (tTru (dcall (withD 6 [] f__law_refuses) (dcons (dv 19) (dcons (dv 8) (dcons (dv 13) (dcons (dv 16) (dcons (dv 17) (dcons (dv 18) dnil))))))))) (bSeq (sRet (dc (.bl false))) sNx) sNx) sNx
def m_law : Fz.Env → Out := bSeq (sSet 1 (dcall (withD 1 [] f__law_sizes) (dcons (dcall (withD 2 [] f__law_cell) (dcons (dv 0) (dcons (dc (.int 0)) dnil))) dnil))) (bSeq (sSet 2 (dcall (withD 1 [] f__law_count) (dcons (dv 1) dnil))) (bSeq (sSet 3 (dcall (withD 1 [] f__law_plays) (dcons (dv 1) dnil))) (bSeq (sSet 4 (dcall (withD 3 [] f__law_row) (dcons (dcall (withD 2 [] f__law_cell) (dcons (dv 0) (dcons (dc (.int 1)) dnil))) (dcons (dc (.int 30)) (dcons (dc (.int 3600)) dnil))))) (bSeq (sSet 5 (d2 oAdd (dc (.int 1)) (d2 oMod (dcall bInt (dcons (d2 oIx (dv 4) (dc (.int 0))) dnil)) (dc (.int 9))))) (bSeq (sSet 6 (dLc (([("k", 7)] : List (Str × Nat)).map (·.2)) (iArg rng1D (dcons (dcall bLen (dcons (dv 1) dnil)) dnil)) (tgN 7) dYes b_law_0)) (bSeq (sIf (tVal (d2 cLt (d2 oIx (dv 4) (dc (.int 1))) (dc (.int 1200)))) (bSeq (sPut 6 (d2 oSub (dcall bLen (dcons (dv 1) dnil)) (dc (.int 1))) (dcall bLst (dcons (oIxO 6 (dc (.int 0))) dnil))) sNx) sNx) (bSeq (sSet 8 (dcall (mkD "Game" 3 [] f_Game_init) (dcons (dv 1) (dcons (dLc (([("row", 9)] : List (Str × Nat)).map (·.2)) (iSeq itD (dv 6)) (tgN 9) dYes (dcall bLst (dcons (dv 9) dnil))) (dcons (dv 5) dnil))))) (bSeq (sSet 10 (dv 5)) (bSeq (sFor (iSeq itD (dv 6)) (tgN 9) b_law_2) (bSeq (sSet 6 (dLc (([("row", 9)] : List (Str × Nat)).map (·.2)) (iSeq itD (dv 6)) (tgN 9) dYes b_law_3)) (bSeq (sSet 12 (dv 3)) (bSeq (sIf (tVal (d2 cGt (dv 2) (dc (.int 12)))) (bSeq (sSet 12 (dLc (([("k", 7)] : List (Str × Nat)).map (·.2)) (iArg rng1D (dcons (dc (.int 12)) dnil)) (tgN 7) dYes b_law_4)) sNx) sNx) (bSeq (sFor (iSeq itD (dv 12)) (tgN 13) b_law_5) (bSeq (sSet 14 (dcall oLst dnil)) (bSeq (sFor (iSeq itD (dv 3)) (tgN 13) b_law_6) (bSeq (sSet 15 (dcall (withD 1 [] f_rests) (dcons (dv 8) dnil))) (bSeq (sIf (Fz.tNot (tTru (dflat (dflat (dcall (withD 2 [] f__law_is_list) (dcons (dv 15) (dcons (dv 14) dnil))))))) (bSeq (sRet (dc (.bl false))) sNx) sNx) (bSeq (sApp 15 (dcall oTup (dcons (dc (.int 0)) dnil))) (bSeq (sIf (Fz.tNot (tTru (dflat (dcall (withD 2 [] f__law_is_list) (dcons (dcall (withD 1 [] f_rests) (dcons (dv 8) dnil)) (dcons (dv 14) dnil)))))) (bSeq (sRet (dc (.bl false))) sNx) sNx) (bSeq (sSet 13 (d2 oIx (dv 12) (d2 oMod (dcall bInt (dcons (d2 oIx (dv 4) (dc (.int 15))) dnil)) (dcall bLen (dcons (dv 12) dnil))))) (bSeq (sSet 16 (dcall (withD 3 [] f__law_bad_play) (dcons (dv 1) (dcons (dv 13) (dcons (d2 oIx (dv 4) (dc (.int 16))) dnil))))) (bSeq (sSet 17 (dcall bLen (dcons (dv 1) dnil))) (bSeq (sSet 18 (d2 oIx (dv 1) (dc (.int 0)))) (bSeq (sIf (tVal (d2 cEq (d2 oMod (dcall bInt (dcons (d2 oIx (dv 4) (dc (.int 17))) dnil)) (dc (.int 2))) (dc (.int 1)))) (bSeq (sSet 17 (d1 oNeg (dc (.int 1)))) (bSeq (sSet 18 (d1 oNeg (dc (.int 1)))) sNx)) sNx) (bSeq (sFor (iArg rng1D (dcons (dc (.int 11)) dnil)) (tgN 19) b_law_7) (bSeq (sRet (dflat (dcall (withD 4 [] f__law_at_play) (dcons (dv 8) (dcons (dv 1) (dcons (dv 6) (dcons (dv 13) dnil))))))) sNx))))))))))))))))))))))))))
def f_law : List D → Res D := runD .z 20 m_law
def fn : List He.DefD := [d__law_mix, d__law_row, d__law_sizes, d__law_cell, d__law_count, d__law_plays, d__law_pays, d_count_plays, d_check_sizes, d_divisor, d_Game_init, d__law_gcd, d__law_place, d__law_gain, d_is_play, d_place, d_is_change, d_strides, d_gain, d__law_is_whole, d_arcs, d_moves, d__law_is_list, d__law_moves, d_slack, d__law_at_play, d_play_at, d_rests, d__law_bad_play, d_Game_pay, d_Table_init, d_Game_row, d_Table_at, d_Game_with_pay, d__law_refuses, d_law]
def fa : List He.Fa := [.free "abs", .free "range", .free "int", .free "max", .free "len", .free "list", .free "min", .glo "BadGame", .exc "BadGame", .int "MOST_PEOPLE" 4, .int "MOST_CHOICES" 5, .int "MOST_PLAYS" 120, .free "tuple", .cls "Game", .noat "Game" "sizes", .cls "Table", .noat "Table" "sizes", .noat "Game" "pays", .noat "Game" "over", .noat "Table" "over", .free "zip", .glo "BadPlay", .exc "BadPlay", .free "reversed", .free "isinstance", .free "bool", .free "enumerate", .meth "Game" "pay", .noat "Table" "numbers", .meth "Game" "row", .meth "Table" "at", .meth "Game" "with_pay", .glo "TooMany", .exm "BadPlay" "Fault" true, .exm "BadGame" "Fault" true, .exm "Fault" "Fault" true, .glo "Fault", .glo "_law_mix", .glo "_law_row", .glo "_law_sizes", .glo "_law_cell", .glo "_law_count", .glo "_law_plays", .glo "_law_pays", .glo "count_plays", .glo "check_sizes", .glo "divisor", .glo "Game", .mkr "Game", .glo "_law_gcd", .glo "_law_place", .glo "_law_gain", .glo "is_play", .glo "place", .glo "is_change", .glo "strides", .glo "gain", .glo "_law_is_whole", .glo "arcs", .glo "moves", .glo "_law_is_list", .glo "_law_moves", .glo "slack", .glo "_law_at_play", .glo "play_at", .glo "rests", .glo "_law_bad_play", .glo "Table", .mkr "Table", .glo "_law_refuses", .glo "law"]
def fb : List Fb := [.blt "gcd" "math.gcd", .kit "BadPlay" "BadPlay" true, .exC "BadPlay", .kit "BadGame" "BadPlay" false, .exC "BadGame", .kit "Fault" "BadPlay" false, .exC "Fault", .kit "BadPlay" "BadGame" false, .kit "BadGame" "BadGame" true, .kit "Fault" "BadGame" false, .kit "BadPlay" "TooMany" false, .kit "BadGame" "TooMany" false, .kit "Fault" "TooMany" false]
section
variable {P : Program} {wd : World} {K : Fr} {mg : Str → Option Value} {base : Heap}
theorem sc__law_mix : FnScope ["cell", "k", "first", "second"] ["cell", "k"] (defScope st__law_mix) := ⟨rfl, rfl, rfl, by decide +kernel, rfl, by decide +kernel, by decide +kernel⟩
theorem body__law_mix (C : Ctx fa fn fb K mg) {fd : FuncData} {a : Addr} (F : FunD K (d__law_mix).name (d__law_mix).qual (d__law_mix).params (d__law_mix).body (d__law_mix).scope ((d__law_mix).dvs K) [] a fd) : FnOk P wd K mg base (L2.CX P wd) 1 a fd ["cell", "k"] (spD K 2 f__law_mix .z) :=
  have S := sc__law_mix
  fn_ok (w := [.z, .z, .z, .z]) (w1 := [.z, .z, .z, .z]) F S rfl rfl fun cdv A outer s H E hr => (ss_cons (w1 := [.z, .z, .z, .z]) (s_set 2 (e_op op_modA od_mod (e_callT call_int1 cd_int (C.free 2) boot_int (a_cons (e_op op_addAll od_add (e_op op_addAll od_add (e_op op_mulA od_mul (e_var 0) e_int) (e_op op_mulA od_mul (e_var 1) e_int)) e_int) a_nil)) e_int) (hN := S.nd)) (ss_cons (w1 := [.z, .z, .z, .z]) (s_set 3 (e_op op_modA od_mod (e_callT call_int1 cd_int (C.free 2) boot_int (a_cons (e_op op_addAll od_add (e_op op_addAll od_add (e_op op_mulA od_mul (e_var 2) e_int) (e_op op_mulA od_mul (e_var 1) e_int)) (e_op op_divA od_div (e_var 2) e_int)) a_nil)) e_int) (hN := S.nd)) (ss_cons (w1 := [.z, .z, .z, .z]) (s_ret (e_op op_modA od_mod (e_callT call_int1 cd_int (C.free 2) boot_int (a_cons (e_op op_addAll od_add (e_op op_mulA od_mul (e_var 3) e_int) (e_op op_divA od_div (e_var 3) e_int)) a_nil)) e_int)) ss_nil)))
theorem ok__law_mix (C : Ctx fa fn fb K mg) : Fn P wd K mg base 1 "_law_mix" 2 [] f__law_mix .z := by
  obtain ⟨fd, F⟩ := C.c.def_ 0 (d := d__law_mix) rfl
  obtain ⟨us, hv, hb⟩ : ∃ us, Vals ([] : List V) us ∧ Binds K fd ["cell", "k"] us := ⟨[], .nil, F.bindsN fun _ _ _ _ _ _ us hl => match us, hl with | [_, _], _ => rfl⟩
  exact ⟨⟨_, fd, ["cell", "k"], [], us, C.glo 37, F.kp, hb, hv, fun _ => .nil, body__law_mix C F⟩⟩
theorem sc__law_row : FnScope ["cell", "count", "limit", "row", "left", "k"] ["cell", "count", "limit"] (defScope st__law_row) := ⟨rfl, rfl, rfl, by decide +kernel, rfl, by decide +kernel, by decide +kernel⟩
theorem body__law_row (C : Ctx fa fn fb K mg) {fd : FuncData} {a : Addr} (F : FunD K (d__law_row).name (d__law_row).qual (d__law_row).params (d__law_row).body (d__law_row).scope ((d__law_row).dvs K) [] a fd) : FnOk P wd K mg base (L2.CX P wd) 2 a fd ["cell", "count", "limit"] (spD K 3 f__law_row .z) :=
  have S := sc__law_row
  fn_ok (w := [.z, .z, .z, .z, .z, .z]) (w1 := [.z, .z, .z, .z, .z, .z]) F S rfl rfl fun cdv A outer s H E hr => (ss_cons (w1 := [.z, .z, .z, .l .z, .z, .z]) (s_set 3 (e_lst a_nil) (hN := S.nd)) (ss_cons (w1 := [.z, .z, .z, .l .z, .z, .z]) (s_set 4 (e_callB call_abs cd_abs (C.free 0) boot_abs (a_cons (e_var 0) a_nil)) (hN := S.nd)) (ss_cons (w1 := [.z, .z, .z, .l .z, .z, .z]) (s_for (vs := [5]) (i_range1 (C.free 1) (a_cons (e_var 1) a_nil)) (g_name 5 (hN := S.nd)) (ss_cons (w1 := [.z, .z, .z, .l .z, .z, .z]) (s_if (PW.pt (w_and (t_cmp (OpR.rI0 op_ge) od_cmp (e_callB call_abs cd_abs (C.free 0) boot_abs (a_cons (e_var 0) a_nil)) (e_op op_pow od_pow e_int e_int)) (w_and1 (t_cmp (OpR.rI0 op_gt) od_cmp (e_var 4) e_int)))) (ss_cons (w1 := [.z, .z, .z, .l .z, .z, .z]) (s_app 3 (he := (e_op op_modA od_mod (e_callT call_int1 cd_int (C.free 2) boot_int (a_cons (e_var 4) a_nil)) (e_var 2)))) (ss_cons (w1 := [.z, .z, .z, .l .z, .z, .z]) (s_set 4 (e_op op_divA od_div (e_var 4) (e_var 2)) (hN := S.nd)) ss_nil)) (ss_cons (w1 := [.z, .z, .z, .l .z, .z, .z]) (s_app 3 (he := (e_op op_modA od_mod (e_callT call_int1 cd_int (C.free 2) boot_int (a_cons (e_call (ok__law_mix C) (hr.mono (by decide)) (takes_E rfl rfl rfl rfl) (a_cons (e_var 0) (a_cons (e_var 5) a_nil))) a_nil)) (e_var 2)))) ss_nil)) ss_nil) (passes_of rfl)) (ss_fz (w' := [.z, .z, .z, .z, .z, .z]) (ss_cons (w1 := [.z, .z, .z, .z, .z, .z]) (s_ret (e_var 3)) ss_nil)))))
theorem ok__law_row (C : Ctx fa fn fb K mg) : Fn P wd K mg base 2 "_law_row" 3 [] f__law_row .z := by
  obtain ⟨fd, F⟩ := C.c.def_ 1 (d := d__law_row) rfl
  obtain ⟨us, hv, hb⟩ : ∃ us, Vals ([] : List V) us ∧ Binds K fd ["cell", "count", "limit"] us := ⟨[], .nil, F.bindsN fun _ _ _ _ _ _ us hl => match us, hl with | [_, _, _], _ => rfl⟩
  exact ⟨⟨_, fd, ["cell", "count", "limit"], [], us, C.glo 38, F.kp, hb, hv, fun _ => .nil, body__law_row C F⟩⟩
theorem sc__law_sizes : FnScope ["cell", "row", "people", "most", "sizes", "count", "k", "size"] ["cell"] (defScope st__law_sizes) := ⟨rfl, rfl, rfl, by decide +kernel, rfl, by decide +kernel, by decide +kernel⟩
theorem body__law_sizes (C : Ctx fa fn fb K mg) {fd : FuncData} {a : Addr} (F : FunD K (d__law_sizes).name (d__law_sizes).qual (d__law_sizes).params (d__law_sizes).body (d__law_sizes).scope ((d__law_sizes).dvs K) [] a fd) : FnOk P wd K mg base (L2.CX P wd) 3 a fd ["cell"] (spD K 1 f__law_sizes .z) :=
  have S := sc__law_sizes
  fn_ok (w := [.z, .z, .z, .z, .z, .z, .z, .z]) (w1 := [.z, .z, .z, .z, .z, .z, .z, .z]) F S rfl rfl fun cdv A outer s H E hr => (ss_cons (w1 := [.z, .z, .z, .z, .z, .z, .z, .z]) (s_set 1 (e_call (ok__law_row C) (hr.mono (by decide)) (takes_E rfl rfl rfl rfl) (a_cons (e_var 0) (a_cons e_int (a_cons e_int a_nil)))) (hN := S.nd)) (ss_cons (w1 := [.z, .z, .z, .z, .z, .z, .z, .z]) (s_set 2 (e_op op_addAll od_add e_int (e_op op_modA od_mod (e_callT call_int1 cd_int (C.free 2) boot_int (a_cons (e_op op_addAll od_add (e_ix (e_var 1) e_int) e_int) a_nil)) e_int)) (hN := S.nd)) (ss_cons (w1 := [.z, .z, .z, .z, .z, .z, .z, .z]) (s_set 3 e_int (hN := S.nd)) (ss_cons (w1 := [.z, .z, .z, .z, .z, .z, .z, .z]) (s_if (t_cmp (OpR.rI0 op_lt) od_cmp (e_ix (e_var 1) e_int) e_int) (ss_cons (w1 := [.z, .z, .z, .z, .z, .z, .z, .z]) (s_set 3 e_int (hN := S.nd)) ss_nil) ss_nil) (ss_cons (w1 := [.z, .z, .z, .z, .l .z, .z, .z, .z]) (s_set 4 (e_lst a_nil) (hN := S.nd)) (ss_cons (w1 := [.z, .z, .z, .z, .l .z, .z, .z, .z]) (s_set 5 e_int (hN := S.nd)) (ss_cons (w1 := [.z, .z, .z, .z, .l .z, .z, .z, .z]) (s_for (vs := [6]) (i_range1 (C.free 1) (a_cons (e_var 2) a_nil)) (g_name 6 (hN := S.nd)) (ss_cons (w1 := [.z, .z, .z, .z, .l .z, .z, .z, .z]) (s_set 7 (e_op op_addAll od_add e_int (e_op op_modA od_mod (e_callT call_int1 cd_int (C.free 2) boot_int (a_cons (e_ix (e_var 1) (e_op op_addAll od_add e_int (e_var 6))) a_nil)) e_int)) (hN := S.nd)) (ss_cons (w1 := [.z, .z, .z, .z, .l .z, .z, .z, .z]) (s_if (t_cmp (OpR.rI0 op_gt) od_cmp (e_op op_mulA od_mul (e_var 5) (e_var 7)) (e_var 3)) (ss_cons (w1 := [.z, .z, .z, .z, .l .z, .z, .z, .z]) (s_set 7 (e_callB (cr_maxA rfl) cd_max (C.free 3) boot_max (a_cons e_int (a_cons (e_op op_divA od_div (e_var 3) (e_var 5)) a_nil))) (hN := S.nd)) ss_nil) ss_nil) (ss_cons (w1 := [.z, .z, .z, .z, .l .z, .z, .z, .z]) (s_set 5 (e_op op_mulA od_mul (e_var 5) (e_var 7)) (hN := S.nd)) (ss_cons (w1 := [.z, .z, .z, .z, .l .z, .z, .z, .z]) (s_app 4 (he := (e_var 7))) ss_nil)))) (passes_of rfl)) (ss_fz (w' := [.z, .z, .z, .z, .z, .z, .z, .z]) (ss_cons (w1 := [.z, .z, .z, .z, .z, .z, .z, .z]) (s_ret (e_var 4)) ss_nil)))))))))
theorem ok__law_sizes (C : Ctx fa fn fb K mg) : Fn P wd K mg base 3 "_law_sizes" 1 [] f__law_sizes .z := by
  obtain ⟨fd, F⟩ := C.c.def_ 2 (d := d__law_sizes) rfl
  obtain ⟨us, hv, hb⟩ : ∃ us, Vals ([] : List V) us ∧ Binds K fd ["cell"] us := ⟨[], .nil, F.bindsN fun _ _ _ _ _ _ us hl => match us, hl with | [_], _ => rfl⟩
  exact ⟨⟨_, fd, ["cell"], [], us, C.glo 39, F.kp, hb, hv, fun _ => .nil, body__law_sizes C F⟩⟩
theorem sc__law_cell : FnScope ["script", "k"] ["script", "k"] (defScope st__law_cell) := ⟨rfl, rfl, rfl, by decide +kernel, rfl, by decide +kernel, by decide +kernel⟩
theorem body__law_cell (C : Ctx fa fn fb K mg) {fd : FuncData} {a : Addr} (F : FunD K (d__law_cell).name (d__law_cell).qual (d__law_cell).params (d__law_cell).body (d__law_cell).scope ((d__law_cell).dvs K) [] a fd) : FnOk P wd K mg base (L2.CX P wd) 1 a fd ["script", "k"] (spD K 2 f__law_cell .z) :=
  have S := sc__law_cell
  fn_ok (w := [.z, .z]) (w1 := [.z, .z]) F S rfl rfl fun cdv A outer s H E hr => (ss_cons (w1 := [.z, .z]) (s_if (t_cmp (OpR.rI0 op_lt) od_cmp (e_var 1) (e_callB call_len cd_len (C.free 4) boot_len (a_cons (e_var 0) a_nil))) (ss_cons (w1 := [.z, .z]) (s_ret (e_ix (e_var 0) (e_var 1))) ss_nil) ss_nil) (ss_cons (w1 := [.z, .z]) (s_ret e_int) ss_nil))
theorem ok__law_cell (C : Ctx fa fn fb K mg) : Fn P wd K mg base 1 "_law_cell" 2 [] f__law_cell .z := by
  obtain ⟨fd, F⟩ := C.c.def_ 3 (d := d__law_cell) rfl
  obtain ⟨us, hv, hb⟩ : ∃ us, Vals ([] : List V) us ∧ Binds K fd ["script", "k"] us := ⟨[], .nil, F.bindsN fun _ _ _ _ _ _ us hl => match us, hl with | [_, _], _ => rfl⟩
  exact ⟨⟨_, fd, ["script", "k"], [], us, C.glo 40, F.kp, hb, hv, fun _ => .nil, body__law_cell C F⟩⟩
theorem sc__law_count : FnScope ["sizes", "count", "size"] ["sizes"] (defScope st__law_count) := ⟨rfl, rfl, rfl, by decide +kernel, rfl, by decide +kernel, by decide +kernel⟩
theorem body__law_count (C : Ctx fa fn fb K mg) {fd : FuncData} {a : Addr} (F : FunD K (d__law_count).name (d__law_count).qual (d__law_count).params (d__law_count).body (d__law_count).scope ((d__law_count).dvs K) [] a fd) : FnOk P wd K mg base (L2.CX P wd) 1 a fd ["sizes"] (spD K 1 f__law_count .z) :=
  have S := sc__law_count
  fn_ok (w := [.z, .z, .z]) (w1 := [.z, .z, .z]) F S rfl rfl fun cdv A outer s H E hr => (ss_cons (w1 := [.z, .z, .z]) (s_set 1 e_int (hN := S.nd)) (ss_cons (w1 := [.z, .z, .z]) (s_for (vs := [2]) (i_seq (e_var 0)) (g_name 2 (hN := S.nd)) (ss_cons (w1 := [.z, .z, .z]) (s_set 1 (e_op op_mulA od_mul (e_var 1) (e_var 2)) (hN := S.nd)) ss_nil) (passes_of rfl)) (ss_cons (w1 := [.z, .z, .z]) (s_ret (e_var 1)) ss_nil)))
theorem ok__law_count (C : Ctx fa fn fb K mg) : Fn P wd K mg base 1 "_law_count" 1 [] f__law_count .z := by
  obtain ⟨fd, F⟩ := C.c.def_ 4 (d := d__law_count) rfl
  obtain ⟨us, hv, hb⟩ : ∃ us, Vals ([] : List V) us ∧ Binds K fd ["sizes"] us := ⟨[], .nil, F.bindsN fun _ _ _ _ _ _ us hl => match us, hl with | [_], _ => rfl⟩
  exact ⟨⟨_, fd, ["sizes"], [], us, C.glo 41, F.kp, hb, hv, fun _ => .nil, body__law_count C F⟩⟩
theorem sc__law_plays : FnScope ["sizes", "found", "size", "longer", "play", "choice"] ["sizes"] (defScope st__law_plays) := ⟨rfl, rfl, rfl, by decide +kernel, rfl, by decide +kernel, by decide +kernel⟩
theorem body__law_plays (C : Ctx fa fn fb K mg) {fd : FuncData} {a : Addr} (F : FunD K (d__law_plays).name (d__law_plays).qual (d__law_plays).params (d__law_plays).body (d__law_plays).scope ((d__law_plays).dvs K) [] a fd) : FnOk P wd K mg base (L2.CX P wd) 1 a fd ["sizes"] (spD K 1 f__law_plays .z) :=
  have S := sc__law_plays
  fn_ok (w := [.z, .z, .z, .z, .z, .z]) (w1 := [.z, .z, .z, .z, .z, .z]) F S rfl rfl fun cdv A outer s H E hr => (ss_cons (w1 := [.z, .z, .z, .z, .z, .z]) (s_set 1 (e_fz (e_lst (a_cons (e_tup a_nil) a_nil))) (hN := S.nd)) (ss_cons (w1 := [.z, .z, .z, .z, .z, .z]) (s_for (vs := [2]) (i_seq (e_var 0)) (g_name 2 (hN := S.nd)) (ss_cons (w1 := [.z, .z, .z, .l .z, .z, .z]) (s_set 3 (e_lst a_nil) (hN := S.nd)) (ss_cons (w1 := [.z, .z, .z, .l .z, .z, .z]) (s_for (vs := [4]) (i_seq (e_fz (e_callT call_list_of cd_lst (C.free 5) boot_list (a_cons (e_var 1) a_nil)))) (g_name 4 (hN := S.nd)) (ss_cons (w1 := [.z, .z, .z, .l .z, .z, .z]) (s_for (vs := [5]) (i_range1 (C.free 1) (a_cons (e_var 2) a_nil)) (g_name 5 (hN := S.nd)) (ss_cons (w1 := [.z, .z, .z, .l .z, .z, .z]) (s_app 3 (he := (e_op op_addAll od_add (e_var 4) (e_tup (a_cons (e_var 5) a_nil))))) ss_nil) (passes_of rfl)) ss_nil) (passes_of rfl)) (ss_fz (w' := [.z, .z, .z, .z, .z, .z]) (ss_cons (w1 := [.z, .z, .z, .z, .z, .z]) (s_set 1 (e_var 3) (hN := S.nd)) ss_nil)))) (passes_of rfl)) (ss_cons (w1 := [.z, .z, .z, .z, .z, .z]) (s_ret (e_var 1)) ss_nil)))
theorem ok__law_plays (C : Ctx fa fn fb K mg) : Fn P wd K mg base 1 "_law_plays" 1 [] f__law_plays .z := by
  obtain ⟨fd, F⟩ := C.c.def_ 5 (d := d__law_plays) rfl
  obtain ⟨us, hv, hb⟩ : ∃ us, Vals ([] : List V) us ∧ Binds K fd ["sizes"] us := ⟨[], .nil, F.bindsN fun _ _ _ _ _ _ us hl => match us, hl with | [_], _ => rfl⟩
  exact ⟨⟨_, fd, ["sizes"], [], us, C.glo 42, F.kp, hb, hv, fun _ => .nil, body__law_plays C F⟩⟩
theorem sc__law_pays : FnScope ["cell", "count", "kind", "row", "number"] ["cell", "count"] (defScope st__law_pays) := ⟨rfl, rfl, rfl, by decide +kernel, rfl, by decide +kernel, by decide +kernel⟩
theorem body__law_pays (C : Ctx fa fn fb K mg) {fd : FuncData} {a : Addr} (F : FunD K (d__law_pays).name (d__law_pays).qual (d__law_pays).params (d__law_pays).body (d__law_pays).scope ((d__law_pays).dvs K) [] a fd) : FnOk P wd K mg base (L2.CX P wd) 3 a fd ["cell", "count"] (spD K 2 f__law_pays .z) :=
  have S := sc__law_pays
  fn_ok (w := [.z, .z, .z, .z, .z]) (w1 := [.z, .z, .z, .z, .z]) F S rfl rfl fun cdv A outer s H E hr => (ss_cons (w1 := [.z, .z, .z, .z, .z]) (s_set 2 (e_op op_modA od_mod (e_callT call_int1 cd_int (C.free 2) boot_int (a_cons (e_call (ok__law_mix C) (hr.mono (by decide)) (takes_E rfl rfl rfl rfl) (a_cons (e_var 0) (a_cons e_int a_nil))) a_nil)) e_int) (hN := S.nd)) (ss_cons (w1 := [.z, .z, .z, .z, .z]) (s_set 3 (e_call (ok__law_row C) (hr.mono (by decide)) (takes_E rfl rfl rfl rfl) (a_cons (e_var 0) (a_cons (e_var 1) (a_cons e_int a_nil)))) (hN := S.nd)) (ss_cons (w1 := [.z, .z, .z, .z, .z]) (s_if (t_cmp (op_eqA hr.units) od_eq (e_var 2) e_int) (ss_cons (w1 := [.z, .z, .z, .z, .z]) (s_ret (e_fz (e_lc [("number", 4)] (i_seq (e_var 3)) (fun s22 H22 c22 cl22 fp22 => (g_name 4 (hN := S.nd))) (fun s22 H22 c22 cl22 fp22 => ts_nil) (fun s22 H22 c22 cl22 fp22 => (e_op (OpR.rI0 op_sub) od_sub (e_op op_modA od_mod (e_callT call_int1 cd_int (C.free 2) boot_int (a_cons (e_var 4) a_nil)) e_int) e_int)) (ok := by rfl) (hN := S.nd)))) ss_nil) ss_nil) (ss_cons (w1 := [.z, .z, .z, .z, .z]) (s_if (t_cmp (op_eqA hr.units) od_eq (e_var 2) e_int) (ss_cons (w1 := [.z, .z, .z, .z, .z]) (s_ret (e_fz (e_lc [("number", 4)] (i_seq (e_var 3)) (fun s26 H26 c26 cl26 fp26 => (g_name 4 (hN := S.nd))) (fun s26 H26 c26 cl26 fp26 => ts_nil) (fun s26 H26 c26 cl26 fp26 => (e_op (OpR.rI0 op_sub) od_sub (e_op op_modA od_mod (e_callT call_int1 cd_int (C.free 2) boot_int (a_cons (e_var 4) a_nil)) e_int) e_int)) (ok := by rfl) (hN := S.nd)))) ss_nil) ss_nil) (ss_cons (w1 := [.z, .z, .z, .z, .z]) (s_if (t_cmp (op_eqA hr.units) od_eq (e_var 2) e_int) (ss_cons (w1 := [.z, .z, .z, .z, .z]) (s_ret (e_fz (e_lc [("number", 4)] (i_seq (e_var 3)) (fun s30 H30 c30 cl30 fp30 => (g_name 4 (hN := S.nd))) (fun s30 H30 c30 cl30 fp30 => ts_nil) (fun s30 H30 c30 cl30 fp30 => (e_op (OpR.rI0 op_sub) od_sub (e_var 4) e_int)) (ok := by rfl) (hN := S.nd)))) ss_nil) ss_nil) (ss_cons (w1 := [.z, .z, .z, .z, .z]) (s_if (t_cmp (op_eqA hr.units) od_eq (e_var 2) e_int) (ss_cons (w1 := [.z, .z, .z, .z, .z]) (s_ret (e_fz (e_lc [("number", 4)] (i_seq (e_var 3)) (fun s34 H34 c34 cl34 fp34 => (g_name 4 (hN := S.nd))) (fun s34 H34 c34 cl34 fp34 => ts_nil) (fun s34 H34 c34 cl34 fp34 => (e_op op_addAll od_add (e_op op_mulA od_mul (e_op (OpR.rI0 op_sub) od_sub (e_var 4) e_int) (e_op op_pow od_pow e_int e_int)) (e_var 4))) (ok := by rfl) (hN := S.nd)))) ss_nil) ss_nil) (ss_cons (w1 := [.z, .z, .z, .z, .z]) (s_ret (e_fz (e_lc [("number", 4)] (i_seq (e_var 3)) (fun s36 H36 c36 cl36 fp36 => (g_name 4 (hN := S.nd))) (fun s36 H36 c36 cl36 fp36 => ts_nil) (fun s36 H36 c36 cl36 fp36 => (e_op op_mulA od_mul (e_op (OpR.rI0 op_sub) od_sub (e_op op_modA od_mod (e_callT call_int1 cd_int (C.free 2) boot_int (a_cons (e_var 4) a_nil)) e_int) e_int) e_int)) (ok := by rfl) (hN := S.nd)))) ss_nil)))))))
theorem ok__law_pays (C : Ctx fa fn fb K mg) : Fn P wd K mg base 3 "_law_pays" 2 [] f__law_pays .z := by
  obtain ⟨fd, F⟩ := C.c.def_ 6 (d := d__law_pays) rfl
  obtain ⟨us, hv, hb⟩ : ∃ us, Vals ([] : List V) us ∧ Binds K fd ["cell", "count"] us := ⟨[], .nil, F.bindsN fun _ _ _ _ _ _ us hl => match us, hl with | [_, _], _ => rfl⟩
  exact ⟨⟨_, fd, ["cell", "count"], [], us, C.glo 43, F.kp, hb, hv, fun _ => .nil, body__law_pays C F⟩⟩
theorem sc_count_plays : FnScope ["sizes", "count", "size"] ["sizes"] (defScope st_count_plays) := ⟨rfl, rfl, rfl, by decide +kernel, rfl, by decide +kernel, by decide +kernel⟩
theorem body_count_plays (C : Ctx fa fn fb K mg) {fd : FuncData} {a : Addr} (F : FunD K (d_count_plays).name (d_count_plays).qual (d_count_plays).params (d_count_plays).body (d_count_plays).scope ((d_count_plays).dvs K) [] a fd) : FnOk P wd K mg base (L2.CX P wd) 1 a fd ["sizes"] (spD K 1 f_count_plays .z) :=
  have S := sc_count_plays
  fn_ok (w := [.z, .z, .z]) (w1 := [.z, .z, .z]) F S rfl rfl fun cdv A outer s H E hr => (ss_cons (w1 := [.z, .z, .z]) (s_set 1 e_int (hN := S.nd)) (ss_cons (w1 := [.z, .z, .z]) (s_for (vs := [2]) (i_seq (e_var 0)) (g_name 2 (hN := S.nd)) (ss_cons (w1 := [.z, .z, .z]) (s_set 1 (e_op op_mulA od_mul (e_var 1) (e_var 2)) (hN := S.nd)) ss_nil) (passes_of rfl)) (ss_cons (w1 := [.z, .z, .z]) (s_ret (e_var 1)) ss_nil)))
theorem ok_count_plays (C : Ctx fa fn fb K mg) : Fn P wd K mg base 1 "count_plays" 1 [] f_count_plays .z := by
  obtain ⟨fd, F⟩ := C.c.def_ 7 (d := d_count_plays) rfl
  obtain ⟨us, hv, hb⟩ : ∃ us, Vals ([] : List V) us ∧ Binds K fd ["sizes"] us := ⟨[], .nil, F.bindsN fun _ _ _ _ _ _ us hl => match us, hl with | [_], _ => rfl⟩
  exact ⟨⟨_, fd, ["sizes"], [], us, C.glo 44, F.kp, hb, hv, fun _ => .nil, body_count_plays C F⟩⟩
theorem sc_check_sizes : FnScope ["sizes"] ["sizes"] (defScope st_check_sizes) := ⟨rfl, rfl, rfl, by decide +kernel, rfl, by decide +kernel, by decide +kernel⟩
theorem body_check_sizes (C : Ctx fa fn fb K mg) {fd : FuncData} {a : Addr} (F : FunD K (d_check_sizes).name (d_check_sizes).qual (d_check_sizes).params (d_check_sizes).body (d_check_sizes).scope ((d_check_sizes).dvs K) [] a fd) : FnOk P wd K mg base (L2.CX P wd) 2 a fd ["sizes"] (spD K 1 f_check_sizes .z) :=
  have S := sc_check_sizes
  fn_ok (w := [.z]) (w1 := [.z]) F S rfl rfl fun cdv A outer s H E hr => (ss_cons (w1 := [.z]) (s_if (PW.pt (w_or (t_cmp (op_eqA hr.units) od_eq (e_callB call_len cd_len (C.free 4) boot_len (a_cons (e_var 0) a_nil)) e_int) (w_or1 (t_cmp (OpR.rI0 op_lt) od_cmp (e_callB (cr_minA rfl) cd_min (C.free 6) boot_min (a_cons (e_var 0) a_nil)) e_int)))) (ss_cons (w1 := [.z]) (s_raise (C.rse 7 8) (takes_E rfl rfl rfl rfl)) ss_nil) ss_nil) (ss_cons (w1 := [.z]) (s_if (t_cmp (OpR.rI0 op_gt) od_cmp (e_callB call_len cd_len (C.free 4) boot_len (a_cons (e_var 0) a_nil)) (e_globI (C.int 9).choose_spec)) (ss_cons (w1 := [.z]) s_never ss_nil) ss_nil) (ss_cons (w1 := [.z]) (s_if (t_cmp (OpR.rI0 op_gt) od_cmp (e_callB (cr_maxA rfl) cd_max (C.free 3) boot_max (a_cons (e_var 0) a_nil)) (e_globI (C.int 10).choose_spec)) (ss_cons (w1 := [.z]) s_never ss_nil) ss_nil) (ss_cons (w1 := [.z]) (s_if (t_cmp (OpR.rI0 op_gt) od_cmp (e_call (ok_count_plays C) (hr.mono (by decide)) (takes_E rfl rfl rfl rfl) (a_cons (e_var 0) a_nil)) (e_globI (C.int 11).choose_spec)) (ss_cons (w1 := [.z]) s_never ss_nil) ss_nil) (ss_cons (w1 := [.z]) (s_ret (e_callT call_tuple_of cd_tup (C.free 12) boot_tuple (a_cons (e_var 0) a_nil))) ss_nil)))))
theorem ok_check_sizes (C : Ctx fa fn fb K mg) : Fn P wd K mg base 2 "check_sizes" 1 [] f_check_sizes .z := by
  obtain ⟨fd, F⟩ := C.c.def_ 8 (d := d_check_sizes) rfl
  obtain ⟨us, hv, hb⟩ : ∃ us, Vals ([] : List V) us ∧ Binds K fd ["sizes"] us := ⟨[], .nil, F.bindsN fun _ _ _ _ _ _ us hl => match us, hl with | [_], _ => rfl⟩
  exact ⟨⟨_, fd, ["sizes"], [], us, C.glo 45, F.kp, hb, hv, fun _ => .nil, body_check_sizes C F⟩⟩
theorem sc_divisor : FnScope ["row", "common", "number"] ["row", "common"] (defScope st_divisor) := ⟨rfl, rfl, rfl, by decide +kernel, rfl, by decide +kernel, by decide +kernel⟩
theorem body_divisor (C : Ctx fa fn fb K mg) {fd : FuncData} {a : Addr} (F : FunD K (d_divisor).name (d_divisor).qual (d_divisor).params (d_divisor).body (d_divisor).scope ((d_divisor).dvs K) [] a fd) : FnOk P wd K mg base (L2.CX P wd) 1 a fd ["row", "common"] (spD K 2 f_divisor .z) :=
  have S := sc_divisor
  fn_ok (w := [.z, .z, .z]) (w1 := [.z, .z, .z]) F S rfl rfl fun cdv A outer s H E hr => (ss_cons (w1 := [.z, .z, .z]) (s_for (vs := [2]) (i_seq (e_var 0)) (g_name 2 (hN := S.nd)) (ss_cons (w1 := [.z, .z, .z]) (s_set 1 (e_callM cr_gcd cd_gcd (C.blt 0) (a_cons (e_var 1) (a_cons (e_var 2) a_nil))) (hN := S.nd)) ss_nil) (passes_of rfl)) (ss_cons (w1 := [.z, .z, .z]) (s_ret (e_var 1)) ss_nil))
theorem ok_divisor (C : Ctx fa fn fb K mg) : Fn P wd K mg base 1 "divisor" 2 [] f_divisor .z := by
  obtain ⟨fd, F⟩ := C.c.def_ 9 (d := d_divisor) rfl
  obtain ⟨us, hv, hb⟩ : ∃ us, Vals ([] : List V) us ∧ Binds K fd ["row", "common"] us := ⟨[], .nil, F.bindsN fun _ _ _ _ _ _ us hl => match us, hl with | [_, _], _ => rfl⟩
  exact ⟨⟨_, fd, ["row", "common"], [], us, C.glo 46, F.kp, hb, hv, fun _ => .nil, body_divisor C F⟩⟩
theorem sc_Game_init : FnScope ["self", "sizes", "pays", "over", "count", "common", "row", "pay"] ["self", "sizes", "pays", "over"] (defScope st_Game_init) := ⟨rfl, rfl, rfl, by decide +kernel, rfl, by decide +kernel, by decide +kernel⟩
theorem body_Game_init (C : Ctx fa fn fb K mg) {fd : FuncData} {a : Addr} (F : FunD K "__init__" (d_Game_init).qual (d_Game_init).params (d_Game_init).body (d_Game_init).scope ((d_Game_init).dvs K) [] a fd) : FnOk P wd K mg base (L2.CX P wd) 3 a fd ["self", "sizes", "pays", "over"] (spI K "Game" 3 f_Game_init) :=
  have S := sc_Game_init
  init_ok (w := [.z, .z, .z, .z, .z, .z, .z]) F S rfl rfl fun x cdv A outer s H E hr => ⟨[.at x, .z, .z, .z, .z, .z, .z, .z], rfl, (ss_cons (w1 := [.at x, .z, .z, .z, .z, .z, .z, .z]) (s_fld 0 (he := (e_call (ok_check_sizes C) (hr.mono (by decide)) (takes_E rfl rfl rfl rfl) (a_cons (e_var 1) a_nil))) (hc := (FldOk.cons (C.cls 15) (C.noat 16) (FldOk.cons (C.cls 13) (C.noat 14) FldOk.nil)))) (ss_cons (w1 := [.at x, .z, .z, .z, .z, .z, .z, .z]) (s_if (PW.pt (w_or (t_cmp (op_neA hr.units) od_ne (e_callB call_len cd_len (C.free 4) boot_len (a_cons (e_var 2) a_nil)) (e_callB call_len cd_len (C.free 4) boot_len (a_cons (e_var 1) a_nil))) (w_or1 (t_cmp (OpR.rI0 op_lt) od_cmp (e_var 3) e_int)))) (ss_cons (w1 := [.at x, .z, .z, .z, .z, .z, .z, .z]) (s_raise (C.rse 7 8) (takes_E rfl rfl rfl rfl)) ss_nil) ss_nil) (ss_cons (w1 := [.at x, .z, .z, .z, .z, .z, .z, .z]) (s_set 4 (e_call (ok_count_plays C) (hr.mono (by decide)) (takes_E rfl rfl rfl rfl) (a_cons (e_var 1) a_nil)) (hN := S.nd)) (ss_cons (w1 := [.at x, .z, .z, .z, .z, .z, .z, .z]) (s_set 5 (e_var 3) (hN := S.nd)) (ss_cons (w1 := [.at x, .z, .z, .z, .z, .z, .z, .z]) (s_for (vs := [6]) (i_seq (e_var 2)) (g_name 6 (hN := S.nd)) (ss_cons (w1 := [.at x, .z, .z, .z, .z, .z, .z, .z]) (s_if (t_cmp (op_neA hr.units) od_ne (e_callB call_len cd_len (C.free 4) boot_len (a_cons (e_var 6) a_nil)) (e_var 4)) (ss_cons (w1 := [.at x, .z, .z, .z, .z, .z, .z, .z]) (s_raise (C.rse 7 8) (takes_E rfl rfl rfl rfl)) ss_nil) ss_nil) (ss_cons (w1 := [.at x, .z, .z, .z, .z, .z, .z, .z]) (s_set 5 (e_call (ok_divisor C) (hr.mono (by decide)) (takes_E rfl rfl rfl rfl) (a_cons (e_var 6) (a_cons (e_var 5) a_nil))) (hN := S.nd)) ss_nil)) (passes_of rfl)) (ss_cons (w1 := [.at x, .z, .z, .z, .z, .z, .z, .z]) (s_fld 0 (he := (e_callT call_tuple_of cd_tup (C.free 12) boot_tuple (a_cons (e_fz (e_lc [("row", 6)] (i_seq (e_var 2)) (fun s7 H7 c7 cl7 fp7 => (g_name 6 (hN := S.nd))) (fun s7 H7 c7 cl7 fp7 => ts_nil) (fun s7 H7 c7 cl7 fp7 => (e_callT call_tuple_of cd_tup (C.free 12) boot_tuple (a_cons (e_fz (e_lc [("pay", 7)] (i_seq (e_var 6)) (fun s8 H8 c8 cl8 fp8 => (g_name 7 (hN := S.nd))) (fun s8 H8 c8 cl8 fp8 => ts_nil) (fun s8 H8 c8 cl8 fp8 => (e_op op_divA od_div (e_var 7) (e_var 5))) (ok := by rfl) (hN := S.nd))) a_nil))) (ok := by rfl) (hN := S.nd))) a_nil))) (hc := (FldOk.cons (C.cls 13) (C.noat 17) FldOk.nil))) (ss_cons (w1 := [.at x, .z, .z, .z, .z, .z, .z, .z]) (s_fld 0 (he := (e_op op_divA od_div (e_var 3) (e_var 5))) (hc := (FldOk.cons (C.cls 15) (C.noat 19) (FldOk.cons (C.cls 13) (C.noat 18) FldOk.nil)))) ss_nil)))))))⟩
theorem ok_Game_init (C : Ctx fa fn fb K mg) : Mc P wd K mg base 3 "Game" 3 [] f_Game_init := by
  obtain ⟨fd, F⟩ := C.c.def_ 10 (d := d_Game_init) rfl
  obtain ⟨us, hv, hb⟩ := F.binds1 (ps := ["self", "sizes", "pays", "over"]) 4 1 (List.cons_ne_nil _ _) rfl fun T kV doc pm an cdv ct us its hu hi => match us, hu, its, hi with | [_, _, _, _], _, [_], _ => ⟨_, rfl, rfl⟩
  exact ⟨⟨_, fd, ["self", "sizes", "pays", "over"], _, us, C.glo 47, C.mkr 48, hb, hv, fun _ => .nil, body_Game_init C F⟩⟩
theorem sc__law_gcd : FnScope ["a", "b", "k", "left"] ["a", "b"] (defScope st__law_gcd) := ⟨rfl, rfl, rfl, by decide +kernel, rfl, by decide +kernel, by decide +kernel⟩
theorem body__law_gcd (C : Ctx fa fn fb K mg) {fd : FuncData} {a : Addr} (F : FunD K (d__law_gcd).name (d__law_gcd).qual (d__law_gcd).params (d__law_gcd).body (d__law_gcd).scope ((d__law_gcd).dvs K) [] a fd) : FnOk P wd K mg base (L2.CX P wd) 1 a fd ["a", "b"] (spD K 2 f__law_gcd .z) :=
  have S := sc__law_gcd
  fn_ok (w := [.z, .z, .z, .z]) (w1 := [.z, .z, .z, .z]) F S rfl rfl fun cdv A outer s H E hr => (ss_cons (w1 := [.z, .z, .z, .z]) (s_set 0 (e_callB call_abs cd_abs (C.free 0) boot_abs (a_cons (e_var 0) a_nil)) (hN := S.nd)) (ss_cons (w1 := [.z, .z, .z, .z]) (s_set 1 (e_callB call_abs cd_abs (C.free 0) boot_abs (a_cons (e_var 1) a_nil)) (hN := S.nd)) (ss_cons (w1 := [.z, .z, .z, .z]) (s_for (vs := [2]) (i_range1 (C.free 1) (a_cons e_int a_nil)) (g_name 2 (hN := S.nd)) (ss_cons (w1 := [.z, .z, .z, .z]) (s_if (t_cmp (op_eqA hr.units) od_eq (e_var 1) e_int) (ss_cons (w1 := [.z, .z, .z, .z]) (s_ret (e_var 0)) ss_nil) ss_nil) (ss_cons (w1 := [.z, .z, .z, .z]) (s_set 3 (e_op op_modA od_mod (e_callT call_int1 cd_int (C.free 2) boot_int (a_cons (e_var 0) a_nil)) (e_var 1)) (hN := S.nd)) (ss_cons (w1 := [.z, .z, .z, .z]) (s_set 0 (e_var 1) (hN := S.nd)) (ss_cons (w1 := [.z, .z, .z, .z]) (s_set 1 (e_var 3) (hN := S.nd)) ss_nil)))) (passes_of rfl)) (ss_cons (w1 := [.z, .z, .z, .z]) (s_ret (e_var 0)) ss_nil))))
theorem ok__law_gcd (C : Ctx fa fn fb K mg) : Fn P wd K mg base 1 "_law_gcd" 2 [] f__law_gcd .z := by
  obtain ⟨fd, F⟩ := C.c.def_ 11 (d := d__law_gcd) rfl
  obtain ⟨us, hv, hb⟩ : ∃ us, Vals ([] : List V) us ∧ Binds K fd ["a", "b"] us := ⟨[], .nil, F.bindsN fun _ _ _ _ _ _ us hl => match us, hl with | [_, _], _ => rfl⟩
  exact ⟨⟨_, fd, ["a", "b"], [], us, C.glo 49, F.kp, hb, hv, fun _ => .nil, body__law_gcd C F⟩⟩
theorem sc__law_place : FnScope ["sizes", "play", "at", "k"] ["sizes", "play"] (defScope st__law_place) := ⟨rfl, rfl, rfl, by decide +kernel, rfl, by decide +kernel, by decide +kernel⟩
theorem body__law_place (C : Ctx fa fn fb K mg) {fd : FuncData} {a : Addr} (F : FunD K (d__law_place).name (d__law_place).qual (d__law_place).params (d__law_place).body (d__law_place).scope ((d__law_place).dvs K) [] a fd) : FnOk P wd K mg base (L2.CX P wd) 1 a fd ["sizes", "play"] (spD K 2 f__law_place .z) :=
  have S := sc__law_place
  fn_ok (w := [.z, .z, .z, .z]) (w1 := [.z, .z, .z, .z]) F S rfl rfl fun cdv A outer s H E hr => (ss_cons (w1 := [.z, .z, .z, .z]) (s_set 2 e_int (hN := S.nd)) (ss_cons (w1 := [.z, .z, .z, .z]) (s_for (vs := [3]) (i_range1 (C.free 1) (a_cons (e_callB call_len cd_len (C.free 4) boot_len (a_cons (e_var 0) a_nil)) a_nil)) (g_name 3 (hN := S.nd)) (ss_cons (w1 := [.z, .z, .z, .z]) (s_set 2 (e_op op_addAll od_add (e_op op_mulA od_mul (e_var 2) (e_ix (e_var 0) (e_var 3))) (e_ix (e_var 1) (e_var 3))) (hN := S.nd)) ss_nil) (passes_of rfl)) (ss_cons (w1 := [.z, .z, .z, .z]) (s_ret (e_var 2)) ss_nil)))
theorem ok__law_place (C : Ctx fa fn fb K mg) : Fn P wd K mg base 1 "_law_place" 2 [] f__law_place .z := by
  obtain ⟨fd, F⟩ := C.c.def_ 12 (d := d__law_place) rfl
  obtain ⟨us, hv, hb⟩ : ∃ us, Vals ([] : List V) us ∧ Binds K fd ["sizes", "play"] us := ⟨[], .nil, F.bindsN fun _ _ _ _ _ _ us hl => match us, hl with | [_, _], _ => rfl⟩
  exact ⟨⟨_, fd, ["sizes", "play"], [], us, C.glo 50, F.kp, hb, hv, fun _ => .nil, body__law_place C F⟩⟩
theorem sc__law_gain : FnScope ["sizes", "rows", "play", "person", "choice", "there"] ["sizes", "rows", "play", "person", "choice"] (defScope st__law_gain) := ⟨rfl, rfl, rfl, by decide +kernel, rfl, by decide +kernel, by decide +kernel⟩
theorem body__law_gain (C : Ctx fa fn fb K mg) {fd : FuncData} {a : Addr} (F : FunD K (d__law_gain).name (d__law_gain).qual (d__law_gain).params (d__law_gain).body (d__law_gain).scope ((d__law_gain).dvs K) [] a fd) : FnOk P wd K mg base (L2.CX P wd) 2 a fd ["sizes", "rows", "play", "person", "choice"] (spD K 5 f__law_gain .z) :=
  have S := sc__law_gain
  fn_ok (w := [.z, .z, .z, .z, .z, .z]) (w1 := [.z, .z, .z, .z, .z, .z]) F S rfl rfl fun cdv A outer s H E hr => (ss_cons (w1 := [.z, .z, .z, .z, .z, .z]) (s_set 5 (e_op op_addAll od_add (e_op op_addAll od_add (e_slice (e_var 2) o_no (o_at (e_var 3))) (e_tup (a_cons (e_var 4) a_nil))) (e_slice (e_var 2) (o_at (e_op op_addAll od_add (e_var 3) e_int)) o_no)) (hN := S.nd)) (ss_cons (w1 := [.z, .z, .z, .z, .z, .z]) (s_ret (e_op (OpR.rI0 op_sub) od_sub (e_ix (e_ix (e_var 1) (e_var 3)) (e_call (ok__law_place C) (hr.mono (by decide)) (takes_E rfl rfl rfl rfl) (a_cons (e_var 0) (a_cons (e_var 5) a_nil)))) (e_ix (e_ix (e_var 1) (e_var 3)) (e_call (ok__law_place C) (hr.mono (by decide)) (takes_E rfl rfl rfl rfl) (a_cons (e_var 0) (a_cons (e_var 2) a_nil)))))) ss_nil))
theorem ok__law_gain (C : Ctx fa fn fb K mg) : Fn P wd K mg base 2 "_law_gain" 5 [] f__law_gain .z := by
  obtain ⟨fd, F⟩ := C.c.def_ 13 (d := d__law_gain) rfl
  obtain ⟨us, hv, hb⟩ : ∃ us, Vals ([] : List V) us ∧ Binds K fd ["sizes", "rows", "play", "person", "choice"] us := ⟨[], .nil, F.bindsN fun _ _ _ _ _ _ us hl => match us, hl with | [_, _, _, _, _], _ => rfl⟩
  exact ⟨⟨_, fd, ["sizes", "rows", "play", "person", "choice"], [], us, C.glo 51, F.kp, hb, hv, fun _ => .nil, body__law_gain C F⟩⟩
theorem sc_is_play : FnScope ["sizes", "play", "choice", "size"] ["sizes", "play"] (defScope st_is_play) := ⟨rfl, rfl, rfl, by decide +kernel, rfl, by decide +kernel, by decide +kernel⟩
theorem body_is_play (C : Ctx fa fn fb K mg) {fd : FuncData} {a : Addr} (F : FunD K (d_is_play).name (d_is_play).qual (d_is_play).params (d_is_play).body (d_is_play).scope ((d_is_play).dvs K) [] a fd) : FnOk P wd K mg base (L2.CX P wd) 1 a fd ["sizes", "play"] (spD K 2 f_is_play .z) :=
  have S := sc_is_play
  fn_ok (w := [.z, .z, .z, .z]) (w1 := [.z, .z, .z, .z]) F S rfl rfl fun cdv A outer s H E hr => (ss_cons (w1 := [.z, .z, .z, .z]) (s_if (t_cmp (op_neA hr.units) od_ne (e_callB call_len cd_len (C.free 4) boot_len (a_cons (e_var 1) a_nil)) (e_callB call_len cd_len (C.free 4) boot_len (a_cons (e_var 0) a_nil))) (ss_cons (w1 := [.z, .z, .z, .z]) (s_ret e_bl) ss_nil) ss_nil) (ss_cons (w1 := [.z, .z, .z, .z]) (s_for (vs := [2, 3]) (i_zip (C.free 20) (a_cons (e_var 1) (a_cons (e_var 0) a_nil))) (g_tup (gs_cons (g_name 2 (hN := S.nd)) (gs_cons (g_name 3 (hN := S.nd)) gs_nil))) (ss_cons (w1 := [.z, .z, .z, .z]) (s_if (t_not (t_chain (OpR.rI0 op_le) od_cmp (OpR.rI0 op_lt) od_cmp e_int (e_var 2) (e_var 3))) (ss_cons (w1 := [.z, .z, .z, .z]) (s_ret e_bl) ss_nil) ss_nil) ss_nil) (passes_of rfl)) (ss_cons (w1 := [.z, .z, .z, .z]) (s_ret e_bl) ss_nil)))
theorem ok_is_play (C : Ctx fa fn fb K mg) : Fn P wd K mg base 1 "is_play" 2 [] f_is_play .z := by
  obtain ⟨fd, F⟩ := C.c.def_ 14 (d := d_is_play) rfl
  obtain ⟨us, hv, hb⟩ : ∃ us, Vals ([] : List V) us ∧ Binds K fd ["sizes", "play"] us := ⟨[], .nil, F.bindsN fun _ _ _ _ _ _ us hl => match us, hl with | [_, _], _ => rfl⟩
  exact ⟨⟨_, fd, ["sizes", "play"], [], us, C.glo 52, F.kp, hb, hv, fun _ => .nil, body_is_play C F⟩⟩
theorem sc_place : FnScope ["sizes", "play", "at", "choice", "size"] ["sizes", "play"] (defScope st_place) := ⟨rfl, rfl, rfl, by decide +kernel, rfl, by decide +kernel, by decide +kernel⟩
theorem body_place (C : Ctx fa fn fb K mg) {fd : FuncData} {a : Addr} (F : FunD K (d_place).name (d_place).qual (d_place).params (d_place).body (d_place).scope ((d_place).dvs K) [] a fd) : FnOk P wd K mg base (L2.CX P wd) 2 a fd ["sizes", "play"] (spD K 2 f_place .z) :=
  have S := sc_place
  fn_ok (w := [.z, .z, .z, .z, .z]) (w1 := [.z, .z, .z, .z, .z]) F S rfl rfl fun cdv A outer s H E hr => (ss_cons (w1 := [.z, .z, .z, .z, .z]) (s_if (t_not (t_tru (e_call (ok_is_play C) (hr.mono (by decide)) (takes_E rfl rfl rfl rfl) (a_cons (e_var 0) (a_cons (e_var 1) a_nil))))) (ss_cons (w1 := [.z, .z, .z, .z, .z]) (s_raise (C.rse 21 22) (takes_E rfl rfl rfl rfl)) ss_nil) ss_nil) (ss_cons (w1 := [.z, .z, .z, .z, .z]) (s_set 2 e_int (hN := S.nd)) (ss_cons (w1 := [.z, .z, .z, .z, .z]) (s_for (vs := [3, 4]) (i_zip (C.free 20) (a_cons (e_var 1) (a_cons (e_var 0) a_nil))) (g_tup (gs_cons (g_name 3 (hN := S.nd)) (gs_cons (g_name 4 (hN := S.nd)) gs_nil))) (ss_cons (w1 := [.z, .z, .z, .z, .z]) (s_set 2 (e_op op_addAll od_add (e_op op_mulA od_mul (e_var 2) (e_var 4)) (e_var 3)) (hN := S.nd)) ss_nil) (passes_of rfl)) (ss_cons (w1 := [.z, .z, .z, .z, .z]) (s_ret (e_var 2)) ss_nil))))
theorem ok_place (C : Ctx fa fn fb K mg) : Fn P wd K mg base 2 "place" 2 [] f_place .z := by
  obtain ⟨fd, F⟩ := C.c.def_ 15 (d := d_place) rfl
  obtain ⟨us, hv, hb⟩ : ∃ us, Vals ([] : List V) us ∧ Binds K fd ["sizes", "play"] us := ⟨[], .nil, F.bindsN fun _ _ _ _ _ _ us hl => match us, hl with | [_, _], _ => rfl⟩
  exact ⟨⟨_, fd, ["sizes", "play"], [], us, C.glo 53, F.kp, hb, hv, fun _ => .nil, body_place C F⟩⟩
theorem sc_is_change : FnScope ["sizes", "person", "choice"] ["sizes", "person", "choice"] (defScope st_is_change) := ⟨rfl, rfl, rfl, by decide +kernel, rfl, by decide +kernel, by decide +kernel⟩
theorem body_is_change (C : Ctx fa fn fb K mg) {fd : FuncData} {a : Addr} (F : FunD K (d_is_change).name (d_is_change).qual (d_is_change).params (d_is_change).body (d_is_change).scope ((d_is_change).dvs K) [] a fd) : FnOk P wd K mg base (L2.CX P wd) 1 a fd ["sizes", "person", "choice"] (spD K 3 f_is_change .z) :=
  have S := sc_is_change
  fn_ok (w := [.z, .z, .z]) (w1 := [.z, .z, .z]) F S rfl rfl fun cdv A outer s H E hr => (ss_cons (w1 := [.z, .z, .z]) (s_ret (e_and (e_chain (OpR.rI0 op_le) od_cmp (OpR.rI0 op_lt) od_cmp e_int (e_var 1) (e_callB call_len cd_len (C.free 4) boot_len (a_cons (e_var 0) a_nil))) (e_one (e_chain (OpR.rI0 op_le) od_cmp (OpR.rI0 op_lt) od_cmp e_int (e_var 2) (e_ix (e_var 0) (e_var 1)))))) ss_nil)
theorem ok_is_change (C : Ctx fa fn fb K mg) : Fn P wd K mg base 1 "is_change" 3 [] f_is_change .z := by
  obtain ⟨fd, F⟩ := C.c.def_ 16 (d := d_is_change) rfl
  obtain ⟨us, hv, hb⟩ : ∃ us, Vals ([] : List V) us ∧ Binds K fd ["sizes", "person", "choice"] us := ⟨[], .nil, F.bindsN fun _ _ _ _ _ _ us hl => match us, hl with | [_, _, _], _ => rfl⟩
  exact ⟨⟨_, fd, ["sizes", "person", "choice"], [], us, C.glo 54, F.kp, hb, hv, fun _ => .nil, body_is_change C F⟩⟩
theorem sc_strides : FnScope ["sizes", "found", "step", "size"] ["sizes"] (defScope st_strides) := ⟨rfl, rfl, rfl, by decide +kernel, rfl, by decide +kernel, by decide +kernel⟩
theorem body_strides (C : Ctx fa fn fb K mg) {fd : FuncData} {a : Addr} (F : FunD K (d_strides).name (d_strides).qual (d_strides).params (d_strides).body (d_strides).scope ((d_strides).dvs K) [] a fd) : FnOk P wd K mg base (L2.CX P wd) 1 a fd ["sizes"] (spD K 1 f_strides .z) :=
  have S := sc_strides
  fn_ok (w := [.z, .z, .z, .z]) (w1 := [.z, .z, .z, .z]) F S rfl rfl fun cdv A outer s H E hr => (ss_cons (w1 := [.z, .l .z, .z, .z]) (s_set 1 (e_lst a_nil) (hN := S.nd)) (ss_cons (w1 := [.z, .l .z, .z, .z]) (s_set 2 e_int (hN := S.nd)) (ss_cons (w1 := [.z, .l .z, .z, .z]) (s_for (vs := [3]) (i_rev (C.free 23) (e_var 0)) (g_name 3 (hN := S.nd)) (ss_cons (w1 := [.z, .l .z, .z, .z]) (s_app 1 (he := (e_var 2))) (ss_cons (w1 := [.z, .l .z, .z, .z]) (s_set 2 (e_op op_mulA od_mul (e_var 2) (e_var 3)) (hN := S.nd)) ss_nil)) (passes_of rfl)) (ss_fz (w' := [.z, .z, .z, .z]) (ss_cons (w1 := [.z, .z, .z, .z]) (s_ret (e_tupRev (C.free 12) (C.free 23) (e_var 1))) ss_nil)))))
theorem ok_strides (C : Ctx fa fn fb K mg) : Fn P wd K mg base 1 "strides" 1 [] f_strides .z := by
  obtain ⟨fd, F⟩ := C.c.def_ 17 (d := d_strides) rfl
  obtain ⟨us, hv, hb⟩ : ∃ us, Vals ([] : List V) us ∧ Binds K fd ["sizes"] us := ⟨[], .nil, F.bindsN fun _ _ _ _ _ _ us hl => match us, hl with | [_], _ => rfl⟩
  exact ⟨⟨_, fd, ["sizes"], [], us, C.glo 55, F.kp, hb, hv, fun _ => .nil, body_strides C F⟩⟩
theorem sc_gain : FnScope ["game", "play", "person", "choice", "at", "row"] ["game", "play", "person", "choice"] (defScope st_gain) := ⟨rfl, rfl, rfl, by decide +kernel, rfl, by decide +kernel, by decide +kernel⟩
theorem body_gain (C : Ctx fa fn fb K mg) {fd : FuncData} {a : Addr} (F : FunD K (d_gain).name (d_gain).qual (d_gain).params (d_gain).body (d_gain).scope ((d_gain).dvs K) [] a fd) : FnOk P wd K mg base (L2.CX P wd) 3 a fd ["game", "play", "person", "choice"] (spD K 4 f_gain .z) :=
  have S := sc_gain
  fn_ok (w := [.z, .z, .z, .z, .z, .z]) (w1 := [.z, .z, .z, .z, .z, .z]) F S rfl rfl fun cdv A outer s H E hr => (ss_cons (w1 := [.z, .z, .z, .z, .z, .z]) (s_set 4 (e_call (ok_place C) (hr.mono (by decide)) (takes_E rfl rfl rfl rfl) (a_cons (e_fld (e_var 0) (FldOk.cons (C.cls 15) (C.noat 16) (FldOk.cons (C.cls 13) (C.noat 14) FldOk.nil))) (a_cons (e_var 1) a_nil))) (hN := S.nd)) (ss_cons (w1 := [.z, .z, .z, .z, .z, .z]) (s_if (t_not (t_tru (e_call (ok_is_change C) (hr.mono (by decide)) (takes_E rfl rfl rfl rfl) (a_cons (e_fld (e_var 0) (FldOk.cons (C.cls 15) (C.noat 16) (FldOk.cons (C.cls 13) (C.noat 14) FldOk.nil))) (a_cons (e_var 2) (a_cons (e_var 3) a_nil)))))) (ss_cons (w1 := [.z, .z, .z, .z, .z, .z]) (s_raise (C.rse 21 22) (takes_E rfl rfl rfl rfl)) ss_nil) ss_nil) (ss_cons (w1 := [.z, .z, .z, .z, .z, .z]) (s_set 5 (e_ix (e_fld (e_var 0) (FldOk.cons (C.cls 13) (C.noat 17) FldOk.nil)) (e_var 2)) (hN := S.nd)) (ss_cons (w1 := [.z, .z, .z, .z, .z, .z]) (s_ret (e_op (OpR.rI0 op_sub) od_sub (e_ix (e_var 5) (e_op op_addAll od_add (e_var 4) (e_op op_mulA od_mul (e_ix (e_call (ok_strides C) (hr.mono (by decide)) (takes_E rfl rfl rfl rfl) (a_cons (e_fld (e_var 0) (FldOk.cons (C.cls 15) (C.noat 16) (FldOk.cons (C.cls 13) (C.noat 14) FldOk.nil))) a_nil)) (e_var 2)) (e_op (OpR.rI0 op_sub) od_sub (e_var 3) (e_ix (e_var 1) (e_var 2)))))) (e_ix (e_var 5) (e_var 4)))) ss_nil))))
theorem ok_gain (C : Ctx fa fn fb K mg) : Fn P wd K mg base 3 "gain" 4 [] f_gain .z := by
  obtain ⟨fd, F⟩ := C.c.def_ 18 (d := d_gain) rfl
  obtain ⟨us, hv, hb⟩ : ∃ us, Vals ([] : List V) us ∧ Binds K fd ["game", "play", "person", "choice"] us := ⟨[], .nil, F.bindsN fun _ _ _ _ _ _ us hl => match us, hl with | [_, _, _, _], _ => rfl⟩
  exact ⟨⟨_, fd, ["game", "play", "person", "choice"], [], us, C.glo 56, F.kp, hb, hv, fun _ => .nil, body_gain C F⟩⟩
theorem sc__law_is_whole : FnScope ["actual"] ["actual"] (defScope st__law_is_whole) := ⟨rfl, rfl, rfl, by decide +kernel, rfl, by decide +kernel, by decide +kernel⟩
theorem body__law_is_whole (C : Ctx fa fn fb K mg) {fd : FuncData} {a : Addr} (F : FunD K (d__law_is_whole).name (d__law_is_whole).qual (d__law_is_whole).params (d__law_is_whole).body (d__law_is_whole).scope ((d__law_is_whole).dvs K) [] a fd) : FnOk P wd K mg base (L2.CX P wd) 1 a fd ["actual"] (spD K 1 f__law_is_whole .z) :=
  have S := sc__law_is_whole
  fn_ok (w := [.z]) (w1 := [.z]) F S rfl rfl fun cdv A outer s H E hr => (ss_cons (w1 := [.z]) (s_ret (e_and (e_isi .int boot_int (C.free 2) (C.free 24) (e_var 0)) (e_one (e_not (e_isi .bool boot_bool (C.free 25) (C.free 24) (e_var 0)))))) ss_nil)
theorem ok__law_is_whole (C : Ctx fa fn fb K mg) : Fn P wd K mg base 1 "_law_is_whole" 1 [] f__law_is_whole .z := by
  obtain ⟨fd, F⟩ := C.c.def_ 19 (d := d__law_is_whole) rfl
  obtain ⟨us, hv, hb⟩ : ∃ us, Vals ([] : List V) us ∧ Binds K fd ["actual"] us := ⟨[], .nil, F.bindsN fun _ _ _ _ _ _ us hl => match us, hl with | [_], _ => rfl⟩
  exact ⟨⟨_, fd, ["actual"], [], us, C.glo 57, F.kp, hb, hv, fun _ => .nil, body__law_is_whole C F⟩⟩
theorem sc_arcs : FnScope ["game", "at", "rule", "found", "steps", "person", "size", "step", "own", "base", "row", "here", "most", "choice", "there"] ["game", "at", "rule"] (defScope st_arcs) := ⟨rfl, rfl, rfl, by decide +kernel, rfl, by decide +kernel, by decide +kernel⟩
theorem body_arcs (C : Ctx fa fn fb K mg) {fd : FuncData} {a : Addr} (F : FunD K (d_arcs).name (d_arcs).qual (d_arcs).params (d_arcs).body (d_arcs).scope ((d_arcs).dvs K) [] a fd) : FnOk P wd K mg base (L2.CX P wd) 2 a fd ["game", "at", "rule"] (spD K 3 f_arcs .z) :=
  have S := sc_arcs
  fn_ok (w := [.z, .z, .z, .z, .z, .z, .z, .z, .z, .z, .z, .z, .z, .z, .z]) (w1 := [.z, .z, .z, .z, .z, .z, .z, .z, .z, .z, .z, .z, .z, .z, .z]) F S rfl rfl fun cdv A outer s H E hr => (ss_cons (w1 := [.z, .z, .z, .l .z, .z, .z, .z, .z, .z, .z, .z, .z, .z, .z, .z]) (s_set 3 (e_lst a_nil) (hN := S.nd)) (ss_cons (w1 := [.z, .z, .z, .l .z, .z, .z, .z, .z, .z, .z, .z, .z, .z, .z, .z]) (s_set 4 (e_call (ok_strides C) (hr.mono (by decide)) (takes_E rfl rfl rfl rfl) (a_cons (e_fld (e_var 0) (FldOk.cons (C.cls 15) (C.noat 16) (FldOk.cons (C.cls 13) (C.noat 14) FldOk.nil))) a_nil)) (hN := S.nd)) (ss_cons (w1 := [.z, .z, .z, .l .z, .z, .z, .z, .z, .z, .z, .z, .z, .z, .z, .z]) (s_for (vs := [5, 6]) (i_enum (C.free 26) (a_cons (e_fld (e_var 0) (FldOk.cons (C.cls 15) (C.noat 16) (FldOk.cons (C.cls 13) (C.noat 14) FldOk.nil))) a_nil)) (g_tup (gs_cons (g_name 5 (hN := S.nd)) (gs_cons (g_name 6 (hN := S.nd)) gs_nil))) (ss_cons (w1 := [.z, .z, .z, .l .z, .z, .z, .z, .z, .z, .z, .z, .z, .z, .z, .z]) (s_set 7 (e_ix (e_var 4) (e_var 5)) (hN := S.nd)) (ss_cons (w1 := [.z, .z, .z, .l .z, .z, .z, .z, .z, .z, .z, .z, .z, .z, .z, .z]) (s_set 8 (e_op op_modA od_mod (e_op op_divA od_div (e_var 1) (e_var 7)) (e_var 6)) (hN := S.nd)) (ss_cons (w1 := [.z, .z, .z, .l .z, .z, .z, .z, .z, .z, .z, .z, .z, .z, .z, .z]) (s_set 9 (e_op (OpR.rI0 op_sub) od_sub (e_var 1) (e_op op_mulA od_mul (e_var 8) (e_var 7))) (hN := S.nd)) (ss_cons (w1 := [.z, .z, .z, .l .z, .z, .z, .z, .z, .z, .z, .z, .z, .z, .z, .z]) (s_set 10 (e_ix (e_fld (e_var 0) (FldOk.cons (C.cls 13) (C.noat 17) FldOk.nil)) (e_var 5)) (hN := S.nd)) (ss_cons (w1 := [.z, .z, .z, .l .z, .z, .z, .z, .z, .z, .z, .z, .z, .z, .z, .z]) (s_set 11 (e_ix (e_var 10) (e_var 1)) (hN := S.nd)) (ss_cons (w1 := [.z, .z, .z, .l .z, .z, .z, .z, .z, .z, .z, .z, .z, .z, .z, .z]) (s_set 12 (e_callB (cr_maxA rfl) cd_max (C.free 3) boot_max (a_cons (e_fz (e_lc [("choice", 13)] (i_range1 (C.free 1) (a_cons (e_var 6) a_nil)) (fun s12 H12 c12 cl12 fp12 => (g_name 13 (hN := S.nd))) (fun s12 H12 c12 cl12 fp12 => ts_nil) (fun s12 H12 c12 cl12 fp12 => (e_ix (e_var 10) (e_op op_addAll od_add (e_var 9) (e_op op_mulA od_mul (e_var 7) (e_var 13))))) (ok := by rfl) (hN := S.nd))) a_nil)) (hN := S.nd)) (ss_cons (w1 := [.z, .z, .z, .l .z, .z, .z, .z, .z, .z, .z, .z, .z, .z, .z, .z]) (s_if (PW.pt (w_and (t_cmp (op_neA hr.units) od_ne (e_var 2) e_str) (w_and1 (t_cmp (op_eqA hr.units) od_eq (e_var 12) (e_var 11))))) (ss_cons (w1 := [.z, .z, .z, .l .z, .z, .z, .z, .z, .z, .z, .z, .z, .z, .z, .z]) s_cnt ss_nil) ss_nil) (ss_cons (w1 := [.z, .z, .z, .l .z, .z, .z, .z, .z, .z, .z, .z, .z, .z, .z, .z]) (s_for (vs := [13]) (i_range1 (C.free 1) (a_cons (e_var 6) a_nil)) (g_name 13 (hN := S.nd)) (ss_cons (w1 := [.z, .z, .z, .l .z, .z, .z, .z, .z, .z, .z, .z, .z, .z, .z, .z]) (s_set 14 (e_ix (e_var 10) (e_op op_addAll od_add (e_var 9) (e_op op_mulA od_mul (e_var 7) (e_var 13)))) (hN := S.nd)) (ss_cons (w1 := [.z, .z, .z, .l .z, .z, .z, .z, .z, .z, .z, .z, .z, .z, .z, .z]) (s_if (PW.pt (w_or (t_cmp (op_eqA hr.units) od_eq (e_var 13) (e_var 8)) (w_or1 (t_cmp (OpR.rI0 op_lt) od_cmp (e_var 14) (e_var 11))))) (ss_cons (w1 := [.z, .z, .z, .l .z, .z, .z, .z, .z, .z, .z, .z, .z, .z, .z, .z]) s_cnt ss_nil) ss_nil) (ss_cons (w1 := [.z, .z, .z, .l .z, .z, .z, .z, .z, .z, .z, .z, .z, .z, .z, .z]) (s_if (PW.pt (w_or (t_cmp (op_eqA hr.units) od_eq (e_var 2) e_str) (w_or1 (PW.pt (w_and (t_cmp (OpR.rI0 op_gt) od_cmp (e_var 14) (e_var 11)) (w_and1 (PW.pt (w_or (t_cmp (op_eqA hr.units) od_eq (e_var 2) e_str) (w_or1 (t_cmp (op_eqA hr.units) od_eq (e_var 14) (e_var 12))))))))))) (ss_cons (w1 := [.z, .z, .z, .l .z, .z, .z, .z, .z, .z, .z, .z, .z, .z, .z, .z]) (s_app 3 (he := (e_tup (a_cons (e_var 5) (a_cons (e_var 13) (a_cons (e_op op_addAll od_add (e_var 9) (e_op op_mulA od_mul (e_var 7) (e_var 13))) (a_cons (e_op (OpR.rI0 op_sub) od_sub (e_var 14) (e_var 11)) a_nil))))))) ss_nil) ss_nil) ss_nil))) (passes_of rfl)) ss_nil)))))))) (passes_of rfl)) (ss_fz (w' := [.z, .z, .z, .z, .z, .z, .z, .z, .z, .z, .z, .z, .z, .z, .z]) (ss_cons (w1 := [.z, .z, .z, .z, .z, .z, .z, .z, .z, .z, .z, .z, .z, .z, .z]) (s_ret (e_var 3)) ss_nil)))))
theorem ok_arcs (C : Ctx fa fn fb K mg) : Fn P wd K mg base 2 "arcs" 3 [] f_arcs .z := by
  obtain ⟨fd, F⟩ := C.c.def_ 20 (d := d_arcs) rfl
  obtain ⟨us, hv, hb⟩ : ∃ us, Vals ([] : List V) us ∧ Binds K fd ["game", "at", "rule"] us := ⟨[], .nil, F.bindsN fun _ _ _ _ _ _ us hl => match us, hl with | [_, _, _], _ => rfl⟩
  exact ⟨⟨_, fd, ["game", "at", "rule"], [], us, C.glo 58, F.kp, hb, hv, fun _ => .nil, body_arcs C F⟩⟩
theorem sc_moves : FnScope ["game", "play", "rule", "at", "person", "choice", "new", "more"] ["game", "play", "rule"] (defScope st_moves) := ⟨rfl, rfl, rfl, by decide +kernel, rfl, by decide +kernel, by decide +kernel⟩
theorem body_moves (C : Ctx fa fn fb K mg) {fd : FuncData} {a : Addr} (F : FunD K (d_moves).name (d_moves).qual (d_moves).params (d_moves).body (d_moves).scope ((d_moves).dvs K) [] a fd) : FnOk P wd K mg base (L2.CX P wd) 3 a fd ["game", "play", "rule"] (spD K 3 f_moves (.l .z)) :=
  have S := sc_moves
  fn_ok (w := [.z, .z, .z, .z, .z, .z, .z, .z]) (w1 := [.z, .z, .z, .z, .z, .z, .z, .z]) F S rfl rfl fun cdv A outer s H E hr => (ss_cons (w1 := [.z, .z, .z, .z, .z, .z, .z, .z]) (s_set 3 (e_call (ok_place C) (hr.mono (by decide)) (takes_E rfl rfl rfl rfl) (a_cons (e_fld (e_var 0) (FldOk.cons (C.cls 15) (C.noat 16) (FldOk.cons (C.cls 13) (C.noat 14) FldOk.nil))) (a_cons (e_var 1) a_nil))) (hN := S.nd)) (ss_cons (w1 := [.z, .z, .z, .z, .z, .z, .z, .z]) (s_ret (e_lc [("person", 4), ("choice", 5), ("new", 6), ("more", 7)] (i_seq (e_call (ok_arcs C) (hr.mono (by decide)) (takes_E rfl rfl rfl rfl) (a_cons (e_var 0) (a_cons (e_var 3) (a_cons (e_var 2) a_nil))))) (fun s4 H4 c4 cl4 fp4 => (g_tup (gs_cons (g_name 4 (hN := S.nd)) (gs_cons (g_name 5 (hN := S.nd)) (gs_cons (g_name 6 (hN := S.nd)) (gs_cons (g_name 7 (hN := S.nd)) gs_nil)))))) (fun s4 H4 c4 cl4 fp4 => ts_nil) (fun s4 H4 c4 cl4 fp4 => (e_tup (a_cons (e_var 4) (a_cons (e_var 5) a_nil)))) (ok := by rfl) (hN := S.nd))) ss_nil))
theorem ok_moves (C : Ctx fa fn fb K mg) : Fn P wd K mg base 3 "moves" 3 [] f_moves (.l .z) := by
  obtain ⟨fd, F⟩ := C.c.def_ 21 (d := d_moves) rfl
  obtain ⟨us, hv, hb⟩ : ∃ us, Vals ([] : List V) us ∧ Binds K fd ["game", "play", "rule"] us := ⟨[], .nil, F.bindsN fun _ _ _ _ _ _ us hl => match us, hl with | [_, _, _], _ => rfl⟩
  exact ⟨⟨_, fd, ["game", "play", "rule"], [], us, C.glo 59, F.kp, hb, hv, fun _ => .nil, body_moves C F⟩⟩
theorem sc__law_is_list : FnScope ["actual", "expected", "k", "j"] ["actual", "expected"] (defScope st__law_is_list) := ⟨rfl, rfl, rfl, by decide +kernel, rfl, by decide +kernel, by decide +kernel⟩
theorem body__law_is_list (C : Ctx fa fn fb K mg) {fd : FuncData} {a : Addr} (F : FunD K (d__law_is_list).name (d__law_is_list).qual (d__law_is_list).params (d__law_is_list).body (d__law_is_list).scope ((d__law_is_list).dvs K) [] a fd) : FnOk P wd K mg base (L2.CX P wd) 2 a fd ["actual", "expected"] (spD K 2 f__law_is_list .z) :=
  have S := sc__law_is_list
  fn_ok (w := [.z, .z, .z, .z]) (w1 := [.z, .z, .z, .z]) F S rfl rfl fun cdv A outer s H E hr => (ss_cons (w1 := [.z, .z, .z, .z]) (s_if (PW.pt (w_or (t_not (t_tru (e_isi .list boot_list (C.free 5) (C.free 24) (e_var 0)))) (w_or1 (t_cmp (op_neA hr.units) od_ne (e_callB call_len cd_len (C.free 4) boot_len (a_cons (e_var 0) a_nil)) (e_callB call_len cd_len (C.free 4) boot_len (a_cons (e_var 1) a_nil)))))) (ss_cons (w1 := [.z, .z, .z, .z]) (s_ret e_bl) ss_nil) ss_nil) (ss_cons (w1 := [.z, .z, .z, .z]) (s_for (vs := [2]) (i_range1 (C.free 1) (a_cons (e_callB call_len cd_len (C.free 4) boot_len (a_cons (e_var 1) a_nil)) a_nil)) (g_name 2 (hN := S.nd)) (ss_cons (w1 := [.z, .z, .z, .z]) (s_if (PW.pt (w_or (t_not (t_tru (e_isi .tuple boot_tuple (C.free 12) (C.free 24) (e_ix (e_var 0) (e_var 2))))) (w_or1 (t_cmp (op_neA hr.units) od_ne (e_callB call_len cd_len (C.free 4) boot_len (a_cons (e_ix (e_var 0) (e_var 2)) a_nil)) (e_callB call_len cd_len (C.free 4) boot_len (a_cons (e_ix (e_var 1) (e_var 2)) a_nil)))))) (ss_cons (w1 := [.z, .z, .z, .z]) (s_ret e_bl) ss_nil) ss_nil) (ss_cons (w1 := [.z, .z, .z, .z]) (s_for (vs := [3]) (i_range1 (C.free 1) (a_cons (e_callB call_len cd_len (C.free 4) boot_len (a_cons (e_ix (e_var 1) (e_var 2)) a_nil)) a_nil)) (g_name 3 (hN := S.nd)) (ss_cons (w1 := [.z, .z, .z, .z]) (s_if (PW.pt (w_or (t_not (t_tru (e_call (ok__law_is_whole C) (hr.mono (by decide)) (takes_E rfl rfl rfl rfl) (a_cons (e_ix (e_ix (e_var 0) (e_var 2)) (e_var 3)) a_nil)))) (w_or1 (t_cmp (op_neA hr.units) od_ne (e_ix (e_ix (e_var 0) (e_var 2)) (e_var 3)) (e_ix (e_ix (e_var 1) (e_var 2)) (e_var 3)))))) (ss_cons (w1 := [.z, .z, .z, .z]) (s_ret e_bl) ss_nil) ss_nil) ss_nil) (passes_of rfl)) ss_nil)) (passes_of rfl)) (ss_cons (w1 := [.z, .z, .z, .z]) (s_ret e_bl) ss_nil)))
theorem ok__law_is_list (C : Ctx fa fn fb K mg) : Fn P wd K mg base 2 "_law_is_list" 2 [] f__law_is_list .z := by
  obtain ⟨fd, F⟩ := C.c.def_ 22 (d := d__law_is_list) rfl
  obtain ⟨us, hv, hb⟩ : ∃ us, Vals ([] : List V) us ∧ Binds K fd ["actual", "expected"] us := ⟨[], .nil, F.bindsN fun _ _ _ _ _ _ us hl => match us, hl with | [_, _], _ => rfl⟩
  exact ⟨⟨_, fd, ["actual", "expected"], [], us, C.glo 60, F.kp, hb, hv, fun _ => .nil, body__law_is_list C F⟩⟩
theorem sc__law_moves : FnScope ["sizes", "rows", "play", "rule", "found", "person", "gains", "choice"] ["sizes", "rows", "play", "rule"] (defScope st__law_moves) := ⟨rfl, rfl, rfl, by decide +kernel, rfl, by decide +kernel, by decide +kernel⟩
theorem body__law_moves (C : Ctx fa fn fb K mg) {fd : FuncData} {a : Addr} (F : FunD K (d__law_moves).name (d__law_moves).qual (d__law_moves).params (d__law_moves).body (d__law_moves).scope ((d__law_moves).dvs K) [] a fd) : FnOk P wd K mg base (L2.CX P wd) 3 a fd ["sizes", "rows", "play", "rule"] (spD K 4 f__law_moves .z) :=
  have S := sc__law_moves
  fn_ok (w := [.z, .z, .z, .z, .z, .z, .z, .z]) (w1 := [.z, .z, .z, .z, .z, .z, .z, .z]) F S rfl rfl fun cdv A outer s H E hr => (ss_cons (w1 := [.z, .z, .z, .z, .l .z, .z, .z, .z]) (s_set 4 (e_lst a_nil) (hN := S.nd)) (ss_cons (w1 := [.z, .z, .z, .z, .l .z, .z, .z, .z]) (s_for (vs := [5]) (i_range1 (C.free 1) (a_cons (e_callB call_len cd_len (C.free 4) boot_len (a_cons (e_var 0) a_nil)) a_nil)) (g_name 5 (hN := S.nd)) (ss_cons (w1 := [.z, .z, .z, .z, .l .z, .z, .z, .z]) (s_setLcz 6 [("choice", 7)] (i_range1 (C.free 1) (a_cons (e_ix (e_var 0) (e_var 5)) a_nil)) (fun s24 H24 c24 cl24 fp24 => (g_name 7 (hN := S.nd))) (fun s24 H24 c24 cl24 fp24 => ts_nil) (fun s24 H24 c24 cl24 fp24 => (e_call (ok__law_gain C) (hr.mono (by decide)) takes_WF (a_cons (e_var 0) (a_cons (e_var 1) (a_cons (e_var 2) (a_cons (e_var 5) (a_cons (e_var 7) a_nil))))))) (ok := by rfl) (hN := S.nd)) (ss_cons (w1 := [.z, .z, .z, .z, .l .z, .z, .z, .z]) (s_for (vs := [7]) (i_range1 (C.free 1) (a_cons (e_ix (e_var 0) (e_var 5)) a_nil)) (g_name 7 (hN := S.nd)) (ss_cons (w1 := [.z, .z, .z, .z, .l .z, .z, .z, .z]) (s_if (t_cmp (op_eqA hr.units) od_eq (e_var 7) (e_ix (e_var 2) (e_var 5))) (ss_cons (w1 := [.z, .z, .z, .z, .l .z, .z, .z, .z]) s_cnt ss_nil) ss_nil) (ss_cons (w1 := [.z, .z, .z, .z, .l .z, .z, .z, .z]) (s_if (PW.pt (w_and (t_cmp (op_eqA hr.units) od_eq (e_var 3) e_str) (w_and1 (t_cmp (OpR.rI0 op_ge) od_cmp (e_ix (e_var 6) (e_var 7)) e_int)))) (ss_cons (w1 := [.z, .z, .z, .z, .l .z, .z, .z, .z]) (s_app 4 (he := (e_tup (a_cons (e_var 5) (a_cons (e_var 7) a_nil))))) ss_nil) ss_nil) (ss_cons (w1 := [.z, .z, .z, .z, .l .z, .z, .z, .z]) (s_if (PW.pt (w_and (t_cmp (op_eqA hr.units) od_eq (e_var 3) e_str) (w_and1 (t_cmp (OpR.rI0 op_gt) od_cmp (e_ix (e_var 6) (e_var 7)) e_int)))) (ss_cons (w1 := [.z, .z, .z, .z, .l .z, .z, .z, .z]) (s_app 4 (he := (e_tup (a_cons (e_var 5) (a_cons (e_var 7) a_nil))))) ss_nil) ss_nil) (ss_cons (w1 := [.z, .z, .z, .z, .l .z, .z, .z, .z]) (s_if (PW.pt (w_and (t_cmp (op_eqA hr.units) od_eq (e_var 3) e_str) (w_and (t_cmp (OpR.rI0 op_gt) od_cmp (e_ix (e_var 6) (e_var 7)) e_int) (w_and1 (t_cmp (op_eqA hr.units) od_eq (e_ix (e_var 6) (e_var 7)) (e_callB (cr_maxA rfl) cd_max (C.free 3) boot_max (a_cons (e_var 6) a_nil))))))) (ss_cons (w1 := [.z, .z, .z, .z, .l .z, .z, .z, .z]) (s_app 4 (he := (e_tup (a_cons (e_var 5) (a_cons (e_var 7) a_nil))))) ss_nil) ss_nil) ss_nil)))) (passes_of rfl)) ss_nil)) (passes_of rfl)) (ss_fz (w' := [.z, .z, .z, .z, .z, .z, .z, .z]) (ss_cons (w1 := [.z, .z, .z, .z, .z, .z, .z, .z]) (s_ret (e_var 4)) ss_nil))))
theorem ok__law_moves (C : Ctx fa fn fb K mg) : Fn P wd K mg base 3 "_law_moves" 4 [] f__law_moves .z := by
  obtain ⟨fd, F⟩ := C.c.def_ 23 (d := d__law_moves) rfl
  obtain ⟨us, hv, hb⟩ : ∃ us, Vals ([] : List V) us ∧ Binds K fd ["sizes", "rows", "play", "rule"] us := ⟨[], .nil, F.bindsN fun _ _ _ _ _ _ us hl => match us, hl with | [_, _, _, _], _ => rfl⟩
  exact ⟨⟨_, fd, ["sizes", "rows", "play", "rule"], [], us, C.glo 61, F.kp, hb, hv, fun _ => .nil, body__law_moves C F⟩⟩
theorem sc_slack : FnScope ["game", "play", "at", "person", "choice", "new", "more"] ["game", "play"] (defScope st_slack) := ⟨rfl, rfl, rfl, by decide +kernel, rfl, by decide +kernel, by decide +kernel⟩
theorem body_slack (C : Ctx fa fn fb K mg) {fd : FuncData} {a : Addr} (F : FunD K (d_slack).name (d_slack).qual (d_slack).params (d_slack).body (d_slack).scope ((d_slack).dvs K) [] a fd) : FnOk P wd K mg base (L2.CX P wd) 3 a fd ["game", "play"] (spD K 2 f_slack .z) :=
  have S := sc_slack
  fn_ok (w := [.z, .z, .z, .z, .z, .z, .z]) (w1 := [.z, .z, .z, .z, .z, .z, .z]) F S rfl rfl fun cdv A outer s H E hr => (ss_cons (w1 := [.z, .z, .z, .z, .z, .z, .z]) (s_set 2 (e_call (ok_place C) (hr.mono (by decide)) (takes_E rfl rfl rfl rfl) (a_cons (e_fld (e_var 0) (FldOk.cons (C.cls 15) (C.noat 16) (FldOk.cons (C.cls 13) (C.noat 14) FldOk.nil))) (a_cons (e_var 1) a_nil))) (hN := S.nd)) (ss_cons (w1 := [.z, .z, .z, .z, .z, .z, .z]) (s_ret (e_callB (cr_maxA rfl) cd_max (C.free 3) boot_max (a_cons (e_fz (e_op op_cat od_addL (e_fz (e_lst (a_cons e_int a_nil))) (e_fz (e_lc [("person", 3), ("choice", 4), ("new", 5), ("more", 6)] (i_seq (e_call (ok_arcs C) (hr.mono (by decide)) (takes_E rfl rfl rfl rfl) (a_cons (e_var 0) (a_cons (e_var 2) (a_cons e_str a_nil))))) (fun s4 H4 c4 cl4 fp4 => (g_tup (gs_cons (g_name 3 (hN := S.nd)) (gs_cons (g_name 4 (hN := S.nd)) (gs_cons (g_name 5 (hN := S.nd)) (gs_cons (g_name 6 (hN := S.nd)) gs_nil)))))) (fun s4 H4 c4 cl4 fp4 => ts_nil) (fun s4 H4 c4 cl4 fp4 => (e_var 6)) (ok := by rfl) (hN := S.nd))))) a_nil))) ss_nil))
theorem ok_slack (C : Ctx fa fn fb K mg) : Fn P wd K mg base 3 "slack" 2 [] f_slack .z := by
  obtain ⟨fd, F⟩ := C.c.def_ 24 (d := d_slack) rfl
  obtain ⟨us, hv, hb⟩ : ∃ us, Vals ([] : List V) us ∧ Binds K fd ["game", "play"] us := ⟨[], .nil, F.bindsN fun _ _ _ _ _ _ us hl => match us, hl with | [_, _], _ => rfl⟩
  exact ⟨⟨_, fd, ["game", "play"], [], us, C.glo 62, F.kp, hb, hv, fun _ => .nil, body_slack C F⟩⟩
theorem sc__law_at_play : FnScope ["game", "sizes", "rows", "play", "most", "person", "choice", "due", "told", "rule"] ["game", "sizes", "rows", "play"] (defScope st__law_at_play) := ⟨rfl, rfl, rfl, by decide +kernel, rfl, by decide +kernel, by decide +kernel⟩
theorem body__law_at_play (C : Ctx fa fn fb K mg) {fd : FuncData} {a : Addr} (F : FunD K (d__law_at_play).name (d__law_at_play).qual (d__law_at_play).params (d__law_at_play).body (d__law_at_play).scope ((d__law_at_play).dvs K) [] a fd) : FnOk P wd K mg base (L2.CX P wd) 4 a fd ["game", "sizes", "rows", "play"] (spD K 4 f__law_at_play .z) :=
  have S := sc__law_at_play
  fn_ok (w := [.z, .z, .z, .z, .z, .z, .z, .z, .z, .z]) (w1 := [.z, .z, .z, .z, .z, .z, .z, .z, .z, .z]) F S rfl rfl fun cdv A outer s H E hr => (ss_cons (w1 := [.z, .z, .z, .z, .z, .z, .z, .z, .z, .z]) (s_set 4 e_int (hN := S.nd)) (ss_cons (w1 := [.z, .z, .z, .z, .z, .z, .z, .z, .z, .z]) (s_for (vs := [5]) (i_range1 (C.free 1) (a_cons (e_callB call_len cd_len (C.free 4) boot_len (a_cons (e_var 1) a_nil)) a_nil)) (g_name 5 (hN := S.nd)) (ss_cons (w1 := [.z, .z, .z, .z, .z, .z, .z, .z, .z, .z]) (s_for (vs := [6]) (i_range1 (C.free 1) (a_cons (e_ix (e_var 1) (e_var 5)) a_nil)) (g_name 6 (hN := S.nd)) (ss_cons (w1 := [.z, .z, .z, .z, .z, .z, .z, .z, .z, .z]) (s_set 7 (e_call (ok__law_gain C) (hr.mono (by decide)) (takes_E rfl rfl rfl rfl) (a_cons (e_var 1) (a_cons (e_var 2) (a_cons (e_var 3) (a_cons (e_var 5) (a_cons (e_var 6) a_nil)))))) (hN := S.nd)) (ss_cons (w1 := [.z, .z, .z, .z, .z, .z, .z, .z, .z, .z]) (s_set 8 (e_call (ok_gain C) (hr.mono (by decide)) (takes_E rfl rfl rfl rfl) (a_cons (e_var 0) (a_cons (e_var 3) (a_cons (e_var 5) (a_cons (e_var 6) a_nil))))) (hN := S.nd)) (ss_cons (w1 := [.z, .z, .z, .z, .z, .z, .z, .z, .z, .z]) (s_if (PW.pt (w_or (t_not (t_tru (e_call (ok__law_is_whole C) (hr.mono (by decide)) (takes_E rfl rfl rfl rfl) (a_cons (e_var 8) a_nil)))) (w_or1 (t_cmp (op_neA hr.units) od_ne (e_var 8) (e_var 7))))) (ss_cons (w1 := [.z, .z, .z, .z, .z, .z, .z, .z, .z, .z]) (s_ret e_bl) ss_nil) ss_nil) (ss_cons (w1 := [.z, .z, .z, .z, .z, .z, .z, .z, .z, .z]) (s_set 4 (e_callB (cr_maxA rfl) cd_max (C.free 3) boot_max (a_cons (e_var 4) (a_cons (e_var 7) a_nil))) (hN := S.nd)) ss_nil)))) (passes_of rfl)) ss_nil) (passes_of rfl)) (ss_cons (w1 := [.z, .z, .z, .z, .z, .z, .z, .z, .z, .z]) (s_for (vs := [9]) (i_seq (e_fz (e_lst (a_cons e_str (a_cons e_str (a_cons e_str a_nil)))))) (g_name 9 (hN := S.nd)) (ss_cons (w1 := [.z, .z, .z, .z, .z, .z, .z, .z, .l .z, .z]) (s_set 8 (e_call (ok_moves C) (hr.mono (by decide)) (takes_E rfl rfl rfl rfl) (a_cons (e_var 0) (a_cons (e_var 3) (a_cons (e_var 9) a_nil)))) (hN := S.nd)) (ss_cons (w1 := [.z, .z, .z, .z, .z, .z, .z, .z, .l .z, .z]) (s_if (t_not (t_tru (e_bor (w' := [.z, .z, .z, .z, .z, .z, .z, .z, .z, .z]) (e_call (ok__law_is_list C) (hr.mono (by decide)) (takes_E rfl rfl rfl rfl) (a_cons (e_var 8) (a_cons (e_call (ok__law_moves C) (hr.mono (by decide)) (takes_E rfl rfl rfl rfl) (a_cons (e_var 1) (a_cons (e_var 2) (a_cons (e_var 3) (a_cons (e_var 9) a_nil))))) a_nil)))))) (ss_cons (w1 := [.z, .z, .z, .z, .z, .z, .z, .z, .l .z, .z]) (s_ret e_bl) ss_nil) ss_nil) (ss_cons (w1 := [.z, .z, .z, .z, .z, .z, .z, .z, .l .z, .z]) (s_app 8 (he := (e_tup (a_cons e_int (a_cons e_int a_nil))))) (ss_cons (w1 := [.z, .z, .z, .z, .z, .z, .z, .z, .l .z, .z]) (s_if (t_not (t_tru (e_call (ok__law_is_list C) (hr.mono (by decide)) (takes_E rfl rfl rfl rfl) (a_cons (e_fz (e_call (ok_moves C) (hr.mono (by decide)) (takes_E rfl rfl rfl rfl) (a_cons (e_var 0) (a_cons (e_var 3) (a_cons (e_var 9) a_nil))))) (a_cons (e_call (ok__law_moves C) (hr.mono (by decide)) (takes_E rfl rfl rfl rfl) (a_cons (e_var 1) (a_cons (e_var 2) (a_cons (e_var 3) (a_cons (e_var 9) a_nil))))) a_nil))))) (ss_cons (w1 := [.z, .z, .z, .z, .z, .z, .z, .z, .l .z, .z]) (s_ret e_bl) ss_nil) ss_nil) ss_end)))) (passes_of rfl)) (ss_cons (w1 := [.z, .z, .z, .z, .z, .z, .z, .z, .z, .z]) (s_set 8 (e_call (ok_slack C) (hr.mono (by decide)) (takes_E rfl rfl rfl rfl) (a_cons (e_var 0) (a_cons (e_var 3) a_nil))) (hN := S.nd)) (ss_cons (w1 := [.z, .z, .z, .z, .z, .z, .z, .z, .z, .z]) (s_ret (e_and (e_call (ok__law_is_whole C) (hr.mono (by decide)) (takes_E rfl rfl rfl rfl) (a_cons (e_var 8) a_nil)) (e_one (e_cmp (op_eqA hr.units) od_eq (e_var 8) (e_var 4))))) ss_nil)))))
theorem ok__law_at_play (C : Ctx fa fn fb K mg) : Fn P wd K mg base 4 "_law_at_play" 4 [] f__law_at_play .z := by
  obtain ⟨fd, F⟩ := C.c.def_ 25 (d := d__law_at_play) rfl
  obtain ⟨us, hv, hb⟩ : ∃ us, Vals ([] : List V) us ∧ Binds K fd ["game", "sizes", "rows", "play"] us := ⟨[], .nil, F.bindsN fun _ _ _ _ _ _ us hl => match us, hl with | [_, _, _, _], _ => rfl⟩
  exact ⟨⟨_, fd, ["game", "sizes", "rows", "play"], [], us, C.glo 63, F.kp, hb, hv, fun _ => .nil, body__law_at_play C F⟩⟩
theorem sc_play_at : FnScope ["sizes", "at", "found", "size"] ["sizes", "at"] (defScope st_play_at) := ⟨rfl, rfl, rfl, by decide +kernel, rfl, by decide +kernel, by decide +kernel⟩
theorem body_play_at (C : Ctx fa fn fb K mg) {fd : FuncData} {a : Addr} (F : FunD K (d_play_at).name (d_play_at).qual (d_play_at).params (d_play_at).body (d_play_at).scope ((d_play_at).dvs K) [] a fd) : FnOk P wd K mg base (L2.CX P wd) 2 a fd ["sizes", "at"] (spD K 2 f_play_at .z) :=
  have S := sc_play_at
  fn_ok (w := [.z, .z, .z, .z]) (w1 := [.z, .z, .z, .z]) F S rfl rfl fun cdv A outer s H E hr => (ss_cons (w1 := [.z, .z, .z, .z]) (s_if (t_not (t_chain (OpR.rI0 op_le) od_cmp (OpR.rI0 op_lt) od_cmp e_int (e_var 1) (e_call (ok_count_plays C) (hr.mono (by decide)) (takes_E rfl rfl rfl rfl) (a_cons (e_var 0) a_nil)))) (ss_cons (w1 := [.z, .z, .z, .z]) (s_raise (C.rse 21 22) (takes_E rfl rfl rfl rfl)) ss_nil) ss_nil) (ss_cons (w1 := [.z, .z, .l .z, .z]) (s_set 2 (e_lst a_nil) (hN := S.nd)) (ss_cons (w1 := [.z, .z, .l .z, .z]) (s_for (vs := [3]) (i_rev (C.free 23) (e_var 0)) (g_name 3 (hN := S.nd)) (ss_cons (w1 := [.z, .z, .l .z, .z]) (s_app 2 (he := (e_op op_modA od_mod (e_var 1) (e_var 3)))) (ss_cons (w1 := [.z, .z, .l .z, .z]) (s_set 1 (e_op op_divA od_div (e_var 1) (e_var 3)) (hN := S.nd)) ss_nil)) (passes_of rfl)) (ss_fz (w' := [.z, .z, .z, .z]) (ss_cons (w1 := [.z, .z, .z, .z]) (s_ret (e_tupRev (C.free 12) (C.free 23) (e_var 2))) ss_nil)))))
theorem ok_play_at (C : Ctx fa fn fb K mg) : Fn P wd K mg base 2 "play_at" 2 [] f_play_at .z := by
  obtain ⟨fd, F⟩ := C.c.def_ 26 (d := d_play_at) rfl
  obtain ⟨us, hv, hb⟩ : ∃ us, Vals ([] : List V) us ∧ Binds K fd ["sizes", "at"] us := ⟨[], .nil, F.bindsN fun _ _ _ _ _ _ us hl => match us, hl with | [_, _], _ => rfl⟩
  exact ⟨⟨_, fd, ["sizes", "at"], [], us, C.glo 64, F.kp, hb, hv, fun _ => .nil, body_play_at C F⟩⟩
theorem sc_rests : FnScope ["game", "found", "at"] ["game"] (defScope st_rests) := ⟨rfl, rfl, rfl, by decide +kernel, rfl, by decide +kernel, by decide +kernel⟩
theorem body_rests (C : Ctx fa fn fb K mg) {fd : FuncData} {a : Addr} (F : FunD K (d_rests).name (d_rests).qual (d_rests).params (d_rests).body (d_rests).scope ((d_rests).dvs K) [] a fd) : FnOk P wd K mg base (L2.CX P wd) 3 a fd ["game"] (spD K 1 f_rests (.l .z)) :=
  have S := sc_rests
  fn_ok (w := [.z, .z, .z]) (w1 := [.z, .z, .z]) F S rfl rfl fun cdv A outer s H E hr => (ss_cons (w1 := [.z, .l .z, .z]) (s_set 1 (e_lst a_nil) (hN := S.nd)) (ss_cons (w1 := [.z, .l .z, .z]) (s_for (vs := [2]) (i_range1 (C.free 1) (a_cons (e_call (ok_count_plays C) (hr.mono (by decide)) (takes_E rfl rfl rfl rfl) (a_cons (e_fld (e_var 0) (FldOk.cons (C.cls 15) (C.noat 16) (FldOk.cons (C.cls 13) (C.noat 14) FldOk.nil))) a_nil)) a_nil)) (g_name 2 (hN := S.nd)) (ss_cons (w1 := [.z, .l .z, .z]) (s_if (t_cmp (op_eqA hr.units) od_eq (e_callB call_len cd_len (C.free 4) boot_len (a_cons (e_call (ok_arcs C) (hr.mono (by decide)) (takes_E rfl rfl rfl rfl) (a_cons (e_var 0) (a_cons (e_var 2) (a_cons e_str a_nil)))) a_nil)) e_int) (ss_cons (w1 := [.z, .l .z, .z]) (s_app 1 (he := (e_call (ok_play_at C) (hr.mono (by decide)) (takes_E rfl rfl rfl rfl) (a_cons (e_fld (e_var 0) (FldOk.cons (C.cls 15) (C.noat 16) (FldOk.cons (C.cls 13) (C.noat 14) FldOk.nil))) (a_cons (e_var 2) a_nil))))) ss_nil) ss_nil) ss_nil) (passes_of rfl)) (ss_cons (w1 := [.z, .z, .z]) (s_retO 1) ss_nil)))
theorem ok_rests (C : Ctx fa fn fb K mg) : Fn P wd K mg base 3 "rests" 1 [] f_rests (.l .z) := by
  obtain ⟨fd, F⟩ := C.c.def_ 27 (d := d_rests) rfl
  obtain ⟨us, hv, hb⟩ : ∃ us, Vals ([] : List V) us ∧ Binds K fd ["game"] us := ⟨[], .nil, F.bindsN fun _ _ _ _ _ _ us hl => match us, hl with | [_], _ => rfl⟩
  exact ⟨⟨_, fd, ["game"], [], us, C.glo 65, F.kp, hb, hv, fun _ => .nil, body_rests C F⟩⟩
theorem sc__law_bad_play : FnScope ["sizes", "play", "draw", "kind", "k"] ["sizes", "play", "draw"] (defScope st__law_bad_play) := ⟨rfl, rfl, rfl, by decide +kernel, rfl, by decide +kernel, by decide +kernel⟩
theorem body__law_bad_play (C : Ctx fa fn fb K mg) {fd : FuncData} {a : Addr} (F : FunD K (d__law_bad_play).name (d__law_bad_play).qual (d__law_bad_play).params (d__law_bad_play).body (d__law_bad_play).scope ((d__law_bad_play).dvs K) [] a fd) : FnOk P wd K mg base (L2.CX P wd) 1 a fd ["sizes", "play", "draw"] (spD K 3 f__law_bad_play .z) :=
  have S := sc__law_bad_play
  fn_ok (w := [.z, .z, .z, .z, .z]) (w1 := [.z, .z, .z, .z, .z]) F S rfl rfl fun cdv A outer s H E hr => (ss_cons (w1 := [.z, .z, .z, .z, .z]) (s_set 3 (e_op op_modA od_mod (e_callT call_int1 cd_int (C.free 2) boot_int (a_cons (e_var 2) a_nil)) e_int) (hN := S.nd)) (ss_cons (w1 := [.z, .z, .z, .z, .z]) (s_set 4 (e_op op_modA od_mod (e_callT call_int1 cd_int (C.free 2) boot_int (a_cons (e_op op_divA od_div (e_var 2) e_int) a_nil)) (e_callB call_len cd_len (C.free 4) boot_len (a_cons (e_var 0) a_nil))) (hN := S.nd)) (ss_cons (w1 := [.z, .z, .z, .z, .z]) (s_if (t_cmp (op_eqA hr.units) od_eq (e_var 3) e_int) (ss_cons (w1 := [.z, .z, .z, .z, .z]) (s_ret (e_op op_addAll od_add (e_slice (e_var 1) o_no (o_at (e_var 4))) (e_slice (e_var 1) (o_at (e_op op_addAll od_add (e_var 4) e_int)) o_no))) ss_nil) ss_nil) (ss_cons (w1 := [.z, .z, .z, .z, .z]) (s_if (t_cmp (op_eqA hr.units) od_eq (e_var 3) e_int) (ss_cons (w1 := [.z, .z, .z, .z, .z]) (s_ret (e_op op_addAll od_add (e_var 1) (e_tup (a_cons e_int a_nil)))) ss_nil) ss_nil) (ss_cons (w1 := [.z, .z, .z, .z, .z]) (s_if (t_cmp (op_eqA hr.units) od_eq (e_var 3) e_int) (ss_cons (w1 := [.z, .z, .z, .z, .z]) (s_ret (e_op op_addAll od_add (e_op op_addAll od_add (e_slice (e_var 1) o_no (o_at (e_var 4))) (e_tup (a_cons (e_neg e_int) a_nil))) (e_slice (e_var 1) (o_at (e_op op_addAll od_add (e_var 4) e_int)) o_no))) ss_nil) ss_nil) (ss_cons (w1 := [.z, .z, .z, .z, .z]) (s_ret (e_op op_addAll od_add (e_op op_addAll od_add (e_slice (e_var 1) o_no (o_at (e_var 4))) (e_tup (a_cons (e_ix (e_var 0) (e_var 4)) a_nil))) (e_slice (e_var 1) (o_at (e_op op_addAll od_add (e_var 4) e_int)) o_no))) ss_nil))))))
theorem ok__law_bad_play (C : Ctx fa fn fb K mg) : Fn P wd K mg base 1 "_law_bad_play" 3 [] f__law_bad_play .z := by
  obtain ⟨fd, F⟩ := C.c.def_ 28 (d := d__law_bad_play) rfl
  obtain ⟨us, hv, hb⟩ : ∃ us, Vals ([] : List V) us ∧ Binds K fd ["sizes", "play", "draw"] us := ⟨[], .nil, F.bindsN fun _ _ _ _ _ _ us hl => match us, hl with | [_, _, _], _ => rfl⟩
  exact ⟨⟨_, fd, ["sizes", "play", "draw"], [], us, C.glo 66, F.kp, hb, hv, fun _ => .nil, body__law_bad_play C F⟩⟩
theorem sc_Game_pay : FnScope ["self", "play", "person", "at"] ["self", "play", "person"] (defScope st_Game_pay) := ⟨rfl, rfl, rfl, by decide +kernel, rfl, by decide +kernel, by decide +kernel⟩
theorem body_Game_pay (C : Ctx fa fn fb K mg) {fd : FuncData} {a : Addr} (F : FunD K (d_Game_pay).name (d_Game_pay).qual (d_Game_pay).params (d_Game_pay).body (d_Game_pay).scope ((d_Game_pay).dvs K) [] a fd) : FnOk P wd K mg base (L2.CX P wd) 3 a fd ["self", "play", "person"] (spD K 3 f_Game_pay .z) :=
  have S := sc_Game_pay
  fn_ok (w := [.z, .z, .z, .z]) (w1 := [.z, .z, .z, .z]) F S rfl rfl fun cdv A outer s H E hr => (ss_cons (w1 := [.z, .z, .z, .z]) (s_set 3 (e_call (ok_place C) (hr.mono (by decide)) (takes_E rfl rfl rfl rfl) (a_cons (e_fld (e_var 0) (FldOk.cons (C.cls 15) (C.noat 16) (FldOk.cons (C.cls 13) (C.noat 14) FldOk.nil))) (a_cons (e_var 1) a_nil))) (hN := S.nd)) (ss_cons (w1 := [.z, .z, .z, .z]) (s_if (t_not (t_chain (OpR.rI0 op_le) od_cmp (OpR.rI0 op_lt) od_cmp e_int (e_var 2) (e_callB call_len cd_len (C.free 4) boot_len (a_cons (e_fld (e_var 0) (FldOk.cons (C.cls 15) (C.noat 16) (FldOk.cons (C.cls 13) (C.noat 14) FldOk.nil))) a_nil)))) (ss_cons (w1 := [.z, .z, .z, .z]) (s_raise (C.rse 21 22) (takes_E rfl rfl rfl rfl)) ss_nil) ss_nil) (ss_cons (w1 := [.z, .z, .z, .z]) (s_ret (e_ix (e_ix (e_fld (e_var 0) (FldOk.cons (C.cls 13) (C.noat 17) FldOk.nil)) (e_var 2)) (e_var 3))) ss_nil)))
theorem ok_Game_pay (C : Ctx fa fn fb K mg) : Mt P wd K mg base 3 "Game" "pay" 3 [] f_Game_pay .z := by
  obtain ⟨fd, F⟩ := C.c.def_ 29 (d := d_Game_pay) rfl
  obtain ⟨us, hv, hb⟩ : ∃ us, Vals ([] : List V) us ∧ Binds K fd ["self", "play", "person"] us := ⟨[], .nil, F.bindsN fun _ _ _ _ _ _ us hl => match us, hl with | [_, _, _], _ => rfl⟩
  exact ⟨⟨_, fd, ["self", "play", "person"], [], us, C.cls 13, C.meth 27, hb, hv, fun _ => .nil, body_Game_pay C F⟩⟩
theorem sc_Table_init : FnScope ["self", "sizes", "numbers", "over", "common", "number"] ["self", "sizes", "numbers", "over"] (defScope st_Table_init) := ⟨rfl, rfl, rfl, by decide +kernel, rfl, by decide +kernel, by decide +kernel⟩
theorem body_Table_init (C : Ctx fa fn fb K mg) {fd : FuncData} {a : Addr} (F : FunD K "__init__" (d_Table_init).qual (d_Table_init).params (d_Table_init).body (d_Table_init).scope ((d_Table_init).dvs K) [] a fd) : FnOk P wd K mg base (L2.CX P wd) 3 a fd ["self", "sizes", "numbers", "over"] (spI K "Table" 3 f_Table_init) :=
  have S := sc_Table_init
  init_ok (w := [.z, .z, .z, .z, .z]) F S rfl rfl fun x cdv A outer s H E hr => ⟨[.at x, .z, .z, .z, .z, .z], rfl, (ss_cons (w1 := [.at x, .z, .z, .z, .z, .z]) (s_fld 0 (he := (e_call (ok_check_sizes C) (hr.mono (by decide)) (takes_E rfl rfl rfl rfl) (a_cons (e_var 1) a_nil))) (hc := (FldOk.cons (C.cls 15) (C.noat 16) (FldOk.cons (C.cls 13) (C.noat 14) FldOk.nil)))) (ss_cons (w1 := [.at x, .z, .z, .z, .z, .z]) (s_if (PW.pt (w_or (t_cmp (op_neA hr.units) od_ne (e_callB call_len cd_len (C.free 4) boot_len (a_cons (e_var 2) a_nil)) (e_call (ok_count_plays C) (hr.mono (by decide)) (takes_E rfl rfl rfl rfl) (a_cons (e_var 1) a_nil))) (w_or1 (t_cmp (OpR.rI0 op_lt) od_cmp (e_var 3) e_int)))) (ss_cons (w1 := [.at x, .z, .z, .z, .z, .z]) (s_raise (C.rse 7 8) (takes_E rfl rfl rfl rfl)) ss_nil) ss_nil) (ss_cons (w1 := [.at x, .z, .z, .z, .z, .z]) (s_set 4 (e_call (ok_divisor C) (hr.mono (by decide)) (takes_E rfl rfl rfl rfl) (a_cons (e_var 2) (a_cons (e_var 3) a_nil))) (hN := S.nd)) (ss_cons (w1 := [.at x, .z, .z, .z, .z, .z]) (s_fld 0 (he := (e_callT call_tuple_of cd_tup (C.free 12) boot_tuple (a_cons (e_fz (e_lc [("number", 5)] (i_seq (e_var 2)) (fun s4 H4 c4 cl4 fp4 => (g_name 5 (hN := S.nd))) (fun s4 H4 c4 cl4 fp4 => ts_nil) (fun s4 H4 c4 cl4 fp4 => (e_op op_divA od_div (e_var 5) (e_var 4))) (ok := by rfl) (hN := S.nd))) a_nil))) (hc := (FldOk.cons (C.cls 15) (C.noat 28) FldOk.nil))) (ss_cons (w1 := [.at x, .z, .z, .z, .z, .z]) (s_fld 0 (he := (e_op op_divA od_div (e_var 3) (e_var 4))) (hc := (FldOk.cons (C.cls 15) (C.noat 19) (FldOk.cons (C.cls 13) (C.noat 18) FldOk.nil)))) ss_nil)))))⟩
theorem ok_Table_init (C : Ctx fa fn fb K mg) : Mc P wd K mg base 3 "Table" 3 [] f_Table_init := by
  obtain ⟨fd, F⟩ := C.c.def_ 30 (d := d_Table_init) rfl
  obtain ⟨us, hv, hb⟩ := F.binds1 (ps := ["self", "sizes", "numbers", "over"]) 4 1 (List.cons_ne_nil _ _) rfl fun T kV doc pm an cdv ct us its hu hi => match us, hu, its, hi with | [_, _, _, _], _, [_], _ => ⟨_, rfl, rfl⟩
  exact ⟨⟨_, fd, ["self", "sizes", "numbers", "over"], _, us, C.glo 67, C.mkr 68, hb, hv, fun _ => .nil, body_Table_init C F⟩⟩
theorem sc_Game_row : FnScope ["self", "person"] ["self", "person"] (defScope st_Game_row) := ⟨rfl, rfl, rfl, by decide +kernel, rfl, by decide +kernel, by decide +kernel⟩
theorem body_Game_row (C : Ctx fa fn fb K mg) {fd : FuncData} {a : Addr} (F : FunD K (d_Game_row).name (d_Game_row).qual (d_Game_row).params (d_Game_row).body (d_Game_row).scope ((d_Game_row).dvs K) [] a fd) : FnOk P wd K mg base (L2.CX P wd) 5 a fd ["self", "person"] (spD K 2 f_Game_row .z) :=
  have S := sc_Game_row
  fn_ok (w := [.z, .z]) (w1 := [.z, .z]) F S rfl rfl fun cdv A outer s H E hr => (ss_cons (w1 := [.z, .z]) (s_if (t_not (t_chain (OpR.rI0 op_le) od_cmp (OpR.rI0 op_lt) od_cmp e_int (e_var 1) (e_callB call_len cd_len (C.free 4) boot_len (a_cons (e_fld (e_var 0) (FldOk.cons (C.cls 15) (C.noat 16) (FldOk.cons (C.cls 13) (C.noat 14) FldOk.nil))) a_nil)))) (ss_cons (w1 := [.z, .z]) (s_raise (C.rse 21 22) (takes_E rfl rfl rfl rfl)) ss_nil) ss_nil) (ss_cons (w1 := [.z, .z]) (s_ret (e_fz (e_make (ok_Table_init C) (hr.mono (by decide)) (takes_E rfl rfl rfl rfl) (a_cons (e_fld (e_var 0) (FldOk.cons (C.cls 15) (C.noat 16) (FldOk.cons (C.cls 13) (C.noat 14) FldOk.nil))) (a_cons (e_ix (e_fld (e_var 0) (FldOk.cons (C.cls 13) (C.noat 17) FldOk.nil)) (e_var 1)) (a_cons (e_fld (e_var 0) (FldOk.cons (C.cls 15) (C.noat 19) (FldOk.cons (C.cls 13) (C.noat 18) FldOk.nil))) a_nil)))))) ss_nil))
theorem ok_Game_row (C : Ctx fa fn fb K mg) : Mt P wd K mg base 5 "Game" "row" 2 [] f_Game_row .z := by
  obtain ⟨fd, F⟩ := C.c.def_ 31 (d := d_Game_row) rfl
  obtain ⟨us, hv, hb⟩ : ∃ us, Vals ([] : List V) us ∧ Binds K fd ["self", "person"] us := ⟨[], .nil, F.bindsN fun _ _ _ _ _ _ us hl => match us, hl with | [_, _], _ => rfl⟩
  exact ⟨⟨_, fd, ["self", "person"], [], us, C.cls 13, C.meth 29, hb, hv, fun _ => .nil, body_Game_row C F⟩⟩
theorem sc_Table_at : FnScope ["self", "play"] ["self", "play"] (defScope st_Table_at) := ⟨rfl, rfl, rfl, by decide +kernel, rfl, by decide +kernel, by decide +kernel⟩
theorem body_Table_at (C : Ctx fa fn fb K mg) {fd : FuncData} {a : Addr} (F : FunD K (d_Table_at).name (d_Table_at).qual (d_Table_at).params (d_Table_at).body (d_Table_at).scope ((d_Table_at).dvs K) [] a fd) : FnOk P wd K mg base (L2.CX P wd) 3 a fd ["self", "play"] (spD K 2 f_Table_at .z) :=
  have S := sc_Table_at
  fn_ok (w := [.z, .z]) (w1 := [.z, .z]) F S rfl rfl fun cdv A outer s H E hr => (ss_cons (w1 := [.z, .z]) (s_ret (e_ix (e_fld (e_var 0) (FldOk.cons (C.cls 15) (C.noat 28) FldOk.nil)) (e_call (ok_place C) (hr.mono (by decide)) (takes_E rfl rfl rfl rfl) (a_cons (e_fld (e_var 0) (FldOk.cons (C.cls 15) (C.noat 16) (FldOk.cons (C.cls 13) (C.noat 14) FldOk.nil))) (a_cons (e_var 1) a_nil))))) ss_nil)
theorem ok_Table_at (C : Ctx fa fn fb K mg) : Mt P wd K mg base 3 "Table" "at" 2 [] f_Table_at .z := by
  obtain ⟨fd, F⟩ := C.c.def_ 32 (d := d_Table_at) rfl
  obtain ⟨us, hv, hb⟩ : ∃ us, Vals ([] : List V) us ∧ Binds K fd ["self", "play"] us := ⟨[], .nil, F.bindsN fun _ _ _ _ _ _ us hl => match us, hl with | [_, _], _ => rfl⟩
  exact ⟨⟨_, fd, ["self", "play"], [], us, C.cls 15, C.meth 30, hb, hv, fun _ => .nil, body_Table_at C F⟩⟩
theorem sc_Game_with_pay : FnScope ["self", "play", "person", "a", "b", "at", "pays", "row", "pay"] ["self", "play", "person", "a", "b"] (defScope st_Game_with_pay) := ⟨rfl, rfl, rfl, by decide +kernel, rfl, by decide +kernel, by decide +kernel⟩
theorem body_Game_with_pay (C : Ctx fa fn fb K mg) {fd : FuncData} {a : Addr} (F : FunD K (d_Game_with_pay).name (d_Game_with_pay).qual (d_Game_with_pay).params (d_Game_with_pay).body (d_Game_with_pay).scope ((d_Game_with_pay).dvs K) [] a fd) : FnOk P wd K mg base (L2.CX P wd) 5 a fd ["self", "play", "person", "a", "b"] (spD K 5 f_Game_with_pay .z) :=
  have S := sc_Game_with_pay
  fn_ok (w := [.z, .z, .z, .z, .z, .z, .z, .z, .z]) (w1 := [.z, .z, .z, .z, .z, .z, .z, .z, .z]) F S rfl rfl fun cdv A outer s H E hr => (ss_cons (w1 := [.z, .z, .z, .z, .z, .z, .z, .z, .z]) (s_set 5 (e_call (ok_place C) (hr.mono (by decide)) (takes_E rfl rfl rfl rfl) (a_cons (e_fld (e_var 0) (FldOk.cons (C.cls 15) (C.noat 16) (FldOk.cons (C.cls 13) (C.noat 14) FldOk.nil))) (a_cons (e_var 1) a_nil))) (hN := S.nd)) (ss_cons (w1 := [.z, .z, .z, .z, .z, .z, .z, .z, .z]) (s_if (t_not (t_chain (OpR.rI0 op_le) od_cmp (OpR.rI0 op_lt) od_cmp e_int (e_var 2) (e_callB call_len cd_len (C.free 4) boot_len (a_cons (e_fld (e_var 0) (FldOk.cons (C.cls 15) (C.noat 16) (FldOk.cons (C.cls 13) (C.noat 14) FldOk.nil))) a_nil)))) (ss_cons (w1 := [.z, .z, .z, .z, .z, .z, .z, .z, .z]) (s_raise (C.rse 21 22) (takes_E rfl rfl rfl rfl)) ss_nil) ss_nil) (ss_cons (w1 := [.z, .z, .z, .z, .z, .z, .z, .z, .z]) (s_if (t_cmp (OpR.rI0 op_lt) od_cmp (e_var 4) e_int) (ss_cons (w1 := [.z, .z, .z, .z, .z, .z, .z, .z, .z]) (s_raise (C.rse 7 8) (takes_E rfl rfl rfl rfl)) ss_nil) ss_nil) (ss_cons (w1 := [.z, .z, .z, .z, .z, .z, .l (.l .z), .z, .z]) (s_setLc 6 [("row", 7)] (i_seq (e_fld (e_var 0) (FldOk.cons (C.cls 13) (C.noat 17) FldOk.nil))) (fun s15 H15 c15 cl15 fp15 => (g_name 7 (hN := S.nd))) (fun s15 H15 c15 cl15 fp15 => ts_nil) (fun s15 H15 c15 cl15 fp15 => (e_lc [("pay", 8)] (i_seq (e_var 7)) (fun s16 H16 c16 cl16 fp16 => (g_name 8 (hN := S.nd))) (fun s16 H16 c16 cl16 fp16 => ts_nil) (fun s16 H16 c16 cl16 fp16 => (e_op op_mulA od_mul (e_var 8) (e_var 4))) (ok := by rfl) (hN := S.nd))) (ok := by rfl) (hN := S.nd)) (ss_cons (w1 := [.z, .z, .z, .z, .z, .z, .l (.l .z), .z, .z]) (s_put2 6 (he := (e_op op_mulA od_mul (e_var 3) (e_fld (e_var 0) (FldOk.cons (C.cls 15) (C.noat 19) (FldOk.cons (C.cls 13) (C.noat 18) FldOk.nil))))) (hx := (e_var 2)) (hy := (e_var 5))) (ss_fz (w' := [.z, .z, .z, .z, .z, .z, .z, .z, .z]) (ss_cons (w1 := [.z, .z, .z, .z, .z, .z, .z, .z, .z]) (s_ret (e_fz (e_make (ok_Game_init C) (hr.mono (by decide)) (takes_E rfl rfl rfl rfl) (a_cons (e_fld (e_var 0) (FldOk.cons (C.cls 15) (C.noat 16) (FldOk.cons (C.cls 13) (C.noat 14) FldOk.nil))) (a_cons (e_var 6) (a_cons (e_op op_mulA od_mul (e_fld (e_var 0) (FldOk.cons (C.cls 15) (C.noat 19) (FldOk.cons (C.cls 13) (C.noat 18) FldOk.nil))) (e_var 4)) a_nil)))))) ss_nil)))))))
theorem ok_Game_with_pay (C : Ctx fa fn fb K mg) : Mt P wd K mg base 5 "Game" "with_pay" 5 [] f_Game_with_pay .z := by
  obtain ⟨fd, F⟩ := C.c.def_ 33 (d := d_Game_with_pay) rfl
  obtain ⟨us, hv, hb⟩ := F.binds1 (ps := ["self", "play", "person", "a", "b"]) 5 1 (List.cons_ne_nil _ _) rfl fun T kV doc pm an cdv ct us its hu hi => match us, hu, its, hi with | [_, _, _, _, _], _, [_], _ => ⟨_, rfl, rfl⟩
  exact ⟨⟨_, fd, ["self", "play", "person", "a", "b"], _, us, C.cls 13, C.meth 31, hb, hv, fun _ => .nil, body_Game_with_pay C F⟩⟩
theorem ok_Game_with_pay_d1 (C : Ctx fa fn fb K mg) : Mt P wd K mg base 5 "Game" "with_pay" 5 [.int 1] f_Game_with_pay .z := by
  obtain ⟨fd, F⟩ := C.c.def_ 33 (d := d_Game_with_pay) rfl
  obtain ⟨us, hv, hb⟩ := F.binds1 (ps := ["self", "play", "person", "a", "b"]) 4 0 (List.cons_ne_nil _ _) rfl fun T kV doc pm an cdv ct us its hu hi => match us, hu, its, hi with | [_, _, _, _], _, [_], _ => ⟨_, rfl, rfl⟩
  exact ⟨⟨_, fd, ["self", "play", "person", "a", "b"], _, us, C.cls 13, C.meth 31, hb, hv, fun _ => .cons (.int _) (.nil), body_Game_with_pay C F⟩⟩
theorem sc__law_refuses : FnScope ["deed", "game", "play", "bad", "person", "choice", "told", "e"] ["deed", "game", "play", "bad", "person", "choice"] (defScope st__law_refuses) := ⟨rfl, rfl, rfl, by decide +kernel, rfl, by decide +kernel, by decide +kernel⟩
theorem body__law_refuses (C : Ctx fa fn fb K mg) {fd : FuncData} {a : Addr} (F : FunD K (d__law_refuses).name (d__law_refuses).qual (d__law_refuses).params (d__law_refuses).body (d__law_refuses).scope ((d__law_refuses).dvs K) [] a fd) : FnOk P wd K mg base (L2.CX P wd) 6 a fd ["deed", "game", "play", "bad", "person", "choice"] (spD K 6 f__law_refuses .z) :=
  have S := sc__law_refuses
  fn_ok (w := [.z, .z, .z, .z, .z, .z, .z, .z]) (w1 := [.z, .z, .z, .z, .z, .z, .z, .z]) F S rfl rfl fun cdv A outer s H E hr => (ss_cons (w1 := [.z, .z, .z, .z, .z, .z, .z, .z]) (s_set 6 e_int (hN := S.nd)) (ss_cons (w1 := [.z, .z, .z, .z, .z, .z, .z, .z]) (s_try 7 [.z, .z, .z, .z, .z, .z, .z, .z] [("Fault", true), ("BadGame", true), ("BadPlay", true)] _ (fun W pn xe tk hp => (ss_cons (w1 := [.z, .z, .z, .z, .z, .z, .z, .z]) (s_if (t_cmp (op_eqA hr.units) od_eq (e_var 0) e_int) (ss_cons (w1 := [.z, .z, .z, .z, .z, .z, .z, .z]) (s_set 6 (e_call (ok_gain C) (hr.mono (by decide)) tk (a_cons (e_var 1) (a_cons (e_var 3) (a_cons e_int (a_cons e_int a_nil))))) (hN := S.nd)) ss_nil) (ss_cons (w1 := [.z, .z, .z, .z, .z, .z, .z, .z]) (s_if (t_cmp (op_eqA hr.units) od_eq (e_var 0) e_int) (ss_cons (w1 := [.z, .z, .z, .z, .z, .z, .z, .z]) (s_set 6 (e_call (ok_gain C) (hr.mono (by decide)) tk (a_cons (e_var 1) (a_cons (e_var 2) (a_cons (e_var 4) (a_cons e_int a_nil))))) (hN := S.nd)) ss_nil) (ss_cons (w1 := [.z, .z, .z, .z, .z, .z, .z, .z]) (s_if (t_cmp (op_eqA hr.units) od_eq (e_var 0) e_int) (ss_cons (w1 := [.z, .z, .z, .z, .z, .z, .z, .z]) (s_set 6 (e_call (ok_gain C) (hr.mono (by decide)) tk (a_cons (e_var 1) (a_cons (e_var 2) (a_cons e_int (a_cons (e_var 5) a_nil))))) (hN := S.nd)) ss_nil) (ss_cons (w1 := [.z, .z, .z, .z, .z, .z, .z, .z]) (s_if (t_cmp (op_eqA hr.units) od_eq (e_var 0) e_int) (ss_cons (w1 := [.z, .z, .z, .z, .z, .z, .z, .z]) (s_set 6 (e_fz (e_call (ok_moves C) (hr.mono (by decide)) tk (a_cons (e_var 1) (a_cons (e_var 3) (a_cons e_str a_nil))))) (hN := S.nd)) ss_nil) (ss_cons (w1 := [.z, .z, .z, .z, .z, .z, .z, .z]) (s_if (t_cmp (op_eqA hr.units) od_eq (e_var 0) e_int) (ss_cons (w1 := [.z, .z, .z, .z, .z, .z, .z, .z]) (s_set 6 (e_call (ok_slack C) (hr.mono (by decide)) tk (a_cons (e_var 1) (a_cons (e_var 3) a_nil))) (hN := S.nd)) ss_nil) (ss_cons (w1 := [.z, .z, .z, .z, .z, .z, .z, .z]) (s_if (t_cmp (op_eqA hr.units) od_eq (e_var 0) e_int) (ss_cons (w1 := [.z, .z, .z, .z, .z, .z, .z, .z]) (s_set 6 (e_meth (ok_Game_pay C) (hr.mono (by decide)) tk (e_var 1) (a_cons (e_var 3) (a_cons e_int a_nil))) (hN := S.nd)) ss_nil) (ss_cons (w1 := [.z, .z, .z, .z, .z, .z, .z, .z]) (s_if (t_cmp (op_eqA hr.units) od_eq (e_var 0) e_int) (ss_cons (w1 := [.z, .z, .z, .z, .z, .z, .z, .z]) (s_set 6 (e_meth (ok_Game_pay C) (hr.mono (by decide)) tk (e_var 1) (a_cons (e_var 2) (a_cons (e_var 4) a_nil))) (hN := S.nd)) ss_nil) (ss_cons (w1 := [.z, .z, .z, .z, .z, .z, .z, .z]) (s_if (t_cmp (op_eqA hr.units) od_eq (e_var 0) e_int) (ss_cons (w1 := [.z, .z, .z, .z, .z, .z, .z, .z]) (s_set 6 (e_meth (ok_Game_row C) (hr.mono (by decide)) tk (e_var 1) (a_cons (e_var 4) a_nil)) (hN := S.nd)) ss_nil) (ss_cons (w1 := [.z, .z, .z, .z, .z, .z, .z, .z]) (s_if (t_cmp (op_eqA hr.units) od_eq (e_var 0) e_int) (ss_cons (w1 := [.z, .z, .z, .z, .z, .z, .z, .z]) (s_set 6 (e_meth (ok_Table_at C) (hr.mono (by decide)) tk (e_meth (ok_Game_row C) (hr.mono (by decide)) tk (e_var 1) (a_cons e_int a_nil)) (a_cons (e_var 3) a_nil)) (hN := S.nd)) ss_nil) (ss_cons (w1 := [.z, .z, .z, .z, .z, .z, .z, .z]) (s_if (t_cmp (op_eqA hr.units) od_eq (e_var 0) e_int) (ss_cons (w1 := [.z, .z, .z, .z, .z, .z, .z, .z]) (s_set 6 (e_meth (ok_Game_with_pay C) (hr.mono (by decide)) tk (e_var 1) (a_cons (e_var 3) (a_cons e_int (a_cons e_int (a_cons e_int a_nil))))) (hN := S.nd)) ss_nil) (ss_cons (w1 := [.z, .z, .z, .z, .z, .z, .z, .z]) (s_set 6 (e_meth (ok_Game_with_pay_d1 C) (hr.mono (by decide)) tk (e_var 1) (a_cons (e_var 2) (a_cons (e_var 4) (a_cons e_int a_nil)))) (hN := S.nd)) ss_nil)) ss_nil)) ss_nil)) ss_nil)) ss_nil)) ss_nil)) ss_nil)) ss_nil)) ss_nil)) ss_nil)) ss_nil)) (fun a Cc oe pn hz hv => (ss_cons (w1 := [.z, .z, .z, .z, .z, .z, .z, .ex a Cc]) (s_ret (e_and (e_isE 7 [("Fault", false), ("BadGame", false), ("BadPlay", true)] (hz := hz) (hf := hv) (hX := rfl) (hm := (C.free 24)) (hc := (C.glo 21)) (hE := (List.forall_mem_cons.mpr ⟨C.exC 6, (List.forall_mem_cons.mpr ⟨C.exC 4, (List.forall_mem_cons.mpr ⟨C.exC 2, (List.forall_mem_nil _)⟩)⟩)⟩)) (hsub := (List.forall_mem_cons.mpr ⟨C.kit 5, (List.forall_mem_cons.mpr ⟨C.kit 3, (List.forall_mem_cons.mpr ⟨C.kit 1, (List.forall_mem_nil _)⟩)⟩)⟩))) (e_and (e_not (e_isE 7 [("Fault", false), ("BadGame", true), ("BadPlay", false)] (hz := hz) (hf := hv) (hX := rfl) (hm := (C.free 24)) (hc := (C.glo 7)) (hE := (List.forall_mem_cons.mpr ⟨C.exC 6, (List.forall_mem_cons.mpr ⟨C.exC 4, (List.forall_mem_cons.mpr ⟨C.exC 2, (List.forall_mem_nil _)⟩)⟩)⟩)) (hsub := (List.forall_mem_cons.mpr ⟨C.kit 9, (List.forall_mem_cons.mpr ⟨C.kit 8, (List.forall_mem_cons.mpr ⟨C.kit 7, (List.forall_mem_nil _)⟩)⟩)⟩)))) (e_one (e_not (e_isE 7 [("Fault", false), ("BadGame", false), ("BadPlay", false)] (hz := hz) (hf := hv) (hX := rfl) (hm := (C.free 24)) (hc := (C.glo 32)) (hE := (List.forall_mem_cons.mpr ⟨C.exC 6, (List.forall_mem_cons.mpr ⟨C.exC 4, (List.forall_mem_cons.mpr ⟨C.exC 2, (List.forall_mem_nil _)⟩)⟩)⟩)) (hsub := (List.forall_mem_cons.mpr ⟨C.kit 12, (List.forall_mem_cons.mpr ⟨C.kit 11, (List.forall_mem_cons.mpr ⟨C.kit 10, (List.forall_mem_nil _)⟩)⟩)⟩)))))))) ss_nil)) (takes_E rfl rfl rfl rfl) ⟨rfl, by decide, .inl (C.glo 36)⟩ (List.forall_mem_cons.mpr ⟨C.exm 35, (List.forall_mem_cons.mpr ⟨C.exm 34, (List.forall_mem_cons.mpr ⟨C.exm 33, (List.forall_mem_nil _)⟩)⟩)⟩) rfl (by decide) rfl rfl rfl (hN := S.nd)) (ss_cons (w1 := [.z, .z, .z, .z, .z, .z, .z, .z]) (s_ret e_bl) ss_nil)))
theorem ok__law_refuses (C : Ctx fa fn fb K mg) : Fn P wd K mg base 6 "_law_refuses" 6 [] f__law_refuses .z := by
  obtain ⟨fd, F⟩ := C.c.def_ 34 (d := d__law_refuses) rfl
  obtain ⟨us, hv, hb⟩ : ∃ us, Vals ([] : List V) us ∧ Binds K fd ["deed", "game", "play", "bad", "person", "choice"] us := ⟨[], .nil, F.bindsN fun _ _ _ _ _ _ us hl => match us, hl with | [_, _, _, _, _, _], _ => rfl⟩
  exact ⟨⟨_, fd, ["deed", "game", "play", "bad", "person", "choice"], [], us, C.glo 69, F.kp, hb, hv, fun _ => .nil, body__law_refuses C F⟩⟩
theorem sc_law : FnScope ["script", "sizes", "count", "plays", "numbers", "over", "rows", "k", "game", "row", "common", "pay", "asked", "play", "due", "told", "bad", "person", "choice", "deed"] ["script"] (defScope st_law) := ⟨rfl, rfl, rfl, by decide +kernel, rfl, by decide +kernel, by decide +kernel⟩
theorem body_law (C : Ctx fa fn fb K mg) {fd : FuncData} {a : Addr} (F : FunD K (d_law).name (d_law).qual (d_law).params (d_law).body (d_law).scope ((d_law).dvs K) [] a fd) : FnOk P wd K mg base (L2.CX P wd) 7 a fd ["script"] (spD K 1 f_law .z) :=
  have S := sc_law
  fn_ok (w := [.z, .z, .z, .z, .z, .z, .z, .z, .z, .z, .z, .z, .z, .z, .z, .z, .z, .z, .z, .z]) (w1 := [.z, .z, .z, .z, .z, .z, .z, .z, .z, .z, .z, .z, .z, .z, .z, .z, .z, .z, .z, .z]) F S rfl rfl fun cdv A outer s H E hr => (ss_cons (w1 := [.z, .z, .z, .z, .z, .z, .z, .z, .z, .z, .z, .z, .z, .z, .z, .z, .z, .z, .z, .z]) (s_set 1 (e_call (ok__law_sizes C) (hr.mono (by decide)) (takes_E rfl rfl rfl rfl) (a_cons (e_call (ok__law_cell C) (hr.mono (by decide)) (takes_E rfl rfl rfl rfl) (a_cons (e_var 0) (a_cons e_int a_nil))) a_nil)) (hN := S.nd)) (ss_cons (w1 := [.z, .z, .z, .z, .z, .z, .z, .z, .z, .z, .z, .z, .z, .z, .z, .z, .z, .z, .z, .z]) (s_set 2 (e_call (ok__law_count C) (hr.mono (by decide)) (takes_E rfl rfl rfl rfl) (a_cons (e_var 1) a_nil)) (hN := S.nd)) (ss_cons (w1 := [.z, .z, .z, .z, .z, .z, .z, .z, .z, .z, .z, .z, .z, .z, .z, .z, .z, .z, .z, .z]) (s_set 3 (e_call (ok__law_plays C) (hr.mono (by decide)) (takes_E rfl rfl rfl rfl) (a_cons (e_var 1) a_nil)) (hN := S.nd)) (ss_cons (w1 := [.z, .z, .z, .z, .z, .z, .z, .z, .z, .z, .z, .z, .z, .z, .z, .z, .z, .z, .z, .z]) (s_set 4 (e_call (ok__law_row C) (hr.mono (by decide)) (takes_E rfl rfl rfl rfl) (a_cons (e_call (ok__law_cell C) (hr.mono (by decide)) (takes_E rfl rfl rfl rfl) (a_cons (e_var 0) (a_cons e_int a_nil))) (a_cons e_int (a_cons e_int a_nil)))) (hN := S.nd)) (ss_cons (w1 := [.z, .z, .z, .z, .z, .z, .z, .z, .z, .z, .z, .z, .z, .z, .z, .z, .z, .z, .z, .z]) (s_set 5 (e_op op_addAll od_add e_int (e_op op_modA od_mod (e_callT call_int1 cd_int (C.free 2) boot_int (a_cons (e_ix (e_var 4) e_int) a_nil)) e_int)) (hN := S.nd)) (ss_cons (w1 := [.z, .z, .z, .z, .z, .z, .l .z, .z, .z, .z, .z, .z, .z, .z, .z, .z, .z, .z, .z, .z]) (s_setLc 6 [("k", 7)] (i_range1 (C.free 1) (a_cons (e_callB call_len cd_len (C.free 4) boot_len (a_cons (e_var 1) a_nil)) a_nil)) (fun s26 H26 c26 cl26 fp26 => (g_name 7 (hN := S.nd))) (fun s26 H26 c26 cl26 fp26 => ts_nil) (fun s26 H26 c26 cl26 fp26 => (e_call (ok__law_pays C) (hr.mono (by decide)) takes_WF (a_cons (e_op op_addAll od_add (e_call (ok__law_cell C) (hr.mono (by decide)) takes_WF (a_cons (e_var 0) (a_cons (e_op op_addAll od_add e_int (e_var 7)) a_nil))) (e_op op_mulA od_mul e_int (e_var 7))) (a_cons (e_var 2) a_nil)))) (ok := by rfl) (hN := S.nd)) (ss_cons (w1 := [.z, .z, .z, .z, .z, .z, .l .z, .z, .z, .z, .z, .z, .z, .z, .z, .z, .z, .z, .z, .z]) (s_if (t_cmp (OpR.rI0 op_lt) od_cmp (e_ix (e_var 4) e_int) e_int) (ss_cons (w1 := [.z, .z, .z, .z, .z, .z, .l .z, .z, .z, .z, .z, .z, .z, .z, .z, .z, .z, .z, .z, .z]) (s_put 6 (he := (e_fz (e_callT call_list_of cd_lst (C.free 5) boot_list (a_cons (e_ixO 6 e_int) a_nil)))) (hx := (e_op (OpR.rI0 op_sub) od_sub (e_callB call_len cd_len (C.free 4) boot_len (a_cons (e_var 1) a_nil)) e_int))) ss_nil) ss_nil) (ss_fz (w' := [.z, .z, .z, .z, .z, .z, .z, .z, .z, .z, .z, .z, .z, .z, .z, .z, .z, .z, .z, .z]) (ss_cons (w1 := [.z, .z, .z, .z, .z, .z, .z, .z, .z, .z, .z, .z, .z, .z, .z, .z, .z, .z, .z, .z]) (s_set 8 (e_fz (e_make (ok_Game_init C) (hr.mono (by decide)) (takes_E rfl rfl rfl rfl) (a_cons (e_var 1) (a_cons (e_fz (e_lc [("row", 9)] (i_seq (e_var 6)) (fun s28 H28 c28 cl28 fp28 => (g_name 9 (hN := S.nd))) (fun s28 H28 c28 cl28 fp28 => ts_nil) (fun s28 H28 c28 cl28 fp28 => (e_fz (e_callT call_list_of cd_lst (C.free 5) boot_list (a_cons (e_var 9) a_nil)))) (ok := by rfl) (hN := S.nd))) (a_cons (e_var 5) a_nil))))) (hN := S.nd)) (ss_cons (w1 := [.z, .z, .z, .z, .z, .z, .z, .z, .z, .z, .z, .z, .z, .z, .z, .z, .z, .z, .z, .z]) (s_set 10 (e_var 5) (hN := S.nd)) (ss_cons (w1 := [.z, .z, .z, .z, .z, .z, .z, .z, .z, .z, .z, .z, .z, .z, .z, .z, .z, .z, .z, .z]) (s_for (vs := [9]) (i_seq (e_var 6)) (g_name 9 (hN := S.nd)) (ss_cons (w1 := [.z, .z, .z, .z, .z, .z, .z, .z, .z, .z, .z, .z, .z, .z, .z, .z, .z, .z, .z, .z]) (s_for (vs := [11]) (i_seq (e_var 9)) (g_name 11 (hN := S.nd)) (ss_cons (w1 := [.z, .z, .z, .z, .z, .z, .z, .z, .z, .z, .z, .z, .z, .z, .z, .z, .z, .z, .z, .z]) (s_set 10 (e_call (ok__law_gcd C) (hr.mono (by decide)) (takes_E rfl rfl rfl rfl) (a_cons (e_var 10) (a_cons (e_var 11) a_nil))) (hN := S.nd)) ss_nil) (passes_of rfl)) ss_nil) (passes_of rfl)) (ss_cons (w1 := [.z, .z, .z, .z, .z, .z, .l .z, .z, .z, .z, .z, .z, .z, .z, .z, .z, .z, .z, .z, .z]) (s_setLc 6 [("row", 9)] (i_seq (e_var 6)) (fun s35 H35 c35 cl35 fp35 => (g_name 9 (hN := S.nd))) (fun s35 H35 c35 cl35 fp35 => ts_nil) (fun s35 H35 c35 cl35 fp35 => (e_fz (e_lc [("pay", 11)] (i_seq (e_var 9)) (fun s36 H36 c36 cl36 fp36 => (g_name 11 (hN := S.nd))) (fun s36 H36 c36 cl36 fp36 => ts_nil) (fun s36 H36 c36 cl36 fp36 => (e_op op_divA od_div (e_var 11) (e_var 10))) (ok := by rfl) (hN := S.nd)))) (ok := by rfl) (hN := S.nd)) (ss_cons (w1 := [.z, .z, .z, .z, .z, .z, .l .z, .z, .z, .z, .z, .z, .z, .z, .z, .z, .z, .z, .z, .z]) (s_set 12 (e_var 3) (hN := S.nd)) (ss_cons (w1 := [.z, .z, .z, .z, .z, .z, .l .z, .z, .z, .z, .z, .z, .z, .z, .z, .z, .z, .z, .z, .z]) (s_if (t_cmp (OpR.rI0 op_gt) od_cmp (e_var 2) e_int) (ss_cons (w1 := [.z, .z, .z, .z, .z, .z, .l .z, .z, .z, .z, .z, .z, .z, .z, .z, .z, .z, .z, .z, .z]) (s_setLcz 12 [("k", 7)] (i_range1 (C.free 1) (a_cons e_int a_nil)) (fun s44 H44 c44 cl44 fp44 => (g_name 7 (hN := S.nd))) (fun s44 H44 c44 cl44 fp44 => ts_nil) (fun s44 H44 c44 cl44 fp44 => (e_ix (e_var 3) (e_op op_modA od_mod (e_callT call_int1 cd_int (C.free 2) boot_int (a_cons (e_op op_addAll od_add (e_op op_mulA od_mul (e_ix (e_var 4) (e_op op_addAll od_add e_int (e_var 7))) e_int) (e_ix (e_var 4) (e_op op_addAll od_add e_int (e_var 7)))) a_nil)) (e_var 2)))) (ok := by rfl) (hN := S.nd)) ss_nil) ss_nil) (ss_cons (w1 := [.z, .z, .z, .z, .z, .z, .l .z, .z, .z, .z, .z, .z, .z, .z, .z, .z, .z, .z, .z, .z]) (s_for (vs := [13]) (i_seq (e_var 12)) (g_name 13 (hN := S.nd)) (ss_cons (w1 := [.z, .z, .z, .z, .z, .z, .l .z, .z, .z, .z, .z, .z, .z, .z, .z, .z, .z, .z, .z, .z]) (s_if (t_not (t_tru (e_bor (w' := [.z, .z, .z, .z, .z, .z, .z, .z, .z, .z, .z, .z, .z, .z, .z, .z, .z, .z, .z, .z]) (e_call (ok__law_at_play C) (hr.mono (by decide)) (takes_E rfl rfl rfl rfl) (a_cons (e_var 8) (a_cons (e_var 1) (a_cons (e_var 6) (a_cons (e_var 13) a_nil)))))))) (ss_cons (w1 := [.z, .z, .z, .z, .z, .z, .l .z, .z, .z, .z, .z, .z, .z, .z, .z, .z, .z, .z, .z, .z]) (s_ret e_bl) ss_nil) ss_nil) ss_nil) (passes_of rfl)) (ss_cons (w1 := [.z, .z, .z, .z, .z, .z, .l .z, .z, .z, .z, .z, .z, .z, .z, .l .z, .z, .z, .z, .z, .z]) (s_set 14 (e_lst a_nil) (hN := S.nd)) (ss_cons (w1 := [.z, .z, .z, .z, .z, .z, .l .z, .z, .z, .z, .z, .z, .z, .z, .l .z, .z, .z, .z, .z, .z]) (s_for (vs := [13]) (i_seq (e_var 3)) (g_name 13 (hN := S.nd)) (ss_cons (w1 := [.z, .z, .z, .z, .z, .z, .l .z, .z, .z, .z, .z, .z, .z, .z, .l .z, .z, .z, .z, .z, .z]) (s_if (t_bor (w' := [.z, .z, .z, .z, .z, .z, .z, .z, .z, .z, .z, .z, .z, .z, .l .z, .z, .z, .z, .z, .z]) (t_cmp (op_eqA hr.units) od_eq (e_call (ok__law_moves C) (hr.mono (by decide)) (takes_E rfl rfl rfl rfl) (a_cons (e_var 1) (a_cons (e_var 6) (a_cons (e_var 13) (a_cons e_str a_nil))))) (e_fz (e_lst a_nil)))) (ss_cons (w1 := [.z, .z, .z, .z, .z, .z, .l .z, .z, .z, .z, .z, .z, .z, .z, .l .z, .z, .z, .z, .z, .z]) (s_app 14 (he := (e_var 13))) ss_nil) ss_nil) ss_nil) (passes_of rfl)) (ss_cons (w1 := [.z, .z, .z, .z, .z, .z, .l .z, .z, .z, .z, .z, .z, .z, .z, .l .z, .l .z, .z, .z, .z, .z]) (s_set 15 (e_call (ok_rests C) (hr.mono (by decide)) (takes_E rfl rfl rfl rfl) (a_cons (e_var 8) a_nil)) (hN := S.nd)) (ss_cons (w1 := [.z, .z, .z, .z, .z, .z, .l .z, .z, .z, .z, .z, .z, .z, .z, .l .z, .l .z, .z, .z, .z, .z]) (s_if (t_not (t_tru (e_bor (w' := [.z, .z, .z, .z, .z, .z, .l .z, .z, .z, .z, .z, .z, .z, .z, .l .z, .z, .z, .z, .z, .z]) (e_bor (w' := [.z, .z, .z, .z, .z, .z, .l .z, .z, .z, .z, .z, .z, .z, .z, .z, .z, .z, .z, .z, .z]) (e_call (ok__law_is_list C) (hr.mono (by decide)) (takes_E rfl rfl rfl rfl) (a_cons (e_var 15) (a_cons (e_var 14) a_nil))))))) (ss_cons (w1 := [.z, .z, .z, .z, .z, .z, .l .z, .z, .z, .z, .z, .z, .z, .z, .l .z, .l .z, .z, .z, .z, .z]) (s_ret e_bl) ss_nil) ss_nil) (ss_cons (w1 := [.z, .z, .z, .z, .z, .z, .l .z, .z, .z, .z, .z, .z, .z, .z, .l .z, .l .z, .z, .z, .z, .z]) (s_app 15 (he := (e_tup (a_cons e_int a_nil)))) (ss_cons (w1 := [.z, .z, .z, .z, .z, .z, .l .z, .z, .z, .z, .z, .z, .z, .z, .l .z, .l .z, .z, .z, .z, .z]) (s_if (t_not (t_tru (e_bor (w' := [.z, .z, .z, .z, .z, .z, .l .z, .z, .z, .z, .z, .z, .z, .z, .z, .l .z, .z, .z, .z, .z]) (e_call (ok__law_is_list C) (hr.mono (by decide)) (takes_E rfl rfl rfl rfl) (a_cons (e_fz (e_call (ok_rests C) (hr.mono (by decide)) (takes_E rfl rfl rfl rfl) (a_cons (e_var 8) a_nil))) (a_cons (e_var 14) a_nil)))))) (ss_cons (w1 := [.z, .z, .z, .z, .z, .z, .l .z, .z, .z, .z, .z, .z, .z, .z, .l .z, .l .z, .z, .z, .z, .z]) (s_ret e_bl) ss_nil) ss_nil) (ss_cons (w1 := [.z, .z, .z, .z, .z, .z, .l .z, .z, .z, .z, .z, .z, .z, .z, .l .z, .l .z, .z, .z, .z, .z]) (s_set 13 (e_ix (e_var 12) (e_op op_modA od_mod (e_callT call_int1 cd_int (C.free 2) boot_int (a_cons (e_ix (e_var 4) e_int) a_nil)) (e_callB call_len cd_len (C.free 4) boot_len (a_cons (e_var 12) a_nil)))) (hN := S.nd)) (ss_cons (w1 := [.z, .z, .z, .z, .z, .z, .l .z, .z, .z, .z, .z, .z, .z, .z, .l .z, .l .z, .z, .z, .z, .z]) (s_set 16 (e_call (ok__law_bad_play C) (hr.mono (by decide)) (takes_E rfl rfl rfl rfl) (a_cons (e_var 1) (a_cons (e_var 13) (a_cons (e_ix (e_var 4) e_int) a_nil)))) (hN := S.nd)) (ss_cons (w1 := [.z, .z, .z, .z, .z, .z, .l .z, .z, .z, .z, .z, .z, .z, .z, .l .z, .l .z, .z, .z, .z, .z]) (s_set 17 (e_callB call_len cd_len (C.free 4) boot_len (a_cons (e_var 1) a_nil)) (hN := S.nd)) (ss_cons (w1 := [.z, .z, .z, .z, .z, .z, .l .z, .z, .z, .z, .z, .z, .z, .z, .l .z, .l .z, .z, .z, .z, .z]) (s_set 18 (e_ix (e_var 1) e_int) (hN := S.nd)) (ss_cons (w1 := [.z, .z, .z, .z, .z, .z, .l .z, .z, .z, .z, .z, .z, .z, .z, .l .z, .l .z, .z, .z, .z, .z]) (s_if (t_cmp (op_eqA hr.units) od_eq (e_op op_modA od_mod (e_callT call_int1 cd_int (C.free 2) boot_int (a_cons (e_ix (e_var 4) e_int) a_nil)) e_int) e_int) (ss_cons (w1 := [.z, .z, .z, .z, .z, .z, .l .z, .z, .z, .z, .z, .z, .z, .z, .l .z, .l .z, .z, .z, .z, .z]) (s_set 17 (e_neg e_int) (hN := S.nd)) (ss_cons (w1 := [.z, .z, .z, .z, .z, .z, .l .z, .z, .z, .z, .z, .z, .z, .z, .l .z, .l .z, .z, .z, .z, .z]) (s_set 18 (e_neg e_int) (hN := S.nd)) ss_nil)) ss_nil) (ss_cons (w1 := [.z, .z, .z, .z, .z, .z, .l .z, .z, .z, .z, .z, .z, .z, .z, .l .z, .l .z, .z, .z, .z, .z]) (s_for (vs := [19]) (i_range1 (C.free 1) (a_cons e_int a_nil)) (g_name 19 (hN := S.nd)) (ss_cons (w1 := [.z, .z, .z, .z, .z, .z, .l .z, .z, .z, .z, .z, .z, .z, .z, .l .z, .l .z, .z, .z, .z, .z]) (s_if (t_not (t_tru (e_call (ok__law_refuses C) (hr.mono (by decide)) (takes_E rfl rfl rfl rfl) (a_cons (e_var 19) (a_cons (e_var 8) (a_cons (e_var 13) (a_cons (e_var 16) (a_cons (e_var 17) (a_cons (e_var 18) a_nil))))))))) (ss_cons (w1 := [.z, .z, .z, .z, .z, .z, .l .z, .z, .z, .z, .z, .z, .z, .z, .l .z, .l .z, .z, .z, .z, .z]) (s_ret e_bl) ss_nil) ss_nil) ss_nil) (passes_of rfl)) (ss_cons (w1 := [.z, .z, .z, .z, .z, .z, .z, .z, .z, .z, .z, .z, .z, .z, .z, .z, .z, .z, .z, .z]) (s_ret (e_bor (w' := [.z, .z, .z, .z, .z, .z, .z, .z, .z, .z, .z, .z, .z, .z, .l .z, .l .z, .z, .z, .z, .z]) (e_call (ok__law_at_play C) (hr.mono (by decide)) (takes_E rfl rfl rfl rfl) (a_cons (e_var 8) (a_cons (e_var 1) (a_cons (e_var 6) (a_cons (e_var 13) a_nil))))))) ss_nil))))))))))))))))))))))))))))
theorem ok_law (C : Ctx fa fn fb K mg) : Fn P wd K mg base 7 "law" 1 [] f_law .z := by
  obtain ⟨fd, F⟩ := C.c.def_ 35 (d := d_law) rfl
  obtain ⟨us, hv, hb⟩ : ∃ us, Vals ([] : List V) us ∧ Binds K fd ["script"] us := ⟨[], .nil, F.bindsN fun _ _ _ _ _ _ us hl => match us, hl with | [_], _ => rfl⟩
  exact ⟨⟨_, fd, ["script"], [], us, C.glo 70, F.kp, hb, hv, fun _ => .nil, body_law C F⟩⟩
end
end K88
set_option Elab.async false
set_option linter.all false
set_option maxRecDepth 100000
/-! The law's own numbers. -/
namespace K88
open PySem Fz

theorem mix (c k : Int) : ∃ v, f__law_mix [.int c, .int k] = .ok (.int v) := by
  simp [f__law_mix, runD_eq, m__law_mix, startE, List.replicate, oMul_r, oDiv_p, oMod_p]
theorem pow18 : oPow (.int 10) (.int 18) = .ok (.int 1000000000000000000) := by simp [oPow, powOk]
theorem rng1_ok {n : Nat} (h : n ≤ 1000) : rng1D [.int (n : Int)] = .ok (rngD 0 n) := by
  show (if smallI (n : Int) then Res.ok (rngD 0 (n : Int).toNat) else .bad) = _
  rw [if_pos (by unfold smallI; omega), Int.toNat_natCast]
theorem row_ok (c l : Int) (n : Nat) (hn : n ≤ 1000) (hl : 0 < l) (hl2 : l < 1073741824) : ∃ row : List Int, f__law_row [.int c, .int (n : Int), .int l] = .ok (lstI row) ∧ row.length = n ∧ ∀ x ∈ row, 0 ≤ x ∧ x < l := by
  obtain ⟨e', h1, row, left, o, rfl, h2, h3⟩ := loop_rng (lo := 0) (tg := tgN 5) (body := b__law_row_0) n
    (fun i e => ∃ row left o, e = [some (.int c), some (.int (n : Int)), some (.int l), some (lstI row), some (.int left), o] ∧ row.length = i ∧ ∀ x ∈ row, 0 ≤ x ∧ x < l)
    (fun i e hi ⟨row, left, o, he, hr, hx⟩ => by
      subst he
      have hz : row.length < 16777216 := by omega
      refine ⟨_, rfl, ?_⟩
      obtain ⟨v, hv⟩ := mix c i
      by_cases q1 : 1000000000000000000 ≤ (if c < 0 then -c else c)
      · by_cases q2 : 0 < left
        · simp [b__law_row_0, pow18, q1, q2, oMod_p hl, oDiv_p hl hl2, hz]
          refine ⟨row ++ [left % l], by simp, by simp [hr], fun x h => ?_⟩
          rcases List.mem_append.mp h with h | h
          · exact hx x h
          · simp at h; subst h
            exact ⟨Int.emod_nonneg _ (by omega), Int.emod_lt_of_pos _ hl⟩
        · simp [b__law_row_0, pow18, q1, q2, hv, oMod_p hl, hz]
          refine ⟨row ++ [v % l], by simp, by simp [hr], fun x h => ?_⟩
          rcases List.mem_append.mp h with h | h
          · exact hx x h
          · simp at h; subst h
            exact ⟨Int.emod_nonneg _ (by omega), Int.emod_lt_of_pos _ hl⟩
      · simp [b__law_row_0, pow18, q1, hv, oMod_p hl, hz]
        refine ⟨row ++ [v % l], by simp, by simp [hr], fun x h => ?_⟩
        rcases List.mem_append.mp h with h | h
        · exact hx x h
        · simp at h; subst h
          exact ⟨Int.emod_nonneg _ (by omega), Int.emod_lt_of_pos _ hl⟩)
    [some (.int c), some (.int (n : Int)), some (.int l), some (.lst []), some (.int (if c < 0 then -c else c)), none] ⟨[], _, none, rfl, rfl, fun x h => by cases h⟩
  refine ⟨row, ?_, h2, h3⟩
  simp [f__law_row, runD_eq, m__law_row, startE, List.replicate, rng1_ok hn]

  simp [h1]
end K88
set_option Elab.async false
set_option linter.all false
set_option maxRecDepth 100000
/-! The law's sizes, cells. -/
namespace K88
open PySem Fz

def prod (sz : List Int) : Int := sz.foldl (· * ·) 1
theorem prod_snoc (sz : List Int) (s : Int) : prod (sz ++ [s]) = prod sz * s := by simp [prod, List.foldl_append]
structure GoodS (sz : List Int) : Prop where
  len : 1 ≤ sz.length ∧ sz.length ≤ 4
  item : ∀ x ∈ sz, 1 ≤ x ∧ x ≤ 5
  most : prod sz ≤ 120
theorem cell_ok (ns : List Int) (k : Nat) : ∃ v, f__law_cell [.scr (dI ns), .int (k : Int)] = .ok (.int v) := by
  by_cases h : k < ns.length
  · refine ⟨nth ns k, ?_⟩
    have hx : oIx (.scr (dI ns)) (.int (k : Int)) = .ok (.int (nth ns k)) := oIx_scr rfl (dI_get h)
    have hk : (k : Int) < (ns.length : Int) := by omega
    simp [f__law_cell, runD_eq, m__law_cell, startE, List.replicate, hx, hk]
  · refine ⟨0, ?_⟩
    have hk : ¬ (k : Int) < (ns.length : Int) := by omega
    simp [f__law_cell, runD_eq, m__law_cell, startE, List.replicate, hk]
theorem sizes_ok (c : Int) : ∃ sz, f__law_sizes [.int c] = .ok (lstI sz) ∧ GoodS sz := by
  obtain ⟨row, hrow, hlen, hitem⟩ := row_ok c 60 6 (by omega) (by omega) (by omega)
  have r0 := hitem (nth row 0) (nth_mem (by omega))
  have i0 : oIx (lstI row) (.int 0) = .ok (.int (nth row 0)) := oIx_lstI (i := 0) (by omega) (by omega)
  have i1 : oIx (lstI row) (.int 1) = .ok (.int (nth row 1)) := oIx_lstI (i := 1) (by omega) (by omega)
  obtain ⟨P, hP, hP2⟩ : ∃ P : Nat, 1 + (nth row 0 + 1) % 4 = (P : Int) ∧ 1 ≤ P ∧ P ≤ 4 := ⟨(1 + (nth row 0 + 1) % 4).toNat, by omega, by omega⟩
  have main : ∀ most : Int, 12 ≤ most → most ≤ 120 → ∃ e', loopD (tgN 6) b__law_sizes_0 (rngD 0 P)
      [some (.int c), some (lstI row), some (.int (P : Int)), some (.int most), some (.lst []), some (.int 1), none, none] = .nx e' ∧ ∃ sz cnt o6 o7, e' = [some (.int c), some (lstI row), some (.int (P : Int)), some (.int most), some (lstI sz), some (.int cnt), o6, o7] ∧ sz.length = P ∧ (∀ x ∈ sz, 1 ≤ x ∧ x ≤ 5) ∧ cnt = prod sz ∧ 1 ≤ cnt ∧ cnt ≤ most := by
    intro most hm1 hm2
    refine loop_rng P (fun i e => ∃ sz cnt o6 o7, e = [some (.int c), some (lstI row), some (.int (P : Int)), some (.int most), some (lstI sz), some (.int cnt), o6, o7] ∧ sz.length = i ∧ (∀ x ∈ sz, 1 ≤ x ∧ x ≤ 5) ∧ cnt = prod sz ∧ 1 ≤ cnt ∧ cnt ≤ most)
      (fun i e hi ⟨sz, cnt, o6, o7, he, h1, h2, h3, h4, h5⟩ => ?_) _ ⟨[], 1, none, none, rfl, rfl, (fun x h => by cases h), rfl, by omega, by omega⟩
    subst he
    refine ⟨_, rfl, ?_⟩
    have hz : sz.length < 16777216 := by omega
    have ix : oIx (lstI row) (.int (2 + (i : Int))) = .ok (.int (nth row (2 + i))) := by
      have := oIx_lstI (ns := row) (i := 2 + (i : Int)) (by omega) (by omega)
      rw [this]
      congr 3
    have rx := hitem (nth row (2 + i)) (nth_mem (by omega))
    generalize nth row (2 + i) = R at ix rx
    have s1 : 1 ≤ 1 + R % 5 ∧ 1 + R % 5 ≤ 5 := by omega
    generalize hS : 1 + R % 5 = S at s1
    have mS : ∀ {a : Int}, mulOk cnt a = true := fun {a} => mulOk_l (by omega)
    have fin : ∀ T : Int, 1 ≤ T → T ≤ 5 → cnt * T ≤ most → ∃ sz' cnt' o6 o7, ([some (.int c), some (lstI row), some (.int (P : Int)), some (.int most), some (lstI (sz ++ [T])), some (.int (cnt * T)), some (.int (i : Int)), some (.int T)] : Fz.Env) = [some (.int c), some (lstI row), some (.int (P : Int)), some (.int most), some (lstI sz'), some (.int cnt'), o6, o7] ∧ sz'.length = i + 1 ∧ (∀ x ∈ sz', 1 ≤ x ∧ x ≤ 5) ∧ cnt' = prod sz' ∧ 1 ≤ cnt' ∧ cnt' ≤ most := fun T t1 t2 t3 => by
      refine ⟨sz ++ [T], cnt * T, _, _, rfl, by simp [h1], fun x hx => ?_, by rw [prod_snoc, h3], ?_, t3⟩
      · rcases List.mem_append.mp hx with hx | hx
        · exact h2 x hx
        · simp at hx; subst hx; exact ⟨t1, t2⟩
      · have : 1 * 1 ≤ cnt * T := Int.mul_le_mul h4 t1 (by omega) (by omega)
        omega
    by_cases q : most < cnt * S
    · have d1 : divOk cnt = true := divOk_of (by omega) (by omega)
      have dd : oDiv (.int most) (.int cnt) = .ok (.int (most / cnt)) := oDiv_p (by omega) (by omega)
      have e1 : cnt * (most / cnt) ≤ most := Int.mul_ediv_self_le (by omega)
      have e2 : most / cnt < S := Int.ediv_lt_of_lt_mul (by omega) (by rw [Int.mul_comm]; exact q)
      have e3 : 1 ≤ most / cnt := by
        rw [Int.le_ediv_iff_mul_le (by omega)]; omega
      generalize hQ : most / cnt = Q at dd e1 e2 e3
      have mx : (if (Q : Int) > 1 then Q else 1) = Q := by split <;> omega
      refine ⟨_, .inl ?_, fin Q e3 (by omega) e1⟩
      simp [b__law_sizes_0, ix, oMod_p, hS, oMul_ok mS, q, dd, mx, hz]
    · refine ⟨_, .inl ?_, fin S s1.1 s1.2 (by omega)⟩
      simp [b__law_sizes_0, ix, oMod_p, hS, oMul_ok mS, q, hz]
  have fin2 : ∀ (sz : List Int) (cnt most : Int), sz.length = P → (∀ x ∈ sz, 1 ≤ x ∧ x ≤ 5) → cnt = prod sz → 1 ≤ cnt → cnt ≤ most → most ≤ 120 → GoodS sz := fun sz cnt most h1 h2 h3 h4 h5 h6 => ⟨by omega, h2, by omega⟩
  have hl6 : f__law_row [.int c, .int 6, .int 60] = .ok (lstI row) := hrow
  by_cases q : nth row 1 < 8
  · obtain ⟨e', h1, sz, cnt, o6, o7, rfl, h2, h3, h4, h5, h6⟩ := main 120 (by omega) (by omega)
    refine ⟨sz, ?_, fin2 sz cnt 120 h2 h3 h4 h5 h6 (by omega)⟩
    simp [f__law_sizes, runD_eq, m__law_sizes, startE, List.replicate, hl6, i0, i1, oMod_p, hP, q, rng1_ok (n := P) (by omega), h1]
  · obtain ⟨e', h1, sz, cnt, o6, o7, rfl, h2, h3, h4, h5, h6⟩ := main 12 (by omega) (by omega)
    refine ⟨sz, ?_, fin2 sz cnt 12 h2 h3 h4 h5 h6 (by omega)⟩
    simp [f__law_sizes, runD_eq, m__law_sizes, startE, List.replicate, hl6, i0, i1, oMod_p, hP, q, rng1_ok (n := P) (by omega), h1]
end K88
set_option Elab.async false
set_option linter.all false
set_option maxRecDepth 100000
/-! Counts, plays, pays, gcd. -/
namespace K88
open PySem Fz

theorem foldl_mul (sz : List Int) : ∀ a : Int, sz.foldl (· * ·) a = a * prod sz := by
  induction sz with
  | nil => intro a; simp [prod]
  | cons s r ih =>
    intro a
    simp only [List.foldl_cons, prod]
    rw [ih, ih]
    simp [prod, Int.mul_assoc]
theorem prod_cons (s : Int) (r : List Int) : prod (s :: r) = s * prod r := by
  show r.foldl (· * ·) (1 * s) = _
  rw [foldl_mul]; simp
theorem prod_pos {sz : List Int} (h : ∀ x ∈ sz, 1 ≤ x) : 1 ≤ prod sz := by
  induction sz with
  | nil => simp [prod]
  | cons s r ih =>
    rw [prod_cons]
    have h1 := h s List.mem_cons_self
    have h2 := ih fun x hx => h x (List.mem_cons_of_mem _ hx)
    have := Int.mul_le_mul h1 h2 (by omega) (by omega)
    omega
/-- the product of a list of small numbers -/
def smallL (sz : List Int) : Prop := ∀ x ∈ sz, -(2 ^ 60) ≤ x ∧ x ≤ 2 ^ 60
theorem GoodS.small {sz : List Int} (g : GoodS sz) : smallL sz := fun x hx => by have := g.item x hx; omega
theorem count_loop {sz : List Int} (h : smallL sz) (x : Option D) : ∃ o, loopD (tgN 2) b_count_plays_0 (dI sz) [x, some (.int 1), none] = .nx [x, some (.int (prod sz)), o] := by
  obtain ⟨e', h1, a, o, rfl, h2, _⟩ := loop_inv (dd := D.int) (tg := tgN 2) (body := b_count_plays_0) (fun r e => ∃ a o, e = [x, some (.int a), o] ∧ r.foldl (· * ·) a = prod sz ∧ smallL r) (fun y r e ⟨a, o, he, h2, h3⟩ => by
    subst he
    have hy := h3 y List.mem_cons_self
    exact ⟨_, rfl, _, .inl (by simp [b_count_plays_0, oMul_r hy]; rfl), a * y, _, rfl, h2, fun z hz => h3 z (List.mem_cons_of_mem _ hz)⟩) sz [x, some (.int 1), none] ⟨1, none, rfl, rfl, h⟩
  simp only [List.foldl_nil] at h2
  subst h2
  exact ⟨o, h1⟩
theorem count_lst {sz : List Int} (h : smallL sz) : f_count_plays [lstI sz] = .ok (.int (prod sz)) := by
  obtain ⟨o, e⟩ := count_loop h (some (lstI sz))
  simp [f_count_plays, runD_eq, m_count_plays, startE, List.replicate, e]
theorem count_tup {sz : List Int} (h : smallL sz) : f_count_plays [tupI sz] = .ok (.int (prod sz)) := by
  obtain ⟨o, e⟩ := count_loop h (some (tupI sz))
  simp [f_count_plays, runD_eq, m_count_plays, startE, List.replicate, e]
theorem lcount_ok {sz : List Int} (h : smallL sz) : f__law_count [lstI sz] = .ok (.int (prod sz)) := by
  obtain ⟨o, e⟩ := count_loop h (some (lstI sz))
  have e : loopD (tgN 2) b__law_count_0 (dI sz) [some (lstI sz), some (.int 1), none] = .nx [some (lstI sz), some (.int (prod sz)), o] := e
  simp [f__law_count, runD_eq, m__law_count, startE, List.replicate, e]

/-! ### all plays -/
/-- the plays, in ascending order -/
def grow (found : List (List Int)) (s : Int) : List (List Int) := found.flatMap fun p => (digs s.toNat).map fun c => p ++ [c]
def allP (sz : List Int) : List (List Int) := sz.foldl grow [[]]
abbrev dP (ps : List (List Int)) : List D := ps.map tupI
theorem grow_cons (p : List Int) (r : List (List Int)) (s : Int) : grow (p :: r) s = ((digs s.toNat).map fun c => p ++ [c]) ++ grow r s := by simp [grow]
theorem grow_len (found : List (List Int)) (s : Int) : (grow found s).length = found.length * s.toNat := by
  induction found with
  | nil => simp [grow]
  | cons p r ih => rw [grow_cons, List.length_append, ih]; simp [digs_len, Nat.succ_mul]; omega
theorem grow_item {found : List (List Int)} {s : Int} {p : List Int} : p ∈ grow found s ↔ ∃ q ∈ found, ∃ c, 0 ≤ c ∧ c < s ∧ p = q ++ [c] := by
  simp only [grow, List.mem_flatMap, List.mem_map, digs_mem]
  constructor
  · rintro ⟨q, hq, c, ⟨h1, h2⟩, rfl⟩; exact ⟨q, hq, c, h1, by omega, rfl⟩
  · rintro ⟨q, hq, c, h1, h2, rfl⟩; exact ⟨q, hq, c, ⟨h1, by omega⟩, rfl⟩
theorem plays_ok {sz : List Int} (g : GoodS sz) : f__law_plays [lstI sz] = .ok (.lst (dP (allP sz))) := by
  -- over the choices
  have l1 : ∀ (s : Int) (a b : Option D) (p : List Int) (acc : List D) (o : Option D), acc.length + 5 < 16777216 → p.length ≤ 10 → s ≤ 5 → ∃ o', loopD (tgN 5) b__law_plays_0 (rngD 0 s.toNat) [a, b, some (.int s), some (.lst acc), some (tupI p), o] =
      .nx [a, b, some (.int s), some (.lst (acc ++ dP ((digs s.toNat).map fun c => p ++ [c]))), some (tupI p), o'] := by
    intro s a b p acc o hz hp h5
    rw [rngD0]
    obtain ⟨e', h1, acc', o', rfl, h2, _⟩ := loop_inv (tg := tgN 5) (body := b__law_plays_0) (dd := D.int) (fun r e => ∃ acc' o, e = [a, b, some (.int s), some (.lst acc'), some (tupI p), o] ∧ acc' ++ dP (r.map fun c => p ++ [c]) = acc ++ dP ((digs s.toNat).map fun c => p ++ [c]) ∧ acc'.length + r.length = acc.length + s.toNat) (fun c r e ⟨acc', o, he, h2, h3⟩ => by
      subst he
      have hz2 : acc'.length < 16777216 := by simp at h3; omega
      refine ⟨_, rfl, _, .inl ?_, acc' ++ [tupI (p ++ [c])], some (.int c), rfl, ?_, ?_⟩
      · simp [b__law_plays_0, oAdd_tup (show (dI p).length + ([D.int c] : List D).length ≤ 16777216 by simp; omega), hz2]
      · rw [← h2]; simp
      · simp at h3 ⊢; omega) (digs s.toNat) [a, b, some (.int s), some (.lst acc), some (tupI p), o] ⟨acc, o, rfl, rfl, by rw [digs_len]⟩
    simp at h2
    subst h2
    exact ⟨o', by rw [h1]; simp⟩
  -- over the plays so far
  have l2 : ∀ (s : Int) (a b : Option D) (found : List (List Int)) (u4 u5 : Option D), 0 ≤ s → s ≤ 5 → found.length * 5 + 100 < 16777216 → (∀ p ∈ found, p.length ≤ 10) → ∃ o4 o5', loopD (tgN 4) b__law_plays_1 (dP found) [a, b, some (.int s), some (.lst []), u4, u5] =
      .nx [a, b, some (.int s), some (.lst (dP (grow found s))), o4, o5'] := by
    intro s a b found u4 u5 h0 h5 hz hp
    obtain ⟨e', h1, acc', o4, o5', rfl, h2, _⟩ := loop_inv (tg := tgN 4) (body := b__law_plays_1) (dd := tupI) (fun r e => ∃ acc' o4 o5, e = [a, b, some (.int s), some (.lst acc'), o4, o5] ∧ acc' ++ dP (grow r s) = dP (grow found s) ∧ acc'.length + r.length * s.toNat = found.length * s.toNat ∧ ∀ p ∈ r, p.length ≤ 10) (fun p r e ⟨acc', o4, o5, he, h2, h3, h4⟩ => by
      subst he
      have hb : found.length * s.toNat ≤ found.length * 5 := Nat.mul_le_mul_left _ (by omega)
      have hq : (p :: r).length * s.toNat = r.length * s.toNat + s.toNat := by simp [Nat.succ_mul]
      have hz2 : acc'.length + 5 < 16777216 := by omega
      obtain ⟨o', e1⟩ := l1 s a b p acc' o5 hz2 (h4 p List.mem_cons_self) h5
      refine ⟨_, rfl, _, .inl ?_, acc' ++ dP ((digs s.toNat).map fun c => p ++ [c]), some (tupI p), o', rfl, ?_, ?_, fun q hq => h4 q (List.mem_cons_of_mem _ hq)⟩
      · have hr : rng1D [.int s] = .ok (rngD 0 s.toNat) := if_pos (by unfold smallI; omega)
        simp [b__law_plays_1, hr]
        rw [e1]
        simp
      · rw [← h2, grow_cons]; simp
      · simp [digs_len]; omega) found [a, b, some (.int s), some (.lst []), u4, u5] ⟨[], u4, u5, rfl, rfl, by simp, hp⟩
    have h2 : acc' = dP (grow found s) := by rw [← h2]; simp [grow]
    subst h2
    exact ⟨_, _, h1⟩
  -- over the sizes
  obtain ⟨e', h1, found, o2, o3, o4, o5, rfl, h2, _⟩ := loop_inv (tg := tgN 2) (body := b__law_plays_2) (dd := D.int) (fun r e => ∃ found o2 o3 o4 o5, e = [some (lstI sz), some (.lst (dP found)), o2, o3, o4, o5] ∧ r.foldl grow found = allP sz ∧ (∀ x ∈ r, 1 ≤ x ∧ x ≤ 5) ∧ (∀ p ∈ found, p.length + r.length ≤ 4) ∧ (found.length : Int) * prod r ≤ 120) (fun s r e ⟨found, o2, o3, o4, o5, he, h2, h3, h4, h5⟩ => by
    subst he
    have hs := h3 s List.mem_cons_self
    have hr : ∀ x ∈ r, 1 ≤ x ∧ x ≤ 5 := fun x hx => h3 x (List.mem_cons_of_mem _ hx)
    have pr := prod_pos fun x hx => (hr x hx).1
    rw [prod_cons] at h5
    have f1 : (found.length : Int) * 1 ≤ found.length * (s * prod r) := Int.mul_le_mul_of_nonneg_left (by
      have := Int.mul_le_mul hs.1 pr (by omega) (by omega)
      omega) (by omega)
    obtain ⟨o4', o5', e1⟩ := l2 s (some (lstI sz)) (some (.lst (dP found))) found o4 o5 (by omega) hs.2 (by omega) fun p hp => by have := h4 p hp; omega
    refine ⟨_, rfl, _, .inl ?_, grow found s, some (.int s), some (.lst (dP (grow found s))), o4', o5', rfl, h2, hr, fun p hp => ?_, ?_⟩
    · simp [b__law_plays_2]
      rw [e1]
      simp
    · obtain ⟨q, hq, c, _, _, rfl⟩ := grow_item.mp hp
      have := h4 q hq
      simp at this ⊢
      omega
    · rw [grow_len]
      have : ((found.length * s.toNat : Nat) : Int) = found.length * s := by rw [Int.natCast_mul]; congr 1; omega
      rw [this, Int.mul_assoc]
      exact h5) sz [some (lstI sz), some (.lst [tupI []]), none, none, none, none] ⟨[[]], none, none, none, none, rfl, rfl, g.item, fun p hp => by simp at hp; subst hp; have := g.len; simpa using this.2, by simpa using g.most⟩
  simp only [List.foldl_nil] at h2
  subst h2
  have h1 : loopD (tgN 2) b__law_plays_2 (dI sz) [some (lstI sz), some (.lst [.tup []]), none, none, none, none] = .nx [some (lstI sz), some (.lst (dP (allP sz))), o2, o3, o4, o5] := h1
  simp [f__law_plays, runD_eq, m__law_plays, startE, List.replicate, h1]

/-! ### pays -/
theorem pow24 : oPow (.int 10) (.int 24) = .ok (.int 1000000000000000000000000) := by simp [oPow, powOk]
theorem pays_ok (c : Int) (n : Nat) (hn : n ≤ 1000) : ∃ row : List Int, f__law_pays [.int c, .int (n : Int)] = .ok (lstI row) ∧ row.length = n := by
  obtain ⟨row, hrow, hlen, hitem⟩ := row_ok c 100003 n hn (by omega) (by omega)
  obtain ⟨v, hv⟩ := mix c 91
  have hz : row.length ≤ 16777216 := by omega
  have lc : ∀ (e : Fz.Env → Res D) (g : Int → D) (ks : D), (∀ x ∈ row, e [some (.int c), some (.int (n : Int)), some ks, some (lstI row), some (.int x)] = .ok (g x)) →
      lcGo (tgN 4) dYes e [some (.int c), some (.int (n : Int)), some ks, some (lstI row), none] (dI row) = .ok (row.map g) := fun e g ks h => lc_map (dd := D.int) fun x hx => ⟨_, rfl, h x hx⟩
  have en : ∀ g : Int → Int, endLc (.ok (row.map fun x => D.int (g x))) = .ok (lstI (row.map g)) := fun g => by
    rw [endLc_map hz]; simp
  by_cases q0 : v % 5 = 0
  · refine ⟨row.map fun x => x % 5 - 2, ?_, by simp [hlen]⟩
    have l0 := lc b__law_pays_0 (fun x => .int (x % 5 - 2)) (.int 0) fun x hx => by simp [b__law_pays_0, oMod_p]
    simp [f__law_pays, runD_eq, m__law_pays, startE, List.replicate, hv, hrow, oMod_p, q0, l0, en]
  by_cases q1 : v % 5 = 1
  · refine ⟨row.map fun x => x % 41 - 20, ?_, by simp [hlen]⟩
    have l0 := lc b__law_pays_1 (fun x => .int (x % 41 - 20)) (.int 1) fun x hx => by simp [b__law_pays_1, oMod_p]
    simp [f__law_pays, runD_eq, m__law_pays, startE, List.replicate, hv, hrow, oMod_p, q1, l0, en]
  by_cases q2 : v % 5 = 2
  · refine ⟨row.map fun x => x - 50001, ?_, by simp [hlen]⟩
    have l0 := lc (d2 oSub (dv 4) (dc (.int 50001))) (fun x => .int (x - 50001)) (.int 2) fun x hx => by simp
    simp [f__law_pays, runD_eq, m__law_pays, startE, List.replicate, hv, hrow, oMod_p, q2, l0, en]
  by_cases q3 : v % 5 = 3
  · refine ⟨row.map fun x => (x - 50001) * 1000000000000000000000000 + x, ?_, by simp [hlen]⟩
    have l0 := lc b__law_pays_2 (fun x => .int ((x - 50001) * 1000000000000000000000000 + x)) (.int 3) fun x hx => by
      have := hitem x hx
      have m : oMul (.int (x - 50001)) (.int 1000000000000000000000000) = .ok (.int ((x - 50001) * 1000000000000000000000000)) := oMul_l (by omega)
      simp [b__law_pays_2, pow24, m]
    simp [f__law_pays, runD_eq, m__law_pays, startE, List.replicate, hv, hrow, oMod_p, q3, l0, en]
  · refine ⟨row.map fun x => (x % 15 - 7) * 60, ?_, by simp [hlen]⟩
    have l0 := lc b__law_pays_3 (fun x => .int ((x % 15 - 7) * 60)) (.int (v % 5)) fun x hx => by simp [b__law_pays_3, oMod_p, oMul_r]
    simp [f__law_pays, runD_eq, m__law_pays, startE, List.replicate, hv, hrow, oMod_p, q0, q1, q2, q3, l0, en]

/-! ### gcd -/
theorem gcd_loop : ∀ (ds : List D) (a b : Int) (o2 o3 : Option D), 0 ≤ a → 0 ≤ b → b < ds.length → loopD (tgN 2) b__law_gcd_0 ds [some (.int a), some (.int b), o2, o3] = .ret (.int (Int.gcd a b))
  | [], a, b, o2, o3, h1, h2, h3 => by simp at h3; omega
  | d :: r, a, b, o2, o3, h1, h2, h3 => by
    by_cases q : b = 0
    · subst q
      have e : (a.natAbs : Int) = a := by omega
      exact loopD_ret rfl (by simp [b__law_gcd_0, e])
    · have hp : 0 < b := by omega
      have e := Int.emod_nonneg a q
      have e2 := Int.emod_lt_of_pos a hp
      have ih := gcd_loop r b (a % b) (some d) (some (.int (a % b))) h2 e (by simp at h3; omega)
      have eg : Int.gcd b (a % b) = Int.gcd a b := by
        obtain ⟨m, rfl⟩ : ∃ m : Nat, a = (m : Int) := ⟨a.toNat, by omega⟩
        obtain ⟨n, rfl⟩ : ∃ n : Nat, b = (n : Int) := ⟨b.toNat, by omega⟩
        rw [← Int.natCast_emod]
        show Nat.gcd n (m % n) = Nat.gcd m n
        rw [Nat.gcd_comm m n, Nat.gcd_comm n (m % n)]
        exact (Nat.gcd_rec n m).symm
      rw [eg] at ih
      rw [← ih]
      exact loopD_nx rfl (by simp [b__law_gcd_0, q, oMod_p hp])
theorem lgcd_ok (a b : Int) (ha : a.natAbs < 399) : f__law_gcd [.int a, .int b] = .ok (.int (Int.gcd a b)) := by
  obtain ⟨d, r, er, hl⟩ : ∃ d r, rngD 0 400 = d :: r ∧ r.length = 399 := by
    have := rngD_length 0 400
    cases e : rngD 0 400 with
    | nil => rw [e] at this; cases this
    | cons d r => rw [e] at this; exact ⟨d, r, rfl, by simpa using this⟩
  have hr : rng1D [.int 400] = .ok (d :: r) := by rw [← er]; exact rng1_ok (n := 400) (by omega)
  have ea : (if a < 0 then -a else a) = (a.natAbs : Int) := by split <;> omega
  have eb : (if b < 0 then -b else b) = (b.natAbs : Int) := by split <;> omega
  have eg : Int.gcd (a.natAbs : Int) (b.natAbs : Int) = Int.gcd a b := by simp [Int.gcd]
  have main : loopD (tgN 2) b__law_gcd_0 (d :: r) [some (.int (a.natAbs : Int)), some (.int (b.natAbs : Int)), none, none] = .ret (.int (Int.gcd a b)) := by
    by_cases q : (b.natAbs : Int) < 400
    · rw [gcd_loop (d :: r) _ _ _ _ (by omega) (by omega) (by simp; omega), eg]
    · have q0 : ¬ (b.natAbs : Int) = 0 := by omega
      have hp : 0 < (b.natAbs : Int) := by omega
      have e1 : (a.natAbs : Int) % (b.natAbs : Int) = a.natAbs := Int.emod_eq_of_lt (by omega) (by omega)
      have ih := gcd_loop r (b.natAbs : Int) ((a.natAbs : Int)) (some d) (some (.int (a.natAbs : Int))) (by omega) (by omega) (by omega)
      rw [Int.gcd_comm, eg] at ih
      have q0' : ¬ b = 0 := by omega
      rw [← ih]
      exact loopD_nx rfl (by simp [b__law_gcd_0, q0', oMod_p hp, e1])
  simp [f__law_gcd, runD_eq, m__law_gcd, startE, List.replicate, hr, ea, eb, main]
/-- the greatest common divisor of all -/
def fg (c : Int) (row : List Int) : Int := row.foldl (fun c n => ((Int.gcd c n : Nat) : Int)) c
theorem fg_cons (c n : Int) (r : List Int) : fg c (n :: r) = fg ((Int.gcd c n : Nat) : Int) r := rfl
theorem fg_range : ∀ (row : List Int) (c : Int), 1 ≤ c → 1 ≤ fg c row ∧ fg c row ≤ c
  | [], c, h => ⟨h, Int.le_refl _⟩
  | n :: r, c, h => by
    rw [fg_cons]
    have h1 : 1 ≤ ((Int.gcd c n : Nat) : Int) := by
      have := Int.gcd_pos_of_ne_zero_left n (show c ≠ 0 by omega)
      omega
    have h2 : ((Int.gcd c n : Nat) : Int) ≤ c := Int.le_of_dvd (by omega) (Int.gcd_dvd_left ..)
    have h3 := fg_range r _ h1
    exact ⟨h3.1, by omega⟩
theorem divisor_ok {x : D} {row : List Int} (hx : itD x = .ok (dI row)) (c : Int) : f_divisor [x, .int c] = .ok (.int (fg c row)) := by
  obtain ⟨e', h1, a, o, rfl, h2⟩ := loop_inv (dd := D.int) (tg := tgN 2) (body := b_divisor_0) (fun r e => ∃ a o, e = [some x, some (.int a), o] ∧ fg a r = fg c row) (fun y r e ⟨a, o, he, h2⟩ => by
    subst he
    exact ⟨_, rfl, _, .inl (by simp [b_divisor_0]), ((Int.gcd a y : Nat) : Int), some (.int y), rfl, h2⟩) row [some x, some (.int c), none] ⟨c, none, rfl, rfl⟩
  have h2 : a = fg c row := h2
  subst h2
  simp [f_divisor, runD_eq, m_divisor, startE, List.replicate, hx]
  rw [h1]
  simp
end K88
set_option Elab.async false
set_option linter.all false
set_option maxRecDepth 100000
/-! Games made. -/
namespace K88
open PySem Fz

theorem ints_map (ns : List Int) : ints? (dI ns) = some ns := ints?_map ns
theorem bMax_lst {ns : List Int} {n : Int} {r : List Int} (h : ns = n :: r) : bMax [lstI ns] = .ok (.int (maxZ ns)) := by
  subst h
  show (match ints? (dI (n :: r)) with | some (n :: r) => Res.ok (D.int (maxZ (n :: r))) | _ => .bad) = _
  rw [ints_map]
theorem bMin_lst {ns : List Int} {n : Int} {r : List Int} (h : ns = n :: r) : bMin [lstI ns] = .ok (.int (minZ ns)) := by
  subst h
  show (match ints? (dI (n :: r)) with | some (n :: r) => Res.ok (D.int (minZ (n :: r))) | _ => .bad) = _
  rw [ints_map]
theorem bMax_tup {ns : List Int} {n : Int} {r : List Int} (h : ns = n :: r) : bMax [tupI ns] = .ok (.int (maxZ ns)) := by
  subst h
  show (match ints? (dI (n :: r)) with | some (n :: r) => Res.ok (D.int (maxZ (n :: r))) | _ => .bad) = _
  rw [ints_map]
theorem bMin_tup {ns : List Int} {n : Int} {r : List Int} (h : ns = n :: r) : bMin [tupI ns] = .ok (.int (minZ ns)) := by
  subst h
  show (match ints? (dI (n :: r)) with | some (n :: r) => Res.ok (D.int (minZ (n :: r))) | _ => .bad) = _
  rw [ints_map]
theorem GoodS.cons {sz : List Int} (g : GoodS sz) : ∃ n r, sz = n :: r := by
  cases sz with
  | nil => have := g.len; simp at this
  | cons n r => exact ⟨n, r, rfl⟩
theorem check_lst {sz : List Int} (g : GoodS sz) : f_check_sizes [lstI sz] = .ok (tupI sz) := by
  obtain ⟨n, r, e⟩ := g.cons
  have h1 : 1 ≤ minZ sz := (g.item _ (by rw [e]; exact minZ_mem)).1
  have h2 : maxZ sz ≤ 5 := (g.item _ (by rw [e]; exact maxZ_mem)).2
  have l0 : ¬ ((sz.length : Nat) : Int) = 0 := by have := g.len; omega
  have l0' : ¬ sz = [] := by rw [e]; simp
  have l1 : ¬ 4 < ((sz.length : Nat) : Int) := by have := g.len; omega
  have l2 : ¬ minZ sz < 1 := by omega
  have l3 : ¬ 5 < maxZ sz := by omega
  have l4 : ¬ 120 < prod sz := by have := g.most; omega
  simp [f_check_sizes, runD_eq, m_check_sizes, startE, bMin_lst e, bMax_lst e, count_lst g.small, l0', l1, l2, l3, l4]
theorem check_tup {sz : List Int} (g : GoodS sz) : f_check_sizes [tupI sz] = .ok (tupI sz) := by
  obtain ⟨n, r, e⟩ := g.cons
  have h1 : 1 ≤ minZ sz := (g.item _ (by rw [e]; exact minZ_mem)).1
  have h2 : maxZ sz ≤ 5 := (g.item _ (by rw [e]; exact maxZ_mem)).2
  have l0' : ¬ sz = [] := by rw [e]; simp
  have l1 : ¬ 4 < ((sz.length : Nat) : Int) := by have := g.len; omega
  have l2 : ¬ minZ sz < 1 := by omega
  have l3 : ¬ 5 < maxZ sz := by omega
  have l4 : ¬ 120 < prod sz := by have := g.most; omega
  simp [f_check_sizes, runD_eq, m_check_sizes, startE, bMin_tup e, bMax_tup e, count_tup g.small, l0', l1, l2, l3, l4]
/-! ### a game -/
def mkGame (sz : List Int) (rows : List (List Int)) (over : Int) : D := .ins "Game" [("sizes", tupI sz), ("pays", .tup (rows.map tupI)), ("over", .int over)]
structure GoodG (sz : List Int) (rows : List (List Int)) : Prop where
  s : GoodS sz
  n : rows.length = sz.length
  r : ∀ row ∈ rows, (row.length : Int) = prod sz
def fgs (c : Int) (rows : List (List Int)) : Int := rows.foldl fg c
theorem fgs_range : ∀ (rows : List (List Int)) (c : Int), 1 ≤ c → 1 ≤ fgs c rows ∧ fgs c rows ≤ c
  | [], c, h => ⟨h, Int.le_refl _⟩
  | row :: r, c, h => by
    have h1 := fg_range row c h
    have h2 := fgs_range r (fg c row) h1.1
    exact ⟨h2.1, Int.le_trans h2.2 h1.2⟩
def divR (c : Int) (row : List Int) : List Int := row.map fun x => x / c
theorem GoodG.div {sz : List Int} {rows : List (List Int)} (g : GoodG sz rows) (c : Int) : GoodG sz (rows.map (divR c)) :=
  ⟨g.s, by simpa using g.n, fun row h => by
    obtain ⟨x, hx, rfl⟩ := List.mem_map.mp h
    simpa [divR] using g.r x hx⟩
theorem GoodG.most {sz : List Int} {rows : List (List Int)} (g : GoodG sz rows) {row : List Int} (h : row ∈ rows) : row.length ≤ 120 := by
  have := g.r row h
  have := g.s.most
  omega
theorem c_TG : (["Table", "Game"] : List Str).contains "Game" = true := by decide
theorem c_G : (["Game"] : List Str).contains "Game" = true := by decide
theorem put_1 (a b : D) : putD "pays" a [("sizes", b)] = ([("sizes", b), ("pays", a)] : List (Str × D)) := by
  have h : ¬ ("pays" : Str) = "sizes" := by decide
  simp [putD, h]
theorem put_2 (a b c : D) : putD "over" a [("sizes", b), ("pays", c)] = ([("sizes", b), ("pays", c), ("over", a)] : List (Str × D)) := by
  have h : ¬ ("over" : Str) = "sizes" := by decide
  have h2 : ¬ ("over" : Str) = "pays" := by decide
  simp [putD, h, h2]
theorem put_0 (f : Str) (a : D) : putD f a [] = [(f, a)] := rfl
theorem game_init {sz : List Int} {rows : List (List Int)} (g : GoodG sz rows) {over : Int} (h1 : 1 ≤ over) (h2 : over ≤ 1000000) :
    f_Game_init [lstI sz, .lst (rows.map lstI), .int over] = .ok [("sizes", tupI sz), ("pays", .tup ((rows.map (divR (fgs over rows))).map tupI)), ("over", .int (over / fgs over rows))] := by
  have hr := fgs_range rows over h1
  have ls : smallL sz := g.s.small
  -- the loop over the rows
  obtain ⟨e', e1, a, o6, rfl, e2, e3⟩ := loop_inv (dd := lstI) (tg := tgN 6) (body := b_Game_init_0) (fun r e => ∃ a o6, e = [some (.ins "Game" [("sizes", tupI sz)]), some (lstI sz), some (.lst (rows.map lstI)), some (.int over), some (.int (prod sz)), some (.int a), o6, none] ∧ fgs a r = fgs over rows ∧ ∀ row ∈ r, (row.length : Int) = prod sz) (fun row r e ⟨a, o6, he, k1, k2⟩ => by
    subst he
    have hl := k2 row List.mem_cons_self
    exact ⟨_, rfl, _, .inl (by simp [b_Game_init_0, hl, divisor_ok (x := lstI row) (row := row) rfl a]), fg a row, some (lstI row), rfl, k1, fun x hx => k2 x (List.mem_cons_of_mem _ hx)⟩) rows [some (.ins "Game" [("sizes", tupI sz)]), some (lstI sz), some (.lst (rows.map lstI)), some (.int over), some (.int (prod sz)), some (.int over), none, none] ⟨over, none, rfl, rfl, g.r⟩
  have e2 : a = fgs over rows := e2
  subst e2
  generalize hC : fgs over rows = C at *
  have dvv : ∀ x : Int, oDiv (.int x) (.int C) = .ok (.int (x / C)) := fun x => oDiv_p (by omega) (by omega)
  have dvA : ∀ row ∈ rows, b_Game_init_1 [some (.ins "Game" [("sizes", tupI sz)]), some (lstI sz), some (.lst (rows.map lstI)), some (.int over), some (.int (prod sz)), some (.int C), some (lstI row), none] = .ok (tupI (divR C row)) := fun row hrow => by
    have lc : lcGo (tgN 7) dYes (d2 oDiv (dv 7) (dv 5)) [some (.ins "Game" [("sizes", tupI sz)]), some (lstI sz), some (.lst (rows.map lstI)), some (.int over), some (.int (prod sz)), some (.int C), some (lstI row), none] (dI row) = .ok (row.map fun x => D.int (x / C)) := lc_map (dd := D.int) fun x hx => ⟨_, rfl, by simp [dvv]⟩
    have hz : row.length ≤ 16777216 := by have := g.most hrow; omega
    simp [b_Game_init_1, lc, endLc_map hz, divR]
  have lc2 : lcGo (tgN 6) dYes b_Game_init_1 [some (.ins "Game" [("sizes", tupI sz)]), some (lstI sz), some (.lst (rows.map lstI)), some (.int over), some (.int (prod sz)), some (.int C), none, none] (rows.map lstI) = .ok (rows.map fun row => tupI (divR C row)) := lc_map (dd := lstI) fun x hx => ⟨_, rfl, dvA x hx⟩
  have hz : rows.length ≤ 16777216 := by have := g.n; have := g.s.len; omega
  have ho : ¬ over < 1 := by omega
  have hn : (rows.length : Int) = sz.length := by have := g.n; omega
  simp [f_Game_init, runI_eq, m_Game_init, startE, List.replicate, check_lst g.s, c_TG, c_G, put_0, put_1, put_2, hn, ho, count_lst ls, e1, lc2, endLc_map hz, dvv, Function.comp_def]
end K88
set_option Elab.async false
set_option linter.all false
set_option maxRecDepth 100000
/-! Plays and places, plain. -/
namespace K88
open PySem Fz

def strd : List Int → List Int
  | [] => []
  | _ :: r => prod r :: strd r
def dot : List Int → List Int → Int
  | c :: p, s :: r => c * s + dot p r
  | _, _ => 0
def plcA : Int → List Int → List Int → Int
  | a, s :: r, c :: p => plcA (a * s + c) r p
  | a, _, _ => a
def okP : List Int → List Int → Prop
  | [], [] => True
  | s :: r, c :: p => 0 ≤ c ∧ c < s ∧ okP r p
  | _, _ => False
def dg : List Int → Int → List Int
  | [], _ => []
  | s :: r, a => (a / prod r) % s :: dg r a
theorem strd_len : ∀ sz : List Int, (strd sz).length = sz.length
  | [] => rfl
  | _ :: r => congrArg (· + 1) (strd_len r)
theorem okP_len : ∀ {sz p : List Int}, okP sz p → p.length = sz.length
  | [], [], _ => rfl
  | _ :: _, _ :: _, h => congrArg (· + 1) (okP_len h.2.2)
  | [], _ :: _, h => h.elim
  | _ :: _, [], h => h.elim
theorem plcA_dot : ∀ (a : Int) (sz p : List Int), p.length = sz.length → plcA a sz p = a * prod sz + dot p (strd sz)
  | a, [], [], _ => by simp [plcA, prod, dot]
  | a, s :: r, c :: p, h => by
    show plcA (a * s + c) r p = a * prod (s :: r) + (c * prod r + dot p (strd r))
    rw [plcA_dot _ r p (by simpa using h), prod_cons, Int.add_mul, Int.mul_assoc]
    omega
  | a, [], _ :: _, h => by simp at h
  | a, _ :: _, [], h => by simp at h
def plc (sz p : List Int) : Int := plcA 0 sz p
theorem plc_dot {sz p : List Int} (h : p.length = sz.length) : plc sz p = dot p (strd sz) := by
  unfold plc
  rw [plcA_dot 0 sz p h]; simp
theorem dot_range : ∀ {sz p : List Int}, okP sz p → 0 ≤ dot p (strd sz) ∧ dot p (strd sz) < prod sz
  | [], [], _ => by simp [dot, prod]
  | s :: r, c :: p, h => by
    obtain ⟨h1, h2, h3⟩ := h
    have ih := dot_range h3
    have pr : 0 < prod r := by omega
    show 0 ≤ c * prod r + dot p (strd r) ∧ c * prod r + dot p (strd r) < prod (s :: r)
    rw [prod_cons]
    have e1 : 0 ≤ c * prod r := Int.mul_nonneg h1 (by omega)
    have e2 : (c + 1) * prod r ≤ s * prod r := Int.mul_le_mul_of_nonneg_right (by omega) (by omega)
    rw [Int.add_mul] at e2
    omega
  | [], _ :: _, h => h.elim
  | _ :: _, [], h => h.elim
theorem nth_cons_zero (a : Int) (r : List Int) : nth (a :: r) 0 = a := rfl
theorem nth_cons_succ (a : Int) (r : List Int) (i : Nat) : nth (a :: r) (i + 1) = nth r i := by simp [nth]
theorem strd_dvd : ∀ {sz : List Int} {i : Nat}, i < sz.length → ∃ m, prod sz = nth (strd sz) i * nth sz i * m
  | s :: r, 0, _ => ⟨1, by show prod (s :: r) = prod r * s * 1; rw [prod_cons, Int.mul_comm]; omega⟩
  | s :: r, i + 1, h => by
    obtain ⟨m, e⟩ := strd_dvd (sz := r) (i := i) (by simpa using h)
    refine ⟨m * s, ?_⟩
    show prod (s :: r) = nth (prod r :: strd r) (i + 1) * nth (s :: r) (i + 1) * (m * s)
    rw [prod_cons, nth_cons_succ, nth_cons_succ, e, Int.mul_comm s, Int.mul_assoc _ m s]
theorem strd_pos : ∀ {sz : List Int} {i : Nat}, (∀ x ∈ sz, 1 ≤ x) → i < sz.length → 1 ≤ nth (strd sz) i
  | s :: r, 0, h, _ => prod_pos fun x hx => h x (List.mem_cons_of_mem _ hx)
  | s :: r, i + 1, h, hi => by
    show 1 ≤ nth (prod r :: strd r) (i + 1)
    rw [nth_cons_succ]
    exact strd_pos (fun x hx => h x (List.mem_cons_of_mem _ hx)) (by simpa using hi)
/-- the own digit -/
theorem digit : ∀ {sz p : List Int} {i : Nat}, (∀ x ∈ sz, 1 ≤ x) → okP sz p → i < sz.length → (dot p (strd sz) / nth (strd sz) i) % nth sz i = nth p i
  | s :: r, c :: p, 0, h, ok, _ => by
    obtain ⟨h1, h2, h3⟩ := ok
    have ih := dot_range h3
    show ((c * prod r + dot p (strd r)) / prod r) % s = c
    have e : (c * prod r + dot p (strd r)) / prod r = c := by
      rw [Int.add_comm, Int.add_mul_ediv_right _ _ (by omega), Int.ediv_eq_zero_of_lt ih.1 ih.2]
      omega
    rw [e, Int.emod_eq_of_lt h1 h2]
  | s :: r, c :: p, i + 1, h, ok, hi => by
    obtain ⟨h1, h2, h3⟩ := ok
    have hr : ∀ x ∈ r, 1 ≤ x := fun x hx => h x (List.mem_cons_of_mem _ hx)
    have hi' : i < r.length := by simpa using hi
    have ih := digit hr h3 hi'
    obtain ⟨m, e⟩ := strd_dvd hi'
    have sp := strd_pos hr hi'
    show ((c * prod r + dot p (strd r)) / nth (prod r :: strd r) (i + 1)) % nth (s :: r) (i + 1) = nth (c :: p) (i + 1)
    rw [nth_cons_succ, nth_cons_succ, nth_cons_succ]
    have e1 : c * prod r + dot p (strd r) = dot p (strd r) + (c * m * nth r i) * nth (strd r) i := by
      rw [e, Int.add_comm]
      congr 1
      simp [Int.mul_comm, Int.mul_left_comm, Int.mul_assoc]
    rw [e1, Int.add_mul_ediv_right _ _ (by omega), Int.add_mul_emod_self_right]
    exact ih
  | [], [], i, _, _, hi => by simp at hi
  | [], _ :: _, _, _, ok, _ => ok.elim
  | _ :: _, [], _, _, ok, _ => ok.elim
theorem dg_dot : ∀ {sz p : List Int}, (∀ x ∈ sz, 1 ≤ x) → okP sz p → ∀ a, (∀ i, i < sz.length → (a / nth (strd sz) i) % nth sz i = nth p i) → dg sz a = p
  | [], [], _, _, a, _ => rfl
  | s :: r, c :: p, h, ok, a, k => by
    show (a / prod r) % s :: dg r a = c :: p
    have k0 := k 0 (by simp)
    rw [show nth (strd (s :: r)) 0 = prod r from rfl, show nth (s :: r) 0 = s from rfl, show nth (c :: p) 0 = c from rfl] at k0
    rw [k0, dg_dot (fun x hx => h x (List.mem_cons_of_mem _ hx)) ok.2.2 a fun i hi => by
      have := k (i + 1) (by simpa using hi)
      rw [show nth (strd (s :: r)) (i + 1) = nth (strd r) i from nth_cons_succ _ _ _, nth_cons_succ, nth_cons_succ] at this
      exact this]
  | [], _ :: _, _, ok, _, _ => ok.elim
  | _ :: _, [], _, ok, _, _ => ok.elim
theorem dg_plc {sz p : List Int} (h : ∀ x ∈ sz, 1 ≤ x) (ok : okP sz p) : dg sz (plc sz p) = p := by
  rw [plc_dot (okP_len ok)]
  exact dg_dot h ok _ fun i hi => digit h ok hi
/-- one choice changed -/
theorem dot_set : ∀ {p t : List Int} {i : Nat} (c : Int), i < p.length → p.length = t.length → dot (p.set i c) t = dot p t + nth t i * (c - nth p i)
  | a :: p, s :: t, 0, c, _, _ => by
    show c * s + dot p t = a * s + dot p t + s * (c - a)
    rw [Int.mul_sub, Int.mul_comm s c, Int.mul_comm s a]; omega
  | a :: p, s :: t, i + 1, c, h, hl => by
    show a * s + dot (p.set i c) t = a * s + dot p t + nth (s :: t) (i + 1) * (c - nth (a :: p) (i + 1))
    rw [nth_cons_succ, nth_cons_succ, dot_set c (by simpa using h) (by simpa using hl)]; omega
  | [], _, _, _, h, _ => by simp at h
  | _ :: _, [], _, _, _, hl => by simp at hl
theorem okP_set : ∀ {sz p : List Int} {i : Nat} {c : Int}, okP sz p → i < sz.length → 0 ≤ c → c < nth sz i → okP sz (p.set i c)
  | s :: r, a :: p, 0, c, ok, _, h1, h2 => ⟨h1, h2, ok.2.2⟩
  | s :: r, a :: p, i + 1, c, ok, hi, h1, h2 => ⟨ok.1, ok.2.1, okP_set ok.2.2 (by simpa using hi) h1 (by rw [nth_cons_succ] at h2; exact h2)⟩
  | [], [], _, _, _, hi, _, _ => by simp at hi
  | [], _ :: _, _, _, ok, _, _, _ => ok.elim
  | _ :: _, [], _, _, ok, _, _, _ => ok.elim
theorem okP_nth : ∀ {sz p : List Int} {i : Nat}, okP sz p → i < sz.length → 0 ≤ nth p i ∧ nth p i < nth sz i
  | s :: r, a :: p, 0, ok, _ => ⟨ok.1, ok.2.1⟩
  | s :: r, a :: p, i + 1, ok, hi => by rw [nth_cons_succ, nth_cons_succ]; exact okP_nth ok.2.2 (by simpa using hi)
  | [], [], _, _, hi => by simp at hi
  | [], _ :: _, _, ok, _ => ok.elim
  | _ :: _, [], _, ok, _ => ok.elim
theorem plc_set {sz p : List Int} {i : Nat} {c : Int} (ok : okP sz p) (hi : i < sz.length) : plc sz (p.set i c) = plc sz p + nth (strd sz) i * (c - nth p i) := by
  have hl := okP_len ok
  rw [plc_dot (by simpa using hl), plc_dot hl, dot_set c (by omega) (by rw [strd_len]; exact hl)]
theorem plc_range {sz p : List Int} (ok : okP sz p) : 0 ≤ plc sz p ∧ plc sz p < prod sz := by
  rw [plc_dot (okP_len ok)]; exact dot_range ok
/-! ### all plays, in order -/
theorem okP_snoc : ∀ {sz p : List Int} {s c : Int}, okP sz p → 0 ≤ c → c < s → okP (sz ++ [s]) (p ++ [c])
  | [], [], s, c, _, h1, h2 => ⟨h1, h2, trivial⟩
  | _ :: _, _ :: _, s, c, ok, h1, h2 => ⟨ok.1, ok.2.1, okP_snoc ok.2.2 h1 h2⟩
  | [], _ :: _, _, _, ok, _, _ => ok.elim
  | _ :: _, [], _, _, ok, _, _ => ok.elim
theorem plcA_snoc : ∀ (sz p : List Int) (a s c : Int), p.length = sz.length → plcA a (sz ++ [s]) (p ++ [c]) = plcA a sz p * s + c
  | [], [], a, s, c, _ => rfl
  | x :: r, y :: p, a, s, c, h => plcA_snoc r p (a * x + y) s c (by simpa using h)
  | [], _ :: _, _, _, _, h => by simp at h
  | _ :: _, [], _, _, _, h => by simp at h
theorem digs_mul (m : Int) (n : Nat) (f : Int → Int) : True := trivial
theorem digs_succ (n : Nat) : digs (n + 1) = digs n ++ [(n : Int)] := by simp [digs, List.range_succ]
/-- 0 .. n * m - 1, block by block -/
theorem digs_block (n m : Nat) : (digs n).flatMap (fun q => (digs m).map fun b => q * (m : Int) + b) = digs (n * m) := by
  induction n with
  | zero => simp [digs]
  | succ n ih =>
    have key : ∀ k : Nat, digs (n * m + k) = digs (n * m) ++ (digs k).map fun b => (n : Int) * (m : Int) + b := fun k => by
      induction k with
      | zero => simp [digs]
      | succ k ihk =>
        rw [← Nat.add_assoc, digs_succ, ihk, digs_succ]
        simp
    rw [digs_succ, List.flatMap_append, ih, Nat.succ_mul, key]
    simp
theorem grow_all : ∀ (r pre : List Int) (found : List (List Int)), (∀ x ∈ r, 1 ≤ x) → (∀ f ∈ found, okP pre f) →
    (∀ p ∈ r.foldl grow found, okP (pre ++ r) p) ∧ (r.foldl grow found).map (plc (pre ++ r)) = (found.map (plc pre)).flatMap fun a => (digs (prod r).toNat).map fun b => a * prod r + b
  | [], pre, found, _, h => by
    refine ⟨by simpa using h, ?_⟩
    simp [prod, digs, List.range_succ]
  | s :: r, pre, found, hs, h => by
    have hs1 := hs s List.mem_cons_self
    have hr : ∀ x ∈ r, 1 ≤ x := fun x hx => hs x (List.mem_cons_of_mem _ hx)
    have pr := prod_pos hr
    have ih := grow_all r (pre ++ [s]) (grow found s) hr fun f hf => by
      obtain ⟨q, hq, c, h1, h2, rfl⟩ := grow_item.mp hf
      exact okP_snoc (h q hq) h1 h2
    rw [List.append_assoc, List.singleton_append] at ih
    refine ⟨ih.1, ?_⟩
    show (r.foldl grow (grow found s)).map (plc (pre ++ s :: r)) = _
    rw [ih.2]
    have e1 : (grow found s).map (plc (pre ++ [s])) = (found.map (plc pre)).flatMap fun a => (digs s.toNat).map fun c => a * s + c := by
      clear ih
      induction found with
      | nil => rfl
      | cons f t iht =>
        rw [grow_cons, List.map_append, iht fun g hg => h g (List.mem_cons_of_mem _ hg)]
        simp only [List.map_map, List.map_cons, List.flatMap_cons]
        congr 1
        apply List.map_congr_left
        intro c hc
        exact plcA_snoc pre f 0 s c (okP_len (h f List.mem_cons_self))
    rw [e1, prod_cons]
    have ep : (s * prod r).toNat = s.toNat * (prod r).toNat := by
      rw [Int.toNat_mul (by omega) (by omega)]
    rw [ep, ← digs_block]
    have em : (((prod r).toNat : Nat) : Int) = prod r := by omega
    rw [em]
    induction (found.map (plc pre)) with
    | nil => rfl
    | cons a t iht =>
      simp only [List.flatMap_cons, List.flatMap_append, iht]
      congr 1
      rw [List.flatMap_map, List.map_flatMap]
      congr 1
      funext q
      rw [List.map_map]
      apply List.map_congr_left
      intro b _
      show (a * s + q) * prod r + b = a * (s * prod r) + (q * prod r + b)
      rw [Int.add_mul, Int.mul_assoc]; omega
theorem allP_ok {sz : List Int} (h : ∀ x ∈ sz, 1 ≤ x) : (∀ p ∈ allP sz, okP sz p) ∧ (allP sz).map (plc sz) = digs (prod sz).toNat := by
  have := grow_all sz [] [[]] h fun f hf => by simp at hf; subst hf; trivial
  show (∀ p ∈ sz.foldl grow [[]], okP sz p) ∧ (sz.foldl grow [[]]).map (plc sz) = _
  simpa [plc, plcA] using this
end K88
set_option Elab.async false
set_option linter.all false
set_option maxRecDepth 100000
/-! Plays and places: what the defs reckon. -/
namespace K88
open PySem Fz

theorem zipD_dI : ∀ (p sz : List Int), zipD (dI p) (dI sz) = (p.zip sz).map fun q => D.tup [.int q.1, .int q.2]
  | [], _ => rfl
  | _ :: _, [] => rfl
  | c :: p, s :: r => by
    show D.tup [.int c, .int s] :: zipD (dI p) (dI r) = _
    rw [zipD_dI]; rfl
theorem zp2_tt (p sz : List Int) : zp2D [tupI p, tupI sz] = .ok ((p.zip sz).map fun q => D.tup [.int q.1, .int q.2]) := by
  show Res.ok (zipD (dI p) (dI sz)) = _
  rw [zipD_dI]
def okZ (z : List (Int × Int)) : Bool := z.all fun q => decide (0 ≤ q.1) && decide (q.1 < q.2)
theorem okP_iff : ∀ {sz p : List Int}, okP sz p ↔ p.length = sz.length ∧ okZ (p.zip sz) = true
  | [], [] => by simp [okP, okZ]
  | s :: r, c :: p => by
    have ih := okP_iff (sz := r) (p := p)
    show (0 ≤ c ∧ c < s ∧ okP r p) ↔ _
    rw [ih]
    simp [okZ]
    constructor
    · rintro ⟨h1, h2, h3, h4⟩; exact ⟨h3, ⟨h1, h2⟩, h4⟩
    · rintro ⟨h3, ⟨h1, h2⟩, h4⟩; exact ⟨h1, h2, h3, h4⟩
  | [], _ :: _ => by simp [okP]
  | _ :: _, [] => by simp [okP]
theorem isplay_loop (a b : Option D) : ∀ (z : List (Int × Int)) (o2 o3 : Option D), if okZ z = true then ∃ u2 u3, loopD (tgT [2, 3]) b_is_play_0 (z.map fun q => D.tup [.int q.1, .int q.2]) [a, b, o2, o3] = .nx [a, b, u2, u3] else loopD (tgT [2, 3]) b_is_play_0 (z.map fun q => D.tup [.int q.1, .int q.2]) [a, b, o2, o3] = .ret (.bl false)
  | [], o2, o3 => ⟨o2, o3, rfl⟩
  | (c, s) :: z, o2, o3 => by
    have ih := isplay_loop a b z (some (.int c)) (some (.int s))
    have e : okZ ((c, s) :: z) = (decide (0 ≤ c) && decide (c < s) && okZ z) := rfl
    rw [List.map_cons, e]
    by_cases q1 : 0 ≤ c
    · by_cases q2 : c < s
      · have hb : b_is_play_0 [a, b, some (.int c), some (.int s)] = .nx [a, b, some (.int c), some (.int s)] := by simp [b_is_play_0, q1, q2]
        rw [loopD_nx (e1 := [a, b, some (.int c), some (.int s)]) rfl hb]
        simpa [q1, q2] using ih
      · have hb : b_is_play_0 [a, b, some (.int c), some (.int s)] = .ret (.bl false) := by simp [b_is_play_0, q1, q2]
        rw [loopD_ret (e1 := [a, b, some (.int c), some (.int s)]) rfl hb]
        simp [q2]
    · have hb : b_is_play_0 [a, b, some (.int c), some (.int s)] = .ret (.bl false) := by simp [b_is_play_0, q1]
      rw [loopD_ret (e1 := [a, b, some (.int c), some (.int s)]) rfl hb]
      simp [q1]
theorem isplay_yes {sz p : List Int} (h : okP sz p) : f_is_play [tupI sz, tupI p] = .ok (.bl true) := by
  obtain ⟨h1, h2⟩ := okP_iff.mp h
  have l := isplay_loop (some (tupI sz)) (some (tupI p)) (p.zip sz) none none
  rw [if_pos h2] at l
  obtain ⟨u2, u3, e⟩ := l
  simp [f_is_play, runD_eq, m_is_play, startE, List.replicate, h1, zp2_tt, e]
theorem isplay_no {sz p : List Int} (h : ¬ okP sz p) : f_is_play [tupI sz, tupI p] = .ok (.bl false) := by
  by_cases h1 : p.length = sz.length
  · have h2 : ¬ okZ (p.zip sz) = true := fun q => h (okP_iff.mpr ⟨h1, q⟩)
    have l := isplay_loop (some (tupI sz)) (some (tupI p)) (p.zip sz) none none
    rw [if_neg h2] at l
    simp [f_is_play, runD_eq, m_is_play, startE, List.replicate, h1, zp2_tt, l]
  · have h1' : ¬ (p.length : Int) = sz.length := by omega
    simp [f_is_play, runD_eq, m_is_play, startE, List.replicate, h1']
theorem plc_zip : ∀ (a : Int) (sz p : List Int), p.length = sz.length → (p.zip sz).foldl (fun a q => a * q.2 + q.1) a = plcA a sz p
  | a, [], [], _ => rfl
  | a, s :: r, c :: p, h => plc_zip (a * s + c) r p (by simpa using h)
  | a, [], _ :: _, h => by simp at h
  | a, _ :: _, [], h => by simp at h
theorem place_yes {sz p : List Int} (hs : smallL sz) (h : okP sz p) : f_place [tupI sz, tupI p] = .ok (.int (plc sz p)) := by
  have hl := okP_len h
  obtain ⟨e', h1, a, o3, o4, rfl, h2, _⟩ := loop_inv (dd := fun q : Int × Int => D.tup [.int q.1, .int q.2]) (tg := tgT [3, 4]) (body := b_place_0) (fun z e => ∃ a o3 o4, e = [some (tupI sz), some (tupI p), some (.int a), o3, o4] ∧ z.foldl (fun a q => a * q.2 + q.1) a = plc sz p ∧ ∀ q ∈ z, -(2 ^ 60) ≤ q.2 ∧ q.2 ≤ 2 ^ 60) (fun q z e ⟨a, o3, o4, he, h2, h3⟩ => by
    subst he
    have hq := h3 q List.mem_cons_self
    exact ⟨_, rfl, _, .inl (by simp [b_place_0, oMul_r hq]), a * q.2 + q.1, some (.int q.1), some (.int q.2), rfl, h2, fun x hx => h3 x (List.mem_cons_of_mem _ hx)⟩) (p.zip sz) [some (tupI sz), some (tupI p), some (.int 0), none, none] ⟨0, none, none, rfl, plc_zip 0 sz p hl, fun q hq => hs _ (List.of_mem_zip hq).2⟩
  have h2 : a = plc sz p := h2
  subst h2
  simp [f_place, runD_eq, m_place, startE, List.replicate, isplay_yes h, zp2_tt, h1]
theorem place_no {sz p : List Int} (h : ¬ okP sz p) : f_place [tupI sz, tupI p] = .exc "BadPlay" [] := by
  simp [f_place, runD_eq, m_place, startE, List.replicate, isplay_no h]
theorem take_zip {sz p : List Int} {i : Nat} (hl : p.length = sz.length) (hi : i < sz.length) : (p.zip sz).take (i + 1) = (p.zip sz).take i ++ [(nth p i, nth sz i)] := by
  have e : (p.zip sz)[i]? = some (nth p i, nth sz i) := List.getElem?_zip_eq_some.mpr ⟨nth_get (by omega), nth_get hi⟩
  rw [List.take_add_one, e]
  rfl
theorem lplace_ok {sz p : List Int} (hs : smallL sz) (hn : sz.length ≤ 1000) (hl : p.length = sz.length) : f__law_place [lstI sz, tupI p] = .ok (.int (plc sz p)) := by
  obtain ⟨e', h1, a, o3, rfl, h2⟩ := loop_rng (lo := 0) (tg := tgN 3) (body := b__law_place_0) sz.length (fun i e => ∃ a o3, e = [some (lstI sz), some (tupI p), some (.int a), o3] ∧ a = ((p.zip sz).take i).foldl (fun a q => a * q.2 + q.1) 0) (fun i e hi ⟨a, o3, he, h2⟩ => by
    subst he
    have i1 : oIx (lstI sz) (.int (i : Int)) = .ok (.int (nth sz i)) := oIx_lst rfl (dI_get hi)
    have i2 : oIx (tupI p) (.int (i : Int)) = .ok (.int (nth p i)) := oIx_tup rfl (dI_get (by omega))
    have hq := hs _ (nth_mem hi)
    exact ⟨_, rfl, _, .inl (by simp [b__law_place_0, i1, i2, oMul_r hq]), a * nth sz i + nth p i, some (.int (i : Int)), rfl, by rw [take_zip hl hi, List.foldl_append, ← h2]; rfl⟩) [some (lstI sz), some (tupI p), some (.int 0), none] ⟨0, none, rfl, rfl⟩
  rw [List.take_of_length_le (by simp; omega), plc_zip 0 sz p hl] at h2
  have h2 : a = plc sz p := h2
  subst h2
  simp [f__law_place, runD_eq, m__law_place, startE, List.replicate, rng1_ok hn, h1]
theorem strides_ok {sz : List Int} (hs : smallL sz) (hn : sz.length ≤ 1000) : f_strides [tupI sz] = .ok (tupI (strd sz)) := by
  obtain ⟨e', h1, t, o3, rfl, h2, _⟩ := loop_inv (dd := D.int) (tg := tgN 3) (body := b_strides_0) (fun r e => ∃ t o3, e = [some (tupI sz), some (lstI (strd t).reverse), some (.int (prod t)), o3] ∧ r.reverse ++ t = sz ∧ smallL r) (fun s r e ⟨t, o3, he, h2, h3⟩ => by
    subst he
    have hq := h3 s List.mem_cons_self
    have hlen : t.length ≤ 1000 := by rw [← h2] at hn; simp at hn; omega
    have hz : (strd t).length < 16777216 := by rw [strd_len]; omega
    refine ⟨_, rfl, _, .inl ?_, s :: t, some (.int s), rfl, by rw [← h2]; simp, fun x hx => h3 x (List.mem_cons_of_mem _ hx)⟩
    simp [b_strides_0, oMul_r hq, hz, strd, prod_cons, Int.mul_comm]) sz.reverse [some (tupI sz), some (lstI []), some (.int 1), none] ⟨[], none, rfl, by simp, fun x hx => hs x (by simpa using hx)⟩
  simp at h2
  subst h2
  have h1 : loopD (tgN 3) b_strides_0 (dI t).reverse [some (tupI t), some (.lst []), some (.int 1), none] = .nx [some (tupI t), some (lstI (strd t).reverse), some (.int (prod t)), o3] := by
    rw [← List.map_reverse]; exact h1
  simp [f_strides, runD_eq, m_strides, startE, List.replicate, h1]
theorem playat_ok {sz : List Int} (hs : ∀ x ∈ sz, 1 ≤ x ∧ x ≤ 1000000) (hn : sz.length ≤ 1000) {a : Int} (h0 : 0 ≤ a) (ha : a < prod sz) : f_play_at [tupI sz, .int a] = .ok (tupI (dg sz a)) := by
  have hsm : smallL sz := fun x hx => by have := hs x hx; omega
  obtain ⟨e', h1, t, o3, rfl, h2, _⟩ := loop_inv (dd := D.int) (tg := tgN 3) (body := b_play_at_0) (fun r e => ∃ t o3, e = [some (tupI sz), some (.int (a / prod t)), some (lstI (dg t a).reverse), o3] ∧ r.reverse ++ t = sz ∧ (∀ x ∈ t, 1 ≤ x)  ∧ (∀ x ∈ r, 1 ≤ x ∧ x ≤ 1000000)) (fun s r e ⟨t, o3, he, h2, h3, h4⟩ => by
    subst he
    have hq := h4 s List.mem_cons_self
    have hlen : t.length ≤ 1000 := by rw [← h2] at hn; simp at hn; omega
    have hz : (dg t a).length < 16777216 := by
      have : ∀ t : List Int, (dg t a).length = t.length := fun t => by induction t with | nil => rfl | cons x t ih => simp [dg, ih]
      rw [this]; omega
    have hp := prod_pos h3
    refine ⟨_, rfl, _, .inl ?_, s :: t, some (.int s), rfl, by rw [← h2]; simp, fun x hx => ?_, fun x hx => h4 x (List.mem_cons_of_mem _ hx)⟩
    · simp [b_play_at_0, oMod_p (show 0 < s by omega), oDiv_p (show 0 < s by omega) (show s < 1073741824 by omega), hz, dg, prod_cons]
      rw [Int.mul_comm s, Int.ediv_ediv_of_nonneg (by omega)]
    · rcases List.mem_cons.mp hx with q | q
      · rw [q]; exact hq.1
      · exact h3 x q) sz.reverse [some (tupI sz), some (.int a), some (lstI []), none] ⟨[], none, by simp [prod, dg], by simp, (fun x hx => by cases hx), fun x hx => hs x (by simpa using hx)⟩
  simp at h2
  subst h2
  have h1 : loopD (tgN 3) b_play_at_0 (dI t).reverse [some (tupI t), some (.int a), some (.lst []), none] = .nx [some (tupI t), some (.int (a / prod t)), some (lstI (dg t a).reverse), o3] := by
    rw [← List.map_reverse]; exact h1
  simp [f_play_at, runD_eq, m_play_at, startE, List.replicate, count_tup hsm, h0, ha, h1]
end K88
set_option Elab.async false
set_option linter.all false
set_option maxRecDepth 100000
/-! Gains. -/
namespace K88
open PySem Fz

theorem fS (sz : List Int) (rows : List (List Int)) (o : Int) : oFld ["Table", "Game"] "sizes" (mkGame sz rows o) = .ok (tupI sz) := by
  have h : (("sizes" : Str) == "sizes") = true := by decide
  simp [mkGame, c_TG, List.lookup, h]
theorem fP (sz : List Int) (rows : List (List Int)) (o : Int) : oFld ["Game"] "pays" (mkGame sz rows o) = .ok (.tup (rows.map tupI)) := by
  have h : (("pays" : Str) == "sizes") = false := by decide
  have h2 : (("pays" : Str) == "pays") = true := by decide
  simp [mkGame, c_G, List.lookup, h, h2]
theorem fO (sz : List Int) (rows : List (List Int)) (o : Int) : oFld ["Table", "Game"] "over" (mkGame sz rows o) = .ok (.int o) := by
  have h : (("over" : Str) == "sizes") = false := by decide
  have h2 : (("over" : Str) == "pays") = false := by decide
  have h3 : (("over" : Str) == "over") = true := by decide
  simp [mkGame, c_TG, List.lookup, h, h2, h3]
/-- pays of person i at the play p -/
def payA (sz : List Int) (rows : List (List Int)) (p : List Int) (i : Nat) : Int := nth (nthA rows i) (plc sz p).toNat
/-- the gain of person i by c -/
def gn (sz : List Int) (rows : List (List Int)) (p : List Int) (i : Nat) (c : Int) : Int := payA sz rows (p.set i c) i - payA sz rows p i
theorem ischange_yes {sz : List Int} {i : Nat} {c : Int} (hi : i < sz.length) (h0 : 0 ≤ c) (hc : c < nth sz i) : f_is_change [tupI sz, .int (i : Int), .int c] = .ok (.bl true) := by
  have hi' : (i : Int) < sz.length := by omega
  have hi0 : (0 : Int) ≤ (i : Int) := by omega
  simp [f_is_change, runD_eq, m_is_change, startE, List.replicate, oIx_dN hi, h0, hc, hi]
theorem pay_at {sz : List Int} {rows : List (List Int)} (g : GoodG sz rows) {p : List Int} {i : Nat} (ok : okP sz p) (hi : i < sz.length) {a : Int} (ha : a = plc sz p) : oIx (tupI (nthA rows i)) (.int a) = .ok (.int (payA sz rows p i)) := by
  have hr := plc_range ok
  have hm := g.r _ (nthA_mem (xs := rows) (n := i) (by have := g.n; omega))
  rw [ha, oIx_tupI hr.1 (by omega)]
  rfl
theorem gain_yes {sz : List Int} {rows : List (List Int)} (g : GoodG sz rows) (o : Int) {p : List Int} {i : Nat} {c : Int} (ok : okP sz p) (hi : i < sz.length) (h0 : 0 ≤ c) (hc : c < nth sz i) :
    f_gain [mkGame sz rows o, tupI p, .int (i : Int), .int c] = .ok (.int (gn sz rows p i c)) := by
  have hl := okP_len ok
  have hir : i < rows.length := by have := g.n; omega
  have ok2 := okP_set ok hi h0 hc
  have i1 : oIx (.tup (rows.map tupI)) (.int (i : Int)) = .ok (tupI (nthA rows i)) := oIx_mN hir
  have i2 : oIx (tupI (strd sz)) (.int (i : Int)) = .ok (.int (nth (strd sz) i)) := oIx_dN (by rw [strd_len]; exact hi)
  have i3 : oIx (tupI p) (.int (i : Int)) = .ok (.int (nth p i)) := oIx_dN (by omega)
  have i4 := pay_at g ok hi rfl
  have i5 := pay_at g ok2 hi (plc_set ok hi).symm
  have hp := okP_nth ok hi
  have hs := g.s.item _ (nth_mem hi)
  have m1 : oMul (.int (nth (strd sz) i)) (.int (c - nth p i)) = .ok (.int (nth (strd sz) i * (c - nth p i))) := oMul_r (by omega)
  have sl : sz.length ≤ 1000 := by have := g.s.len; omega
  simp [f_gain, runD_eq, m_gain, startE, List.replicate, fS, fP, place_yes g.s.small ok, ischange_yes hi h0 hc, strides_ok g.s.small sl, i1, i2, i3, m1, i4, i5, gn]
theorem set_cut {p : List Int} {i : Nat} (c : Int) (hi : i < p.length) : p.take i ++ c :: p.drop (i + 1) = p.set i c := (List.set_eq_take_append_cons_drop ..).symm ▸ by simp [hi]
theorem lgain_ok {sz : List Int} {rows : List (List Int)} (g : GoodG sz rows) {p : List Int} {i : Nat} {c : Int} (ok : okP sz p) (hi : i < sz.length) (h0 : 0 ≤ c) (hc : c < nth sz i) :
    f__law_gain [lstI sz, .lst (rows.map lstI), tupI p, .int (i : Int), .int c] = .ok (.int (gn sz rows p i c)) := by
  have hl := okP_len ok
  have hir : i < rows.length := by have := g.n; omega
  have ok2 := okP_set ok hi h0 hc
  have sl : sz.length ≤ 1000 := by have := g.s.len; omega
  have c1 : sliD (tupI p) none (some (i : Int)) = .ok (.tup ((dI p).take i)) := by
    show Res.ok (D.tup (cutD (dI p) none (some (i : Int)))) = _
    rw [cut_lo (by simp; omega)]
  have c2 : sliD (tupI p) (some ((i : Int) + 1)) none = .ok (.tup ((dI p).drop (i + 1))) := by
    show Res.ok (D.tup (cutD (dI p) (some ((i : Int) + 1)) none)) = _
    have : ((i : Int) + 1) = ((i + 1 : Nat) : Int) := by omega
    rw [this, cut_hi (by simp; omega)]
  have a1 : oAdd (.tup ((dI p).take i)) (.tup [.int c]) = .ok (.tup ((dI p).take i ++ [.int c])) := oAdd_tup (by simp; omega)
  have a2 : oAdd (.tup ((dI p).take i ++ [.int c])) (.tup ((dI p).drop (i + 1))) = .ok (tupI (p.set i c)) := by
    rw [oAdd_tup (by simp; omega), ← set_cut c (by omega)]
    simp
  have i1 : oIx (.lst (rows.map lstI)) (.int (i : Int)) = .ok (lstI (nthA rows i)) := oIx_mNl hir
  have pa : ∀ {q : List Int}, okP sz q → oIx (lstI (nthA rows i)) (.int (plc sz q)) = .ok (.int (payA sz rows q i)) := fun {q} okq => by
    have hr := plc_range okq
    have hm := g.r _ (nthA_mem (xs := rows) (n := i) hir)
    rw [oIx_lstI hr.1 (by omega)]
    rfl
  have hl2 := okP_len ok2
  simp [f__law_gain, runD_eq, m__law_gain, startE, List.replicate, c1, c2, a1, a2, lplace_ok g.s.small sl hl, lplace_ok g.s.small sl hl2, i1, pa ok, pa ok2, gn]
end K88
set_option Elab.async false
set_option linter.all false
set_option maxRecDepth 100000
/-! Arcs. -/
namespace K88
open PySem Fz

theorem enumD_map : ∀ (k : Nat) (ns : List Int), enumD k (dI ns) = (List.range ns.length).map fun (i : Nat) => D.tup [.int ((k + i : Nat) : Int), .int (nth ns i)]
  | k, [] => rfl
  | k, n :: r => by
    show D.tup [.int (k : Nat), .int n] :: enumD (k + 1) (dI r) = _
    rw [enumD_map (k + 1) r]
    simp [List.range_succ_eq_map, nth, Nat.add_comm, Nat.add_left_comm]
section
variable (sz : List Int) (rows : List (List Int)) (p : List Int) (r : Str)
/-- the pays of person i at all choices -/
def opts (i : Nat) : List Int := (digs (nth sz i).toNat).map fun c => payA sz rows (p.set i c) i
def arcC (i : Nat) (c : Int) : Bool := !(decide (c = nth p i) || decide (payA sz rows (p.set i c) i < payA sz rows p i)) &&
  (decide (r = "even") || (decide (payA sz rows p i < payA sz rows (p.set i c) i) && (decide (r = "better") || decide (payA sz rows (p.set i c) i = maxZ (opts sz rows p i)))))
def arcT (i : Nat) (c : Int) : D := .tup [.int (i : Int), .int c, .int (plc sz (p.set i c)), .int (gn sz rows p i c)]
def arcI (i : Nat) : List D := if r ≠ "even" ∧ maxZ (opts sz rows p i) = payA sz rows p i then [] else ((digs (nth sz i).toNat).filter (arcC sz rows p r i)).map (arcT sz rows p i)
end
theorem arcs_in {sz : List Int} {rows : List (List Int)} (g : GoodG sz rows) (o : Int) {p : List Int} (ok : okP sz p) (r : Str) {i : Nat} (hi : i < sz.length) (acc : List D) (x4 x6 x8 x12 : D) (st own base row here most : D) (x13 x14 : Option D)
    (hst : st = .int (nth (strd sz) i)) (hown : own = .int (nth p i)) (hbase : base = .int (plc sz p - nth p i * nth (strd sz) i)) (hrow : row = tupI (nthA rows i)) (hhere : here = .int (payA sz rows p i)) (hmost : most = .int (maxZ (opts sz rows p i))) (hz : acc.length + 5 < 16777216) :
    ∃ u13 u14, loopD (tgN 13) b_arcs_1 (rngD 0 (nth sz i).toNat) [some (mkGame sz rows o), some (.int (plc sz p)), some (.str r), some (.lst acc), some x4, some (.int (i : Int)), some (.int (nth sz i)), some st, some own, some base, some row, some here, some most, x13, x14] =
      .nx [some (mkGame sz rows o), some (.int (plc sz p)), some (.str r), some (.lst (acc ++ ((digs (nth sz i).toNat).filter (arcC sz rows p r i)).map (arcT sz rows p i))), some x4, some (.int (i : Int)), some (.int (nth sz i)), some st, some own, some base, some row, some here, some most, u13, u14] := by
  subst hst hown hbase hrow hhere hmost
  rw [rngD0]
  have hs := g.s.item _ (nth_mem hi)
  obtain ⟨e', h1, acc', u13, u14, rfl, h2, _⟩ := loop_inv (dd := D.int) (tg := tgN 13) (body := b_arcs_1) (fun q e => ∃ acc' u13 u14, e = [some (mkGame sz rows o), some (.int (plc sz p)), some (.str r), some (.lst acc'), some x4, some (.int (i : Int)), some (.int (nth sz i)), some (.int (nth (strd sz) i)), some (.int (nth p i)), some (.int (plc sz p - nth p i * nth (strd sz) i)), some (tupI (nthA rows i)), some (.int (payA sz rows p i)), some (.int (maxZ (opts sz rows p i))), u13, u14] ∧
      acc' ++ (q.filter (arcC sz rows p r i)).map (arcT sz rows p i) = acc ++ ((digs (nth sz i).toNat).filter (arcC sz rows p r i)).map (arcT sz rows p i) ∧ acc'.length + q.length ≤ acc.length + 5 ∧ ∀ c ∈ q, 0 ≤ c ∧ c < nth sz i) (fun c q e ⟨acc', u13, u14, he, h2, h3, h4⟩ => by
    subst he
    have hc := h4 c List.mem_cons_self
    have hq : ∀ x ∈ q, 0 ≤ x ∧ x < nth sz i := fun x hx => h4 x (List.mem_cons_of_mem _ hx)
    have ok2 := okP_set ok hi hc.1 hc.2
    have hz2 : acc'.length < 16777216 := by simp at h3; omega
    have m1 : oMul (.int (nth (strd sz) i)) (.int c) = .ok (.int (nth (strd sz) i * c)) := oMul_r (by omega)
    have ea : plc sz p - nth p i * nth (strd sz) i + nth (strd sz) i * c = plc sz (p.set i c) := by
      rw [plc_set ok hi, Int.mul_sub, Int.mul_comm (nth p i)]; omega
    have i4 := pay_at g ok2 hi rfl
    have hb : b_arcs_1 [some (mkGame sz rows o), some (.int (plc sz p)), some (.str r), some (.lst acc'), some x4, some (.int (i : Int)), some (.int (nth sz i)), some (.int (nth (strd sz) i)), some (.int (nth p i)), some (.int (plc sz p - nth p i * nth (strd sz) i)), some (tupI (nthA rows i)), some (.int (payA sz rows p i)), some (.int (maxZ (opts sz rows p i))), some (.int c), u14] =
      (if (decide (c = nth p i) || decide (payA sz rows (p.set i c) i < payA sz rows p i)) = true then Out.ct [some (mkGame sz rows o), some (.int (plc sz p)), some (.str r), some (.lst acc'), some x4, some (.int (i : Int)), some (.int (nth sz i)), some (.int (nth (strd sz) i)), some (.int (nth p i)), some (.int (plc sz p - nth p i * nth (strd sz) i)), some (tupI (nthA rows i)), some (.int (payA sz rows p i)), some (.int (maxZ (opts sz rows p i))), some (.int c), some (.int (payA sz rows (p.set i c) i))]
      else .nx [some (mkGame sz rows o), some (.int (plc sz p)), some (.str r), some (.lst (if arcC sz rows p r i c = true then acc' ++ [arcT sz rows p i c] else acc')), some x4, some (.int (i : Int)), some (.int (nth sz i)), some (.int (nth (strd sz) i)), some (.int (nth p i)), some (.int (plc sz p - nth p i * nth (strd sz) i)), some (tupI (nthA rows i)), some (.int (payA sz rows p i)), some (.int (maxZ (opts sz rows p i))), some (.int c), some (.int (payA sz rows (p.set i c) i))]) := by
      unfold arcC arcT gn
      generalize payA sz rows (p.set i c) i = T at i4
      generalize payA sz rows p i = Hh at *
      generalize maxZ (opts sz rows p i) = M at *
      clear h2
      by_cases A : c = nth p i
      · subst A
        simp [b_arcs_1, m1, ea, i4]
      · by_cases Bq : T < Hh
        · simp [b_arcs_1, m1, ea, i4, A, Bq]
        · by_cases E : r = "even"
          · subst E
            simp [b_arcs_1, m1, ea, i4, A, Bq, hz2]
          · by_cases Gq : Hh < T
            · by_cases F : r = "better"
              · subst F
                simp [b_arcs_1, m1, ea, i4, A, Bq, E, Gq, hz2]
              · by_cases Q : T = M
                · subst Q
                  simp [b_arcs_1, m1, ea, i4, A, Bq, E, Gq, F, hz2]
                · simp [b_arcs_1, m1, ea, i4, A, Bq, E, Gq, F, Q, hz2]
            · simp [b_arcs_1, m1, ea, i4, A, Bq, E, Gq, hz2]
    by_cases q1 : (decide (c = nth p i) || decide (payA sz rows (p.set i c) i < payA sz rows p i)) = true
    · rw [if_pos q1] at hb
      refine ⟨_, rfl, _, .inr hb, acc', some (.int c), _, rfl, ?_, ?_, hq⟩
      · rw [← h2]
        simp only [List.filter_cons]
        rw [if_neg (by unfold arcC; rw [q1]; simp)]
      · simp at h3 ⊢; omega
    · rw [if_neg q1] at hb
      refine ⟨_, rfl, _, .inl hb, _, some (.int c), _, rfl, ?_, ?_, hq⟩
      · rw [← h2]
        simp only [List.filter_cons]
        by_cases q2 : arcC sz rows p r i c = true
        · rw [if_pos q2, if_pos q2]; simp
        · rw [if_neg q2, if_neg q2]
      · have hh : (if arcC sz rows p r i c = true then acc' ++ [arcT sz rows p i c] else acc').length ≤ acc'.length + 1 := by split <;> simp
        simp only [List.length_cons] at h3
        omega) (digs (nth sz i).toNat) [some (mkGame sz rows o), some (.int (plc sz p)), some (.str r), some (.lst acc), some x4, some (.int (i : Int)), some (.int (nth sz i)), some (.int (nth (strd sz) i)), some (.int (nth p i)), some (.int (plc sz p - nth p i * nth (strd sz) i)), some (tupI (nthA rows i)), some (.int (payA sz rows p i)), some (.int (maxZ (opts sz rows p i))), x13, x14] ⟨acc, x13, x14, rfl, rfl, by rw [digs_len]; omega, fun c hc => by have := digs_mem.mp hc; omega⟩
  simp at h2
  subst h2
  exact ⟨u13, u14, by rw [h1]⟩
end K88
set_option Elab.async false
set_option linter.all false
set_option maxRecDepth 100000
/-! Arcs, whole. -/
namespace K88
open PySem Fz

theorem opts_cons {sz : List Int} (rows : List (List Int)) (p : List Int) {i : Nat} (h : 1 ≤ nth sz i) : ∃ a r, opts sz rows p i = a :: r := by
  have hl : (opts sz rows p i).length = (nth sz i).toNat := by simp [opts, digs_len]
  cases e : opts sz rows p i with
  | nil => rw [e] at hl; simp at hl; omega
  | cons a r => exact ⟨a, r, rfl⟩
theorem strd_le {sz : List Int} (h : ∀ x ∈ sz, 1 ≤ x) {i : Nat} (hi : i < sz.length) : nth (strd sz) i ≤ prod sz := by
  obtain ⟨m, e⟩ := strd_dvd hi
  have h1 := strd_pos h hi
  have h2 := h _ (nth_mem hi)
  have h3 := prod_pos h
  have hm : 0 < m := by
    rcases Int.lt_or_le 0 m with q | q
    · exact q
    · exfalso
      have : 0 < nth (strd sz) i * nth sz i := Int.mul_pos (by omega) (by omega)
      have : nth (strd sz) i * nth sz i * m ≤ 0 := Int.mul_nonpos_of_nonneg_of_nonpos (by omega) q
      omega
  have e1 : nth (strd sz) i * 1 ≤ nth (strd sz) i * (nth sz i * m) := Int.mul_le_mul_of_nonneg_left (by
    have := Int.mul_pos (show 0 < nth sz i by omega) hm
    omega) (by omega)
  rw [e, Int.mul_assoc]
  omega
theorem arcI_len {sz : List Int} (g : GoodS sz) (rows : List (List Int)) (p : List Int) (r : Str) {i : Nat} (hi : i < sz.length) : (arcI sz rows p r i).length ≤ 5 := by
  have hs := g.item _ (nth_mem hi)
  unfold arcI
  split
  · simp
  · rw [List.length_map]
    refine Nat.le_trans (List.length_filter_le _ _) ?_
    rw [digs_len]; omega
theorem arcs_ok {sz : List Int} {rows : List (List Int)} (g : GoodG sz rows) (o : Int) {p : List Int} (ok : okP sz p) (r : Str) :
    f_arcs [mkGame sz rows o, .int (plc sz p), .str r] = .ok (.lst ((List.range sz.length).flatMap (arcI sz rows p r))) := by
  have sl := g.s.len
  have spos : ∀ x ∈ sz, 1 ≤ x := fun x hx => (g.s.item x hx).1
  obtain ⟨e', h1, acc, o5, o6, o7, o8, o9, o10, o11, o12, o13, o14, rfl, h2, _⟩ := loop_inv (dd := fun (i : Nat) => D.tup [.int (i : Int), .int (nth sz i)]) (tg := tgT [5, 6]) (body := b_arcs_2)
    (fun q e => ∃ acc o5 o6 o7 o8 o9 o10 o11 o12 o13 o14, e = [some (mkGame sz rows o), some (.int (plc sz p)), some (.str r), some (.lst acc), some (tupI (strd sz)), o5, o6, o7, o8, o9, o10, o11, o12, o13, o14] ∧ acc ++ q.flatMap (arcI sz rows p r) = (List.range sz.length).flatMap (arcI sz rows p r) ∧ acc.length + 5 * q.length ≤ 20 ∧ ∀ i ∈ q, i < sz.length)
    (fun i q e ⟨acc, o5, o6, o7, o8, o9, o10, o11, o12, o13, o14, he, h2, h3, h4⟩ => by
      subst he
      have hi := h4 i List.mem_cons_self
      have hq : ∀ x ∈ q, x < sz.length := fun x hx => h4 x (List.mem_cons_of_mem _ hx)
      have hir : i < rows.length := by have := g.n; omega
      have hs := g.s.item _ (nth_mem hi)
      have hp := okP_nth ok hi
      have st1 := strd_pos spos hi
      have st2 := strd_le spos hi
      have pm := g.s.most
      have hzl := arcI_len g.s rows p r hi
      simp only [List.length_cons] at h3
      have i2 : oIx (tupI (strd sz)) (.int (i : Int)) = .ok (.int (nth (strd sz) i)) := oIx_dN (by rw [strd_len]; exact hi)
      have i1 : oIx (.tup (rows.map tupI)) (.int (i : Int)) = .ok (tupI (nthA rows i)) := oIx_mN hir
      have i4 := pay_at g ok hi rfl
      have d1 : oDiv (.int (plc sz p)) (.int (nth (strd sz) i)) = .ok (.int (plc sz p / nth (strd sz) i)) := oDiv_p (by omega) (by omega)
      have d2 : oMod (.int (plc sz p / nth (strd sz) i)) (.int (nth sz i)) = .ok (.int (nth p i)) := by
        rw [oMod_p (by omega), plc_dot (okP_len ok), digit spos ok hi]
      have m1 : oMul (.int (nth p i)) (.int (nth (strd sz) i)) = .ok (.int (nth p i * nth (strd sz) i)) := oMul_l (by omega)
      obtain ⟨a0, r0, eo⟩ := opts_cons rows p hs.1
      have hr : rng1D [.int (nth sz i)] = .ok (rngD 0 (nth sz i).toNat) := if_pos (by unfold smallI; omega)
      have lc : ∀ E4 : Option D, lcGo (tgN 13) dYes b_arcs_0 [some (mkGame sz rows o), some (.int (plc sz p)), some (.str r), some (.lst acc), some (tupI (strd sz)), some (.int (i : Int)), some (.int (nth sz i)), some (.int (nth (strd sz) i)), some (.int (nth p i)), some (.int (plc sz p - nth p i * nth (strd sz) i)), some (tupI (nthA rows i)), some (.int (payA sz rows p i)), E4, none, o14] (rngD 0 (nth sz i).toNat) = .ok (dI (opts sz rows p i)) := fun E4 => by
        rw [rngD0]
        have := lc_map (dd := D.int) (tg := tgN 13) (de := b_arcs_0) (env := [some (mkGame sz rows o), some (.int (plc sz p)), some (.str r), some (.lst acc), some (tupI (strd sz)), some (.int (i : Int)), some (.int (nth sz i)), some (.int (nth (strd sz) i)), some (.int (nth p i)), some (.int (plc sz p - nth p i * nth (strd sz) i)), some (tupI (nthA rows i)), some (.int (payA sz rows p i)), E4, none, o14]) (g := fun c => D.int (payA sz rows (p.set i c) i)) (xs := digs (nth sz i).toNat) fun c hc => ⟨_, rfl, by
          have hc := digs_mem.mp hc
          have ok2 := okP_set ok hi hc.1 (by omega)
          have ea : plc sz p - nth p i * nth (strd sz) i + nth (strd sz) i * c = plc sz (p.set i c) := by
            rw [plc_set ok hi, Int.mul_sub, Int.mul_comm (nth p i)]; omega
          have m2 : oMul (.int (nth (strd sz) i)) (.int c) = .ok (.int (nth (strd sz) i * c)) := oMul_r (by omega)
          have i5 := pay_at g ok2 hi rfl
          simp [b_arcs_0, m2, ea, i5]⟩
        rw [this]
        simp [opts]
      have en : endLc (.ok (dI (opts sz rows p i))) = .ok (lstI (opts sz rows p i)) := endLc_map (by simp [opts, digs_len]; omega)
      have bm := bMax_lst eo
      obtain ⟨u13, u14, e1⟩ := arcs_in g o ok r hi acc (tupI (strd sz)) .non .non .non _ _ _ _ _ _ o13 o14 rfl rfl rfl rfl rfl rfl (by omega)
      by_cases q1 : r ≠ "even" ∧ maxZ (opts sz rows p i) = payA sz rows p i
      · refine ⟨_, rfl, [some (mkGame sz rows o), some (.int (plc sz p)), some (.str r), some (.lst acc), some (tupI (strd sz)), some (.int (i : Int)), some (.int (nth sz i)), some (.int (nth (strd sz) i)), some (.int (nth p i)), some (.int (plc sz p - nth p i * nth (strd sz) i)), some (tupI (nthA rows i)), some (.int (payA sz rows p i)), some (.int (maxZ (opts sz rows p i))), o13, o14], .inr ?_, acc, _, _, _, _, _, _, _, _, _, _, rfl, ?_, by omega, hq⟩
        · simp [b_arcs_2, i2, d1, d2, m1, fP, i1, i4, hr, lc, en, bm, q1.1, q1.2]
        · rw [← h2]
          have : arcI sz rows p r i = [] := if_pos q1
          simp [this]
      · have ea : arcI sz rows p r i = ((digs (nth sz i).toNat).filter (arcC sz rows p r i)).map (arcT sz rows p i) := if_neg q1
        refine ⟨_, rfl, [some (mkGame sz rows o), some (.int (plc sz p)), some (.str r), some (.lst (acc ++ arcI sz rows p r i)), some (tupI (strd sz)), some (.int (i : Int)), some (.int (nth sz i)), some (.int (nth (strd sz) i)), some (.int (nth p i)), some (.int (plc sz p - nth p i * nth (strd sz) i)), some (tupI (nthA rows i)), some (.int (payA sz rows p i)), some (.int (maxZ (opts sz rows p i))), u13, u14], .inl ?_, acc ++ arcI sz rows p r i, _, _, _, _, _, _, _, _, _, _, rfl, ?_, ?_, hq⟩
        · by_cases q2 : r = "even"
          · subst q2
            simp [b_arcs_2, i2, d1, d2, m1, fP, i1, i4, hr, lc, en, bm, e1, ea]
          · have q3 : ¬ maxZ (opts sz rows p i) = payA sz rows p i := fun z => q1 ⟨q2, z⟩
            simp [b_arcs_2, i2, d1, d2, m1, fP, i1, i4, hr, lc, en, bm, q2, q3, e1, ea]
        · rw [← h2]; simp
        · simp only [List.length_append]; omega) (List.range sz.length) [some (mkGame sz rows o), some (.int (plc sz p)), some (.str r), some (.lst []), some (tupI (strd sz)), none, none, none, none, none, none, none, none, none, none] ⟨[], none, none, none, none, none, none, none, none, none, none, rfl, rfl, by simp; omega, fun i hi => List.mem_range.mp hi⟩
  simp at h2
  subst h2
  have em : enumD 0 (dI sz) = (List.range sz.length).map fun (i : Nat) => D.tup [.int (i : Int), .int (nth sz i)] := by rw [enumD_map]; simp
  simp [f_arcs, runD_eq, m_arcs, startE, List.replicate, fS, strides_ok g.s.small (show sz.length ≤ 1000 by omega), em, h1]
end K88
set_option Elab.async false
set_option linter.all false
set_option maxRecDepth 100000
/-! Moves, plain. -/
namespace K88
open PySem Fz

section
variable (sz : List Int) (rows : List (List Int)) (p : List Int) (r : Str)
def pairsI (i : Nat) : List (Nat × Int) := if r ≠ "even" ∧ maxZ (opts sz rows p i) = payA sz rows p i then [] else ((digs (nth sz i).toNat).filter (arcC sz rows p r i)).map fun c => (i, c)
def pairs : List (Nat × Int) := (List.range sz.length).flatMap (pairsI sz rows p r)
def gains (i : Nat) : List Int := (digs (nth sz i).toNat).map (gn sz rows p i)
def lawC (i : Nat) (c : Int) : Bool := !decide (c = nth p i) && ((decide (r = "even") && decide (0 ≤ gn sz rows p i c)) || (decide (r = "better") && decide (0 < gn sz rows p i c)) || (decide (r = "best") && (decide (0 < gn sz rows p i c) && decide (gn sz rows p i c = maxZ (gains sz rows p i)))))
def lpairs : List (Nat × Int) := (List.range sz.length).flatMap fun i => ((digs (nth sz i).toNat).filter (lawC sz rows p r i)).map fun c => (i, c)
end
theorem arcs_pairs (sz : List Int) (rows : List (List Int)) (p : List Int) (r : Str) : (List.range sz.length).flatMap (arcI sz rows p r) = (pairs sz rows p r).map fun x => arcT sz rows p x.1 x.2 := by
  unfold pairs
  rw [List.map_flatMap]
  congr 1
  funext i
  unfold arcI pairsI
  split
  · rfl
  · rw [List.map_map]; rfl
theorem foldl_max_sub (h : Int) : ∀ (xs : List Int) (a : Int), (xs.map fun x => x - h).foldl max (a - h) = xs.foldl max a - h
  | [], a => rfl
  | x :: r, a => by
    show (r.map fun x => x - h).foldl max (max (a - h) (x - h)) = r.foldl max (max a x) - h
    have : max (a - h) (x - h) = max a x - h := by omega
    rw [this, foldl_max_sub h r]
theorem maxZ_gains {sz : List Int} {rows : List (List Int)} {p : List Int} {i : Nat} (h : 1 ≤ nth sz i) : maxZ (gains sz rows p i) = maxZ (opts sz rows p i) - payA sz rows p i := by
  obtain ⟨a, r, e⟩ := opts_cons rows p h
  have e2 : gains sz rows p i = (opts sz rows p i).map fun x => x - payA sz rows p i := by unfold gains opts gn; rw [List.map_map]; rfl
  rw [e2, e]
  exact foldl_max_sub _ r a
theorem flatMap_same {α β : Type} {f g : α → List β} : ∀ {l : List α}, (∀ a ∈ l, f a = g a) → l.flatMap f = l.flatMap g
  | [], _ => rfl
  | a :: r, h => by rw [List.flatMap_cons, List.flatMap_cons, h a List.mem_cons_self, flatMap_same fun b hb => h b (List.mem_cons_of_mem _ hb)]
theorem pairs_law {sz : List Int} {rows : List (List Int)} {p : List Int} {r : Str} (hs : ∀ x ∈ sz, 1 ≤ x) (hr : r = "better" ∨ r = "best" ∨ r = "even") : pairs sz rows p r = lpairs sz rows p r := by
  unfold pairs lpairs
  have n1 : ¬ (("better" : Str) = "even") := by decide
  have n2 : ¬ (("best" : Str) = "even") := by decide
  have n3 : ¬ (("best" : Str) = "better") := by decide
  have n4 : ¬ (("better" : Str) = "best") := by decide
  have n5 : ¬ (("even" : Str) = "better") := by decide
  have n6 : ¬ (("even" : Str) = "best") := by decide
  apply flatMap_same
  intro i hi
  have hi := List.mem_range.mp hi
  have h1 := hs _ (nth_mem hi)
  have mg := maxZ_gains (rows := rows) (p := p) h1
  have up : ∀ c ∈ digs (nth sz i).toNat, payA sz rows (p.set i c) i ≤ maxZ (opts sz rows p i) := fun c hc => by
    obtain ⟨a, q, e⟩ := opts_cons rows p h1
    have : payA sz rows (p.set i c) i ∈ opts sz rows p i := List.mem_map_of_mem hc
    rw [e] at this ⊢
    exact maxZ_ge this
  unfold pairsI
  split
  · rename_i q
    symm
    rw [List.map_eq_nil_iff, List.filter_eq_nil_iff]
    intro c hc
    have := up c hc
    have hg : ¬ 0 < gn sz rows p i c := by unfold gn; omega
    rcases hr with hr | hr | hr
    · subst hr; simp [lawC, hg, n1, n4]
    · subst hr; simp [lawC, hg, n2, n3]
    · exact absurd hr q.1
  · rename_i q
    congr 1
    apply List.filter_congr
    intro c hc
    have hgn : gn sz rows p i c = payA sz rows (p.set i c) i - payA sz rows p i := rfl
    unfold arcC lawC
    rw [mg, hgn]
    rcases hr with hr | hr | hr
    · subst hr
      simp only [n1, n4, decide_false, decide_true, Bool.false_and, Bool.true_and, Bool.false_or, Bool.or_false, Bool.true_or, Bool.and_true]
      rw [Bool.eq_iff_iff]
      simp
      omega
    · subst hr
      simp only [n2, n3, decide_false, decide_true, Bool.false_and, Bool.true_and, Bool.false_or, Bool.or_false, Bool.true_or, Bool.and_true]
      rw [Bool.eq_iff_iff]
      simp
      omega
    · subst hr
      simp only [n5, n6, decide_false, decide_true, Bool.false_and, Bool.true_and, Bool.false_or, Bool.or_false, Bool.true_or, Bool.and_true]
      rw [Bool.eq_iff_iff]
      simp only [Bool.and_eq_true, Bool.not_eq_true', Bool.or_eq_false_iff, decide_eq_true_eq, decide_eq_false_iff_not]
      omega
end K88
set_option Elab.async false
set_option linter.all false
set_option maxRecDepth 100000
/-! Moves, slack: what the defs reckon. -/
namespace K88
open PySem Fz

abbrev dPr (xs : List (Nat × Int)) : List D := xs.map fun x => D.tup [.int (x.1 : Int), .int x.2]
theorem flatMap_len {α β : Type} {f : α → List β} {k : Nat} : ∀ {l : List α}, (∀ a ∈ l, (f a).length ≤ k) → (l.flatMap f).length ≤ l.length * k
  | [], _ => by simp
  | a :: r, h => by
    rw [List.flatMap_cons, List.length_append, List.length_cons, Nat.succ_mul]
    have h1 := h a List.mem_cons_self
    have h2 := flatMap_len (l := r) fun b hb => h b (List.mem_cons_of_mem _ hb)
    omega
theorem pairs_len {sz : List Int} (g : GoodS sz) (rows : List (List Int)) (p : List Int) (r : Str) : (pairs sz rows p r).length ≤ 20 := by
  have h := flatMap_len (f := pairsI sz rows p r) (k := 5) (l := List.range sz.length) fun i hi => by
    have hi := List.mem_range.mp hi
    have hs := g.item _ (nth_mem hi)
    unfold pairsI
    split
    · simp
    · rw [List.length_map]
      refine Nat.le_trans (List.length_filter_le _ _) ?_
      rw [digs_len]; omega
  have := g.len
  rw [List.length_range] at h
  unfold pairs
  omega
theorem moves_ok {sz : List Int} {rows : List (List Int)} (g : GoodG sz rows) (o : Int) {p : List Int} (ok : okP sz p) (r : Str) :
    f_moves [mkGame sz rows o, tupI p, .str r] = .ok (.lst (dPr (pairs sz rows p r))) := by
  have hz := pairs_len g.s rows p r
  have lc : lcGo (tgT [4, 5, 6, 7]) dYes b_moves_0 [some (mkGame sz rows o), some (tupI p), some (.str r), some (.int (plc sz p)), none, none, none, none] ((pairs sz rows p r).map fun x => arcT sz rows p x.1 x.2) = .ok (dPr (pairs sz rows p r)) := lc_map fun x hx => ⟨_, rfl, by simp [b_moves_0]⟩
  simp [f_moves, runD_eq, m_moves, startE, List.replicate, fS, place_yes g.s.small ok, arcs_ok g o ok, arcs_pairs, lc]
  rw [endLc_map (by omega)]
  simp
theorem slack_ok {sz : List Int} {rows : List (List Int)} (g : GoodG sz rows) (o : Int) {p : List Int} (ok : okP sz p) :
    f_slack [mkGame sz rows o, tupI p] = .ok (.int (maxZ (0 :: (pairs sz rows p "better").map fun x => gn sz rows p x.1 x.2))) := by
  have hz := pairs_len g.s rows p "better"
  have lc : lcGo (tgT [3, 4, 5, 6]) dYes (dv 6) [some (mkGame sz rows o), some (tupI p), some (.int (plc sz p)), none, none, none, none] ((pairs sz rows p "better").map fun x => arcT sz rows p x.1 x.2) = .ok (dI ((pairs sz rows p "better").map fun x => gn sz rows p x.1 x.2)) := by
    have t := lc_map (tg := tgT [3, 4, 5, 6]) (de := dv 6) (env := [some (mkGame sz rows o), some (tupI p), some (.int (plc sz p)), none, none, none, none]) (dd := fun x : Nat × Int => arcT sz rows p x.1 x.2) (g := fun x => D.int (gn sz rows p x.1 x.2)) (xs := pairs sz rows p "better") fun x hx => ⟨_, rfl, by simp⟩
    rw [t]
    simp
  have en : endLc (.ok (dI ((pairs sz rows p "better").map fun x => gn sz rows p x.1 x.2))) = .ok (lstI ((pairs sz rows p "better").map fun x => gn sz rows p x.1 x.2)) := endLc_map (by simp; omega)
  generalize hX : ((pairs sz rows p "better").map fun x => gn sz rows p x.1 x.2) = xs at *
  have hxl : xs.length ≤ 20 := by rw [← hX]; simpa using hz
  have ad : oAddL (.lst [.int 0]) (lstI xs) = .ok (lstI (0 :: xs)) := oAddL_ok (by simp; omega)
  simp [f_slack, runD_eq, m_slack, startE, List.replicate, fS, place_yes g.s.small ok, arcs_ok g o ok, arcs_pairs, lc, en, ad, bMax_lst (show (0 :: xs) = 0 :: xs from rfl)]
theorem lmoves_in {sz : List Int} {rows : List (List Int)} (g : GoodG sz rows) {p : List Int} (ok : okP sz p) {r : Str} (hr : r = "better" ∨ r = "best" ∨ r = "even") {i : Nat} (hi : i < sz.length) (acc : List D) (x7 : Option D) (hz : acc.length + 5 < 16777216) :
    ∃ u7, loopD (tgN 7) b__law_moves_1 (rngD 0 (nth sz i).toNat) [some (lstI sz), some (.lst (rows.map lstI)), some (tupI p), some (.str r), some (.lst acc), some (.int (i : Int)), some (lstI (gains sz rows p i)), x7] =
      .nx [some (lstI sz), some (.lst (rows.map lstI)), some (tupI p), some (.str r), some (.lst (acc ++ dPr (((digs (nth sz i).toNat).filter (lawC sz rows p r i)).map fun c => (i, c)))), some (.int (i : Int)), some (lstI (gains sz rows p i)), u7] := by
  rw [rngD0]
  have hs := g.s.item _ (nth_mem hi)
  have hl := okP_len ok
  have i3 : oIx (tupI p) (.int (i : Int)) = .ok (.int (nth p i)) := oIx_dN (by omega)
  have gl : (gains sz rows p i).length = (nth sz i).toNat := by simp [gains, digs_len]
  obtain ⟨a0, r0, eo⟩ : ∃ a r, gains sz rows p i = a :: r := by
    cases e : gains sz rows p i with
    | nil => rw [e] at gl; simp at gl; omega
    | cons a r => exact ⟨a, r, rfl⟩
  have bm := bMax_lst eo
  obtain ⟨e', h1, acc', u7, rfl, h2, _⟩ := loop_inv (dd := D.int) (tg := tgN 7) (body := b__law_moves_1) (fun q e => ∃ acc' u7, e = [some (lstI sz), some (.lst (rows.map lstI)), some (tupI p), some (.str r), some (.lst acc'), some (.int (i : Int)), some (lstI (gains sz rows p i)), u7] ∧
      acc' ++ dPr ((q.filter (lawC sz rows p r i)).map fun c => (i, c)) = acc ++ dPr (((digs (nth sz i).toNat).filter (lawC sz rows p r i)).map fun c => (i, c)) ∧ acc'.length + q.length ≤ acc.length + 5 ∧ ∀ c ∈ q, 0 ≤ c ∧ c < nth sz i) (fun c q e ⟨acc', u7, he, h2, h3, h4⟩ => by
    subst he
    have hc := h4 c List.mem_cons_self
    have hq : ∀ x ∈ q, 0 ≤ x ∧ x < nth sz i := fun x hx => h4 x (List.mem_cons_of_mem _ hx)
    have hz2 : acc'.length < 16777216 := by simp at h3; omega
    have i6 : oIx (lstI (gains sz rows p i)) (.int c) = .ok (.int (gn sz rows p i c)) := by
      rw [oIx_lstI hc.1 (by omega)]
      have hlt : c.toNat < (nth sz i).toNat := by omega
      have : nth (gains sz rows p i) c.toNat = gn sz rows p i c := by
        unfold nth gains digs
        rw [List.getD_eq_getElem?_getD, List.getElem?_map, List.getElem?_map, List.getElem?_range hlt]
        show gn sz rows p i ((c.toNat : Nat) : Int) = _
        congr 1; omega
      rw [this]
    have hb : (b__law_moves_1 [some (lstI sz), some (.lst (rows.map lstI)), some (tupI p), some (.str r), some (.lst acc'), some (.int (i : Int)), some (lstI (gains sz rows p i)), some (.int c)] = .nx [some (lstI sz), some (.lst (rows.map lstI)), some (tupI p), some (.str r), some (.lst (if lawC sz rows p r i c = true then acc' ++ [.tup [.int (i : Int), .int c]] else acc')), some (.int (i : Int)), some (lstI (gains sz rows p i)), some (.int c)]) ∨
      (b__law_moves_1 [some (lstI sz), some (.lst (rows.map lstI)), some (tupI p), some (.str r), some (.lst acc'), some (.int (i : Int)), some (lstI (gains sz rows p i)), some (.int c)] = .ct [some (lstI sz), some (.lst (rows.map lstI)), some (tupI p), some (.str r), some (.lst (if lawC sz rows p r i c = true then acc' ++ [.tup [.int (i : Int), .int c]] else acc')), some (.int (i : Int)), some (lstI (gains sz rows p i)), some (.int c)]) := by
      unfold lawC
      have n1 : ¬ (("better" : Str) = "even") := by decide
      have n2 : ¬ (("best" : Str) = "even") := by decide
      have n3 : ¬ (("best" : Str) = "better") := by decide
      have n4 : ¬ (("better" : Str) = "best") := by decide
      have n5 : ¬ (("even" : Str) = "better") := by decide
      have n6 : ¬ (("even" : Str) = "best") := by decide
      clear h2
      generalize gn sz rows p i c = G at *
      generalize hMx : maxZ (gains sz rows p i) = M at *
      by_cases A : c = nth p i
      · subst A
        right
        simp [b__law_moves_1, i3]
      · left
        rcases hr with hr | hr | hr
        · subst hr
          by_cases P : 0 < G
          · simp [b__law_moves_1, i3, i6, A, n1, n4, P, hz2]
          · simp [b__law_moves_1, i3, i6, A, n1, n4, P, hz2]
        · subst hr
          by_cases P : 0 < G
          · by_cases Q : G = M
            · subst Q
              simp [b__law_moves_1, i3, i6, A, n2, n3, P, bm, hz2]
            · simp [b__law_moves_1, i3, i6, A, n2, n3, P, bm, Q, hz2]
          · simp [b__law_moves_1, i3, i6, A, n2, n3, P, hz2]
        · subst hr
          by_cases P : 0 ≤ G
          · simp [b__law_moves_1, i3, i6, A, n5, n6, P, hz2]
          · simp [b__law_moves_1, i3, i6, A, n5, n6, P, hz2]
    have hh : (if lawC sz rows p r i c = true then acc' ++ [D.tup [.int (i : Int), .int c]] else acc').length ≤ acc'.length + 1 := by split <;> simp
    refine ⟨_, rfl, _, hb, _, some (.int c), rfl, ?_, ?_, hq⟩
    · rw [← h2]
      simp only [List.filter_cons]
      split <;> simp
    · simp only [List.length_cons] at h3
      omega) (digs (nth sz i).toNat) _ ⟨acc, x7, rfl, rfl, by rw [digs_len]; omega, fun c hc => by have := digs_mem.mp hc; omega⟩
  simp at h2
  subst h2
  exact ⟨u7, by rw [h1]; simp⟩
theorem lmoves_ok {sz : List Int} {rows : List (List Int)} (g : GoodG sz rows) {p : List Int} (ok : okP sz p) {r : Str} (hr : r = "better" ∨ r = "best" ∨ r = "even") :
    f__law_moves [lstI sz, .lst (rows.map lstI), tupI p, .str r] = .ok (.lst (dPr (lpairs sz rows p r))) := by
  have sl := g.s.len
  obtain ⟨e', h1, acc, u5, u6, u7, rfl, h2, _⟩ := loop_inv (dd := fun (i : Nat) => D.int (0 + (i : Int))) (tg := tgN 5) (body := b__law_moves_2)
    (fun q e => ∃ acc u5 u6 u7, e = [some (lstI sz), some (.lst (rows.map lstI)), some (tupI p), some (.str r), some (.lst acc), u5, u6, u7] ∧ acc ++ dPr (q.flatMap fun i => ((digs (nth sz i).toNat).filter (lawC sz rows p r i)).map fun c => (i, c)) = dPr (lpairs sz rows p r) ∧ acc.length + 5 * q.length ≤ 20 ∧ ∀ i ∈ q, i < sz.length)
    (fun i q e ⟨acc, u5, u6, u7, he, h2, h3, h4⟩ => by
      subst he
      have hi := h4 i List.mem_cons_self
      have hq : ∀ x ∈ q, x < sz.length := fun x hx => h4 x (List.mem_cons_of_mem _ hx)
      have hs := g.s.item _ (nth_mem hi)
      simp only [List.length_cons] at h3
      have e0 : (0 : Int) + (i : Int) = (i : Int) := by omega
      rw [e0]
      have i0 : oIx (lstI sz) (.int (i : Int)) = .ok (.int (nth sz i)) := oIx_dNl hi
      have hr1 : rng1D [.int (nth sz i)] = .ok (rngD 0 (nth sz i).toNat) := if_pos (by unfold smallI; omega)
      have lc : ∀ x6 : Option D, lcGo (tgN 7) dYes b__law_moves_0 [some (lstI sz), some (.lst (rows.map lstI)), some (tupI p), some (.str r), some (.lst acc), some (.int (i : Int)), x6, none] (rngD 0 (nth sz i).toNat) = .ok (dI (gains sz rows p i)) := fun x6 => by
        rw [rngD0]
        have := lc_map (dd := D.int) (tg := tgN 7) (de := b__law_moves_0) (env := [some (lstI sz), some (.lst (rows.map lstI)), some (tupI p), some (.str r), some (.lst acc), some (.int (i : Int)), x6, none]) (g := fun c => D.int (gn sz rows p i c)) (xs := digs (nth sz i).toNat) fun c hc => ⟨_, rfl, by
          have hc := digs_mem.mp hc
          simp [b__law_moves_0, lgain_ok g ok hi hc.1 (show c < nth sz i by omega)]⟩
        rw [this]
        simp [gains]
      have en : endLc (.ok (dI (gains sz rows p i))) = .ok (lstI (gains sz rows p i)) := endLc_map (by simp [gains, digs_len]; omega)
      obtain ⟨v7, e1⟩ := lmoves_in g ok hr hi acc u7 (by omega)
      have fl : (((digs (nth sz i).toNat).filter (lawC sz rows p r i)).map fun c => (i, c)).length ≤ 5 := by
        rw [List.length_map]
        refine Nat.le_trans (List.length_filter_le _ _) ?_
        rw [digs_len]; omega
      refine ⟨_, rfl, [some (lstI sz), some (.lst (rows.map lstI)), some (tupI p), some (.str r), some (.lst (acc ++ dPr (((digs (nth sz i).toNat).filter (lawC sz rows p r i)).map fun c => (i, c)))), some (.int (i : Int)), some (lstI (gains sz rows p i)), v7], .inl ?_, _, _, _, _, rfl, ?_, ?_, hq⟩
      · simp [b__law_moves_2, i0, hr1, lc, en, e1]
      · rw [← h2]; simp
      · simp only [List.length_append, List.length_map] at fl ⊢; omega) (List.range sz.length) [some (lstI sz), some (.lst (rows.map lstI)), some (tupI p), some (.str r), some (.lst []), none, none, none] ⟨[], none, none, none, rfl, rfl, by simp; omega, fun i hi => List.mem_range.mp hi⟩
  simp at h2
  have h1 : loopD (tgN 5) b__law_moves_2 (rngD 0 sz.length) [some (lstI sz), some (.lst (rows.map lstI)), some (tupI p), some (.str r), some (.lst []), none, none, none] = _ := h1
  simp [f__law_moves, runD_eq, m__law_moves, startE, List.replicate, rng1_ok (show sz.length ≤ 1000 by omega), h1, h2]
end K88
set_option Elab.async false
set_option linter.all false
set_option maxRecDepth 100000
/-! The law's looks. -/
namespace K88
open PySem Fz

theorem whole_int (i : Int) : f__law_is_whole [.int i] = .ok (.bl true) := by
  simp [f__law_is_whole, runD_eq, m__law_is_whole, startE, bIsi, plainD, isTy]
theorem islist_in (a b : D) (n : Nat) (ns : List Int) (hl : ns.length ≤ 1000) (ha : oIx a (.int (n : Int)) = .ok (tupI ns)) (hb : oIx b (.int (n : Int)) = .ok (tupI ns)) (o3 : Option D) :
    ∃ u3, loopD (tgN 3) b__law_is_list_0 (rngD 0 ns.length) [some a, some b, some (.int (n : Int)), o3] = .nx [some a, some b, some (.int (n : Int)), u3] := by
  obtain ⟨e', h1, u3, rfl⟩ := loop_rng (lo := 0) (tg := tgN 3) (body := b__law_is_list_0) ns.length (fun i e => ∃ u3, e = [some a, some b, some (.int (n : Int)), u3]) (fun i e hi ⟨u3, he⟩ => by
    subst he
    have i1 : oIx (tupI ns) (.int (i : Int)) = .ok (.int (nth ns i)) := oIx_dN hi
    have e0 : (0 : Int) + (i : Int) = (i : Int) := by omega
    rw [e0]
    exact ⟨_, rfl, _, .inl (by simp [b__law_is_list_0, ha, hb, i1, whole_int]), some (.int (i : Int)), rfl⟩) [some a, some b, some (.int (n : Int)), o3] ⟨o3, rfl⟩
  exact ⟨u3, h1⟩
theorem islist_ok (ps : List (List Int)) (hn : ps.length ≤ 1000) (hl : ∀ p ∈ ps, p.length ≤ 1000) : f__law_is_list [.lst (dP ps), .lst (dP ps)] = .ok (.bl true) := by
  obtain ⟨e', h1, u2, u3, rfl⟩ := loop_rng (lo := 0) (tg := tgN 2) (body := b__law_is_list_1) ps.length (fun i e => ∃ u2 u3, e = [some (.lst (dP ps)), some (.lst (dP ps)), u2, u3]) (fun i e hi ⟨u2, u3, he⟩ => by
    subst he
    have i1 : oIx (.lst (dP ps)) (.int (i : Int)) = .ok (tupI (nthA ps i)) := oIx_mNl hi
    have e0 : (0 : Int) + (i : Int) = (i : Int) := by omega
    rw [e0]
    have hp := hl _ (nthA_mem hi)
    obtain ⟨v3, e1⟩ := islist_in (.lst (dP ps)) (.lst (dP ps)) i (nthA ps i) hp i1 i1 u3
    exact ⟨_, rfl, [some (.lst (dP ps)), some (.lst (dP ps)), some (.int (i : Int)), v3], .inl (by simp [b__law_is_list_1, i1, bIsi, plainD, isTy, rng1_ok hp, e1]), _, _, rfl⟩) [some (.lst (dP ps)), some (.lst (dP ps)), none, none] ⟨none, none, rfl⟩
  simp [f__law_is_list, runD_eq, m__law_is_list, startE, List.replicate, bIsi, plainD, isTy, rng1_ok hn, h1]
def prL (xs : List (Nat × Int)) : List (List Int) := xs.map fun x => [(x.1 : Int), x.2]
theorem dPr_dP (xs : List (Nat × Int)) : dPr xs = dP (prL xs) := by simp [prL, dPr]
theorem islist_pairs (xs : List (Nat × Int)) (h : xs.length ≤ 1000) : f__law_is_list [.lst (dPr xs), .lst (dPr xs)] = .ok (.bl true) := by
  rw [dPr_dP]
  exact islist_ok _ (by simpa [prL] using h) fun p hp => by
    obtain ⟨x, _, rfl⟩ := List.mem_map.mp hp
    simp
/-! ### at a play -/
section
variable (sz : List Int) (rows : List (List Int)) (p : List Int)
def allG : List Int := (List.range sz.length).flatMap (gains sz rows p)
end
theorem if_max (a b : Int) : (if b > a then b else a) = max a b := by split <;> omega
theorem at_in {sz : List Int} {rows : List (List Int)} (g : GoodG sz rows) (o : Int) {p : List Int} (ok : okP sz p) {i : Nat} (hi : i < sz.length) (m : Int) (o6 o7 o8 o9 : Option D) :
    ∃ u6 u7 u8, loopD (tgN 6) b__law_at_play_0 (rngD 0 (nth sz i).toNat) [some (mkGame sz rows o), some (lstI sz), some (.lst (rows.map lstI)), some (tupI p), some (.int m), some (.int (i : Int)), o6, o7, o8, o9] =
      .nx [some (mkGame sz rows o), some (lstI sz), some (.lst (rows.map lstI)), some (tupI p), some (.int ((gains sz rows p i).foldl max m)), some (.int (i : Int)), u6, u7, u8, o9] := by
  rw [rngD0]
  obtain ⟨e', h1, m', u6, u7, u8, rfl, h2, _⟩ := loop_inv (dd := D.int) (tg := tgN 6) (body := b__law_at_play_0) (fun q e => ∃ m' u6 u7 u8, e = [some (mkGame sz rows o), some (lstI sz), some (.lst (rows.map lstI)), some (tupI p), some (.int m'), some (.int (i : Int)), u6, u7, u8, o9] ∧ (q.map (gn sz rows p i)).foldl max m' = (gains sz rows p i).foldl max m ∧ ∀ c ∈ q, 0 ≤ c ∧ c < nth sz i) (fun c q e ⟨m', u6, u7, u8, he, h2, h4⟩ => by
    subst he
    have hc := h4 c List.mem_cons_self
    have hq : ∀ x ∈ q, 0 ≤ x ∧ x < nth sz i := fun x hx => h4 x (List.mem_cons_of_mem _ hx)
    have l1 := lgain_ok g ok hi hc.1 hc.2
    have l2 := gain_yes g o ok hi hc.1 hc.2
    exact ⟨_, rfl, [some (mkGame sz rows o), some (lstI sz), some (.lst (rows.map lstI)), some (tupI p), some (.int (max m' (gn sz rows p i c))), some (.int (i : Int)), some (.int c), some (.int (gn sz rows p i c)), some (.int (gn sz rows p i c)), o9], .inl (by simp [b__law_at_play_0, l1, l2, whole_int, if_max]), _, _, _, _, rfl, h2, hq⟩) (digs (nth sz i).toNat) _ ⟨m, o6, o7, o8, rfl, rfl, fun c hc => by have := digs_mem.mp hc; omega⟩
  have h2 : m' = _ := h2
  subst h2
  exact ⟨u6, u7, u8, h1⟩
theorem at_out {sz : List Int} {rows : List (List Int)} (g : GoodG sz rows) (o : Int) {p : List Int} (ok : okP sz p) :
    ∃ u5 u6 u7 u8, loopD (tgN 5) b__law_at_play_1 (rngD 0 sz.length) [some (mkGame sz rows o), some (lstI sz), some (.lst (rows.map lstI)), some (tupI p), some (.int 0), none, none, none, none, none] =
      .nx [some (mkGame sz rows o), some (lstI sz), some (.lst (rows.map lstI)), some (tupI p), some (.int ((allG sz rows p).foldl max 0)), u5, u6, u7, u8, none] := by
  obtain ⟨e', h1, m', u5, u6, u7, u8, rfl, h2, _⟩ := loop_inv (dd := fun (i : Nat) => D.int (0 + (i : Int))) (tg := tgN 5) (body := b__law_at_play_1) (fun q e => ∃ m' u5 u6 u7 u8, e = [some (mkGame sz rows o), some (lstI sz), some (.lst (rows.map lstI)), some (tupI p), some (.int m'), u5, u6, u7, u8, none] ∧ (q.flatMap (gains sz rows p)).foldl max m' = (allG sz rows p).foldl max 0 ∧ ∀ i ∈ q, i < sz.length) (fun i q e ⟨m', u5, u6, u7, u8, he, h2, h4⟩ => by
    subst he
    have hi := h4 i List.mem_cons_self
    have hq : ∀ x ∈ q, x < sz.length := fun x hx => h4 x (List.mem_cons_of_mem _ hx)
    have hs := g.s.item _ (nth_mem hi)
    have e0 : (0 : Int) + (i : Int) = (i : Int) := by omega
    rw [e0]
    have i0 : oIx (lstI sz) (.int (i : Int)) = .ok (.int (nth sz i)) := oIx_dNl hi
    have hr1 : rng1D [.int (nth sz i)] = .ok (rngD 0 (nth sz i).toNat) := if_pos (by unfold smallI; omega)
    obtain ⟨v6, v7, v8, e1⟩ := at_in g o ok hi m' u6 u7 u8 none
    exact ⟨_, rfl, [some (mkGame sz rows o), some (lstI sz), some (.lst (rows.map lstI)), some (tupI p), some (.int ((gains sz rows p i).foldl max m')), some (.int (i : Int)), v6, v7, v8, none], .inl (by simp [b__law_at_play_1, i0, hr1, e1]), _, _, _, _, _, rfl, by rw [← h2, List.flatMap_cons, List.foldl_append], hq⟩) (List.range sz.length) _ ⟨0, none, none, none, none, rfl, rfl, fun i hi => List.mem_range.mp hi⟩
  have h2 : m' = _ := h2
  subst h2
  exact ⟨u5, u6, u7, u8, h1⟩
theorem max_same {xs ys : List Int} (h1 : ∀ x ∈ xs, 0 < x → x ∈ ys) (h2 : ∀ y ∈ ys, y ∈ xs) : xs.foldl max 0 = ys.foldl max 0 := by
  have a := foldl_max_ge xs 0
  have b := foldl_max_ge ys 0
  apply Int.le_antisymm
  · rcases foldl_max_mem xs 0 with q | q
    · rw [q]; exact b.1
    · by_cases z : 0 < xs.foldl max 0
      · exact b.2 _ (h1 _ q z)
      · have := b.1; omega
  · rcases foldl_max_mem ys 0 with q | q
    · rw [q]; exact a.1
    · exact a.2 _ (h2 _ q)
theorem slack_all {sz : List Int} {rows : List (List Int)} {p : List Int} (hs : ∀ x ∈ sz, 1 ≤ x) : maxZ (0 :: (pairs sz rows p "better").map fun x => gn sz rows p x.1 x.2) = (allG sz rows p).foldl max 0 := by
  rw [pairs_law hs (.inl rfl)]
  symm
  have n1 : ¬ (("better" : Str) = "even") := by decide
  have n4 : ¬ (("better" : Str) = "best") := by decide
  refine max_same (fun x hx h0 => ?_) fun y hy => ?_
  · obtain ⟨i, hi, hx⟩ := List.mem_flatMap.mp hx
    obtain ⟨c, hc, rfl⟩ := List.mem_map.mp hx
    refine List.mem_map.mpr ⟨(i, c), List.mem_flatMap.mpr ⟨i, hi, List.mem_map.mpr ⟨c, List.mem_filter.mpr ⟨hc, ?_⟩, rfl⟩⟩, rfl⟩
    have hne : ¬ c = nth p i := fun e => by
      have : p.set i c = p := by
        rw [e]
        apply List.ext_getElem?
        intro j
        by_cases q : i = j
        · subst q
          by_cases hl : i < p.length
          · rw [List.getElem?_set_self hl, nth_get hl]
          · rw [List.getElem?_eq_none (by simp; omega), List.getElem?_eq_none (by omega)]
        · rw [List.getElem?_set_ne q]
      unfold gn at h0
      rw [this] at h0
      omega
    simp [lawC, hne, n1, n4, h0]
  · obtain ⟨x, hx, rfl⟩ := List.mem_map.mp hy
    obtain ⟨i, hi, hx⟩ := List.mem_flatMap.mp hx
    obtain ⟨c, hc, rfl⟩ := List.mem_map.mp hx
    exact List.mem_flatMap.mpr ⟨i, hi, List.mem_map.mpr ⟨c, (List.mem_filter.mp hc).1, rfl⟩⟩
theorem at_play {sz : List Int} {rows : List (List Int)} (g : GoodG sz rows) (o : Int) {p : List Int} (ok : okP sz p) : f__law_at_play [mkGame sz rows o, lstI sz, .lst (rows.map lstI), tupI p] = .ok (.bl true) := by
  have hs : ∀ x ∈ sz, 1 ≤ x := fun x hx => (g.s.item x hx).1
  have sl := g.s.len
  obtain ⟨u5, u6, u7, u8, e1⟩ := at_out g o ok
  have step : ∀ (r : Str) (m : Int) (x5 x6 x7 x8 x9 : Option D), (r = "better" ∨ r = "best" ∨ r = "even") → ∃ v8, b__law_at_play_2 [some (mkGame sz rows o), some (lstI sz), some (.lst (rows.map lstI)), some (tupI p), some (.int m), x5, x6, x7, x8, some (.str r)] = .nx [some (mkGame sz rows o), some (lstI sz), some (.lst (rows.map lstI)), some (tupI p), some (.int m), x5, x6, x7, v8, some (.str r)] := fun r m x5 x6 x7 x8 x9 hr => by
    have hz := pairs_len g.s rows p r
    have k1 := moves_ok g o ok r
    have k2 := lmoves_ok g ok hr
    rw [← pairs_law hs hr] at k2
    have k3 := islist_pairs (pairs sz rows p r) (by omega)
    have df : dflat (dcall (withD 2 [] f__law_is_list) (dcons (dv 8) (dcons (dcall (withD 4 [] f__law_moves) (dcons (dv 1) (dcons (dv 2) (dcons (dv 3) (dcons (dv 9) dnil))))) dnil))) [some (mkGame sz rows o), some (lstI sz), some (.lst (rows.map lstI)), some (tupI p), some (.int m), x5, x6, x7, some (.lst (dPr (pairs sz rows p r))), some (.str r)] = .ok (.bl true) := dflat_ok (by simp [k2, k3]) rfl
    have hz2 : (pairs sz rows p r).length < 16777216 := by omega
    exact ⟨_, by simp [b__law_at_play_2, k1, df, hz2, k2, k3]; rfl⟩
  have l3 : ∃ v8 v9, loopD (tgN 9) b__law_at_play_2 [.str "better", .str "best", .str "even"] [some (mkGame sz rows o), some (lstI sz), some (.lst (rows.map lstI)), some (tupI p), some (.int ((allG sz rows p).foldl max 0)), u5, u6, u7, u8, none] = .nx [some (mkGame sz rows o), some (lstI sz), some (.lst (rows.map lstI)), some (tupI p), some (.int ((allG sz rows p).foldl max 0)), u5, u6, u7, v8, v9] := by
    obtain ⟨a8, s1⟩ := step "better" ((allG sz rows p).foldl max 0) u5 u6 u7 u8 none (.inl rfl)
    obtain ⟨b8, s2⟩ := step "best" ((allG sz rows p).foldl max 0) u5 u6 u7 a8 none (.inr (.inl rfl))
    obtain ⟨c8, s3⟩ := step "even" ((allG sz rows p).foldl max 0) u5 u6 u7 b8 none (.inr (.inr rfl))
    exact ⟨c8, some (.str "even"), by rw [loopD_nx rfl s1, loopD_nx rfl s2, loopD_nx rfl s3]; rfl⟩
  obtain ⟨v8, v9, e2⟩ := l3
  have k4 := slack_ok g o ok
  rw [slack_all hs] at k4
  simp [f__law_at_play, runD_eq, m__law_at_play, startE, List.replicate, rng1_ok (show sz.length ≤ 1000 by omega), e1, e2, k4, whole_int]
end K88
set_option Elab.async false
set_option linter.all false
set_option maxRecDepth 100000
/-! Rests, refusals. -/
namespace K88
open PySem Fz

def restL (sz : List Int) (rows : List (List Int)) : List (List Int) := (allP sz).filter fun p => (pairs sz rows p "better").isEmpty
theorem allP_len {sz : List Int} (h : ∀ x ∈ sz, 1 ≤ x) : (allP sz).length = (prod sz).toNat := by
  have := congrArg List.length (allP_ok h).2
  simpa [digs_len] using this
theorem rests_ok {sz : List Int} {rows : List (List Int)} (g : GoodG sz rows) (o : Int) : f_rests [mkGame sz rows o] = .ok (.lst (dP (restL sz rows))) := by
  have hs : ∀ x ∈ sz, 1 ≤ x := fun x hx => (g.s.item x hx).1
  have hs2 : ∀ x ∈ sz, 1 ≤ x ∧ x ≤ 1000000 := fun x hx => by have := g.s.item x hx; omega
  have sl := g.s.len
  have pm := g.s.most
  have pp := prod_pos hs
  have al := allP_len hs
  obtain ⟨e', h1, acc, u2, rfl, h2, _⟩ := loop_inv (dd := fun p : List Int => D.int (plc sz p)) (tg := tgN 2) (body := b_rests_0) (fun q e => ∃ acc u2, e = [some (mkGame sz rows o), some (.lst acc), u2] ∧ acc ++ dP (q.filter fun p => (pairs sz rows p "better").isEmpty) = dP (restL sz rows) ∧ acc.length + q.length ≤ 120 ∧ ∀ p ∈ q, okP sz p) (fun p q e ⟨acc, u2, he, h2, h3, h4⟩ => by
    subst he
    have ok := h4 p List.mem_cons_self
    have hq : ∀ x ∈ q, okP sz x := fun x hx => h4 x (List.mem_cons_of_mem _ hx)
    simp only [List.length_cons] at h3
    have k1 := arcs_ok g o ok "better"
    rw [arcs_pairs] at k1
    have pr := plc_range ok
    have k2 := playat_ok hs2 (by omega) pr.1 pr.2
    rw [dg_plc hs ok] at k2
    have hz : acc.length < 16777216 := by omega
    by_cases q1 : pairs sz rows p "better" = []
    · rw [q1] at k1
      refine ⟨_, rfl, _, .inl (by simp [b_rests_0, k1, fS, k2, hz]), acc ++ [tupI p], some (.int (plc sz p)), rfl, ?_, ?_, hq⟩
      · rw [← h2]; simp [q1]
      · simp only [List.length_append, List.length_singleton]; omega
    · refine ⟨_, rfl, _, .inl (by simp [b_rests_0, k1, q1]), acc, some (.int (plc sz p)), rfl, ?_, by omega, hq⟩
      rw [← h2]; simp [q1]) (allP sz) [some (mkGame sz rows o), some (.lst []), none] ⟨[], none, rfl, rfl, by simp; omega, (allP_ok hs).1⟩
  have er : rngD 0 (prod sz).toNat = (allP sz).map fun p => D.int (plc sz p) := by
    rw [rngD0, ← (allP_ok hs).2]; simp
  have hr : rng1D [.int (prod sz)] = .ok (rngD 0 (prod sz).toNat) := if_pos (by unfold smallI; omega)
  rw [← er] at h1
  simp at h2
  simp [f_rests, runD_eq, m_rests, startE, List.replicate, fS, count_tup g.s.small, hr, h1, h2]
/-! ### refusals -/
theorem ischange_no {sz : List Int} {a c : Int} (h : ¬ (0 ≤ a ∧ a < sz.length ∧ 0 ≤ c ∧ c < nth sz a.toNat)) : f_is_change [tupI sz, .int a, .int c] = .ok (.bl false) := by
  by_cases q1 : 0 ≤ a
  · by_cases q2 : a < sz.length
    · have ix := oIx_tupI (ns := sz) q1 q2
      by_cases q3 : 0 ≤ c
      · have q4 : ¬ c < nth sz a.toNat := fun z => h ⟨q1, q2, q3, z⟩
        simp [f_is_change, runD_eq, m_is_change, startE, List.replicate, q1, q2, q3, q4, ix]
      · simp [f_is_change, runD_eq, m_is_change, startE, List.replicate, q1, q2, q3, ix]
    · simp [f_is_change, runD_eq, m_is_change, startE, List.replicate, q1, q2]
  · simp [f_is_change, runD_eq, m_is_change, startE, List.replicate, q1]
section
variable {sz : List Int} {rows : List (List Int)} (g : GoodG sz rows) (o : Int) {p q : List Int}
include g
theorem gain_no (no : ¬ okP sz q) (a c : Int) : f_gain [mkGame sz rows o, tupI q, .int a, .int c] = .exc "BadPlay" [] := by
  simp [f_gain, runD_eq, m_gain, startE, List.replicate, fS, place_no no]
theorem gain_no2 (ok : okP sz p) {a c : Int} (h : ¬ (0 ≤ a ∧ a < sz.length ∧ 0 ≤ c ∧ c < nth sz a.toNat)) : f_gain [mkGame sz rows o, tupI p, .int a, .int c] = .exc "BadPlay" [] := by
  simp [f_gain, runD_eq, m_gain, startE, List.replicate, fS, place_yes g.s.small ok, ischange_no h]
theorem moves_no (no : ¬ okP sz q) (r : Str) : f_moves [mkGame sz rows o, tupI q, .str r] = .exc "BadPlay" [] := by
  simp [f_moves, runD_eq, m_moves, startE, List.replicate, fS, place_no no]
theorem slack_no (no : ¬ okP sz q) : f_slack [mkGame sz rows o, tupI q] = .exc "BadPlay" [] := by
  simp [f_slack, runD_eq, m_slack, startE, List.replicate, fS, place_no no]
theorem pay_no (no : ¬ okP sz q) (a : Int) : f_Game_pay [mkGame sz rows o, tupI q, .int a] = .exc "BadPlay" [] := by
  simp [f_Game_pay, runD_eq, m_Game_pay, startE, List.replicate, fS, place_no no]
theorem pay_no2 (ok : okP sz p) {a : Int} (h : ¬ (0 ≤ a ∧ a < sz.length)) : f_Game_pay [mkGame sz rows o, tupI p, .int a] = .exc "BadPlay" [] := by
  by_cases q1 : 0 ≤ a
  · have q2 : ¬ a < sz.length := fun z => h ⟨q1, z⟩
    simp [f_Game_pay, runD_eq, m_Game_pay, startE, List.replicate, fS, place_yes g.s.small ok, q1, q2]
  · simp [f_Game_pay, runD_eq, m_Game_pay, startE, List.replicate, fS, place_yes g.s.small ok, q1]
theorem row_no {a : Int} (h : ¬ (0 ≤ a ∧ a < sz.length)) : f_Game_row [mkGame sz rows o, .int a] = .exc "BadPlay" [] := by
  by_cases q1 : 0 ≤ a
  · have q2 : ¬ a < sz.length := fun z => h ⟨q1, z⟩
    simp [f_Game_row, runD_eq, m_Game_row, startE, List.replicate, fS, q1, q2]
  · simp [f_Game_row, runD_eq, m_Game_row, startE, List.replicate, fS, q1]
theorem with_no (no : ¬ okP sz q) (a b c : Int) : f_Game_with_pay [mkGame sz rows o, tupI q, .int a, .int b, .int c] = .exc "BadPlay" [] := by
  simp [f_Game_with_pay, runD_eq, m_Game_with_pay, startE, List.replicate, fS, place_no no]
theorem with_no2 (ok : okP sz p) {a : Int} (h : ¬ (0 ≤ a ∧ a < sz.length)) (b c : Int) : f_Game_with_pay [mkGame sz rows o, tupI p, .int a, .int b, .int c] = .exc "BadPlay" [] := by
  by_cases q1 : 0 ≤ a
  · have q2 : ¬ a < sz.length := fun z => h ⟨q1, z⟩
    simp [f_Game_with_pay, runD_eq, m_Game_with_pay, startE, List.replicate, fS, place_yes g.s.small ok, q1, q2]
  · simp [f_Game_with_pay, runD_eq, m_Game_with_pay, startE, List.replicate, fS, place_yes g.s.small ok, q1]
end
/-! ### a table -/
def mkTab (sz ns : List Int) (over : Int) : D := .ins "Table" [("sizes", tupI sz), ("numbers", tupI ns), ("over", .int over)]
theorem c_TGt : (["Table", "Game"] : List Str).contains "Table" = true := by decide
theorem c_T : (["Table"] : List Str).contains "Table" = true := by decide
theorem put_3 (a b : D) : putD "numbers" a [("sizes", b)] = ([("sizes", b), ("numbers", a)] : List (Str × D)) := by
  have h : ¬ ("numbers" : Str) = "sizes" := by decide
  simp [putD, h]
theorem put_4 (a b c : D) : putD "over" a [("sizes", b), ("numbers", c)] = ([("sizes", b), ("numbers", c), ("over", a)] : List (Str × D)) := by
  have h : ¬ ("over" : Str) = "sizes" := by decide
  have h2 : ¬ ("over" : Str) = "numbers" := by decide
  simp [putD, h, h2]
theorem tab_init {sz ns : List Int} (g : GoodS sz) (hn : (ns.length : Int) = prod sz) {over : Int} (h1 : 1 ≤ over) (h2 : over ≤ 1000000) :
    f_Table_init [tupI sz, tupI ns, .int over] = .ok [("sizes", tupI sz), ("numbers", tupI (divR (fg over ns) ns)), ("over", .int (over / fg over ns))] := by
  have hr := fg_range ns over h1
  have ho : ¬ over < 1 := by omega
  have hm := g.most
  have dvv : ∀ x : Int, oDiv (.int x) (.int (fg over ns)) = .ok (.int (x / fg over ns)) := fun x => oDiv_p (by omega) (by omega)
  have lc : lcGo (tgN 5) dYes (d2 oDiv (dv 5) (dv 4)) [some (.ins "Table" [("sizes", tupI sz)]), some (tupI sz), some (tupI ns), some (.int over), some (.int (fg over ns)), none] (dI ns) = .ok (ns.map fun x => D.int (x / fg over ns)) := lc_map (dd := D.int) fun x hx => ⟨_, rfl, by simp [dvv]⟩
  have hz : ns.length ≤ 16777216 := by omega
  simp [f_Table_init, runI_eq, m_Table_init, startE, List.replicate, check_tup g, c_TGt, c_T, put_0, put_3, put_4, hn, ho, count_tup g.small, divisor_ok (x := tupI ns) (row := ns) rfl over, lc, endLc_map hz, dvv, divR, Function.comp_def]
theorem fST (sz ns : List Int) (o : Int) : oFld ["Table", "Game"] "sizes" (mkTab sz ns o) = .ok (tupI sz) := by
  have h : (("sizes" : Str) == "sizes") = true := by decide
  simp [mkTab, c_TGt, List.lookup, h]
theorem fNT (sz ns : List Int) (o : Int) : oFld ["Table"] "numbers" (mkTab sz ns o) = .ok (tupI ns) := by
  have h : (("numbers" : Str) == "sizes") = false := by decide
  have h2 : (("numbers" : Str) == "numbers") = true := by decide
  simp [mkTab, c_T, List.lookup, h, h2]
theorem at_no {sz ns q : List Int} (o : Int) (no : ¬ okP sz q) : f_Table_at [mkTab sz ns o, tupI q] = .exc "BadPlay" [] := by
  simp [f_Table_at, runD_eq, m_Table_at, startE, List.replicate, fST, fNT, place_no no]
theorem row_yes {sz : List Int} {rows : List (List Int)} (g : GoodG sz rows) {o : Int} (h1 : 1 ≤ o) (h2 : o ≤ 1000000) : ∃ ns o', f_Game_row [mkGame sz rows o, .int 0] = .ok (mkTab sz ns o') := by
  have sl := g.s.len
  have hr : 0 < rows.length := by have := g.n; omega
  have i1 : oIx (.tup (rows.map tupI)) (.int 0) = .ok (tupI (nthA rows 0)) := oIx_mN (n := 0) hr
  have hl := g.r _ (nthA_mem hr)
  have hp : (0 : Int) < sz.length := by omega
  have hp2 : 0 < sz.length := by omega
  have t := tab_init g.s hl h1 h2
  refine ⟨divR (fg o (nthA rows 0)) (nthA rows 0), o / fg o (nthA rows 0), ?_⟩
  simp [f_Game_row, runD_eq, m_Game_row, startE, List.replicate, fS, fP, fO, hp2, i1, t, mkTab]
end K88
set_option Elab.async false
set_option linter.all false
set_option maxRecDepth 100000
/-! Bad plays, all refusals. -/
namespace K88
open PySem Fz

theorem not_set : ∀ {sz p : List Int} {i : Nat} {c : Int}, i < sz.length → ¬ (0 ≤ c ∧ c < nth sz i) → ¬ okP sz (p.set i c)
  | s :: r, a :: p, 0, c, _, h => fun ok => h ⟨ok.1, ok.2.1⟩
  | s :: r, a :: p, i + 1, c, hi, h => fun ok => not_set (by simpa using hi) (by rw [nth_cons_succ] at h; exact h) ok.2.2
  | s :: r, [], i, c, _, h => fun ok => ok.elim
  | [], _, i, c, hi, h => by simp at hi
theorem bad_ok {sz : List Int} (g : GoodS sz) {p : List Int} (ok : okP sz p) {d : Int} (h0 : 0 ≤ d) : ∃ q, f__law_bad_play [lstI sz, tupI p, .int d] = .ok (tupI q) ∧ ¬ okP sz q := by
  have sl := g.len
  have hl := okP_len ok
  obtain ⟨i, hi, hi2⟩ : ∃ i : Nat, d / 4 % (sz.length : Int) = (i : Int) ∧ i < sz.length := by
    have h1 := Int.emod_nonneg (d / 4) (show (sz.length : Int) ≠ 0 by omega)
    have h2 := Int.emod_lt_of_pos (d / 4) (show 0 < (sz.length : Int) by omega)
    exact ⟨(d / 4 % (sz.length : Int)).toNat, by omega, by omega⟩
  have m1 : oMod (.int (d / 4)) (.int (sz.length : Int)) = .ok (.int (i : Int)) := by rw [oMod_p (by omega), hi]
  have c1 : sliD (tupI p) none (some (i : Int)) = .ok (.tup ((dI p).take i)) := by
    show Res.ok (D.tup (cutD (dI p) none (some (i : Int)))) = _
    rw [cut_lo (by simp; omega)]
  have c2 : sliD (tupI p) (some ((i : Int) + 1)) none = .ok (.tup ((dI p).drop (i + 1))) := by
    show Res.ok (D.tup (cutD (dI p) (some ((i : Int) + 1)) none)) = _
    have : ((i : Int) + 1) = ((i + 1 : Nat) : Int) := by omega
    rw [this, cut_hi (by simp; omega)]
  have a1 : ∀ c : Int, oAdd (.tup ((dI p).take i)) (.tup [.int c]) = .ok (.tup ((dI p).take i ++ [.int c])) := fun c => oAdd_tup (by simp; omega)
  have a2 : ∀ c : Int, oAdd (.tup ((dI p).take i ++ [.int c])) (.tup ((dI p).drop (i + 1))) = .ok (tupI (p.set i c)) := fun c => by
    rw [oAdd_tup (by simp; omega), ← set_cut c (by omega)]
    simp
  by_cases q0 : d % 4 = 0
  · refine ⟨p.take i ++ p.drop (i + 1), ?_, fun z => by have := okP_len z; simp at this; omega⟩
    have a3 : oAdd (.tup ((dI p).take i)) (.tup ((dI p).drop (i + 1))) = .ok (tupI (p.take i ++ p.drop (i + 1))) := by
      rw [oAdd_tup (by simp; omega)]; simp
    simp [f__law_bad_play, runD_eq, m__law_bad_play, startE, List.replicate, oMod_p, oDiv_p, q0, m1, c1, c2, a3]
  by_cases q1 : d % 4 = 1
  · refine ⟨p ++ [0], ?_, fun z => by have := okP_len z; simp at this; omega⟩
    have a3 : oAdd (tupI p) (.tup [.int 0]) = .ok (tupI (p ++ [0])) := by
      rw [oAdd_tup (by simp; omega)]; simp
    simp [f__law_bad_play, runD_eq, m__law_bad_play, startE, List.replicate, oMod_p, oDiv_p, q1, m1, a3]
  by_cases q2 : d % 4 = 2
  · refine ⟨p.set i (-1), ?_, not_set hi2 (by omega)⟩
    simp [f__law_bad_play, runD_eq, m__law_bad_play, startE, List.replicate, oMod_p, oDiv_p, q2, m1, c1, c2, a1, a2]
  · refine ⟨p.set i (nth sz i), ?_, not_set hi2 (by omega)⟩
    have i1 : oIx (lstI sz) (.int (i : Int)) = .ok (.int (nth sz i)) := oIx_dNl hi2
    simp [f__law_bad_play, runD_eq, m__law_bad_play, startE, List.replicate, oMod_p, oDiv_p, q0, q1, q2, m1, c1, c2, i1, a1, a2]
theorem lk_fault : ([("Fault", true), ("BadGame", true), ("BadPlay", true)] : List (Str × Bool)).lookup ("BadPlay" : Str) = some true := by decide
theorem lk_1 : ([("Fault", false), ("BadGame", false), ("BadPlay", true)] : List (Str × Bool)).lookup ("BadPlay" : Str) = some true := by decide
theorem lk_2 : ([("Fault", false), ("BadGame", true), ("BadPlay", false)] : List (Str × Bool)).lookup ("BadPlay" : Str) = some false := by decide
theorem lk_3 : ([("Fault", false), ("BadGame", false), ("BadPlay", false)] : List (Str × Bool)).lookup ("BadPlay" : Str) = some false := by decide
theorem lk_p (a b c : D) : ([("sizes", a), ("pays", b), ("over", c)] : List (Str × D)).lookup ("pay" : Str) = none := by
  have h1 : (("pay" : Str) == "sizes") = false := by decide
  have h2 : (("pay" : Str) == "pays") = false := by decide
  have h3 : (("pay" : Str) == "over") = false := by decide
  simp [List.lookup, h1, h2, h3]
theorem lk_r (a b c : D) : ([("sizes", a), ("pays", b), ("over", c)] : List (Str × D)).lookup ("row" : Str) = none := by
  have h1 : (("row" : Str) == "sizes") = false := by decide
  have h2 : (("row" : Str) == "pays") = false := by decide
  have h3 : (("row" : Str) == "over") = false := by decide
  simp [List.lookup, h1, h2, h3]
theorem lk_w (a b c : D) : ([("sizes", a), ("pays", b), ("over", c)] : List (Str × D)).lookup ("with_pay" : Str) = none := by
  have h1 : (("with_pay" : Str) == "sizes") = false := by decide
  have h2 : (("with_pay" : Str) == "pays") = false := by decide
  have h3 : (("with_pay" : Str) == "over") = false := by decide
  simp [List.lookup, h1, h2, h3]
theorem lk_a (a b c : D) : ([("sizes", a), ("numbers", b), ("over", c)] : List (Str × D)).lookup ("at" : Str) = none := by
  have h1 : (("at" : Str) == "sizes") = false := by decide
  have h2 : (("at" : Str) == "numbers") = false := by decide
  have h3 : (("at" : Str) == "over") = false := by decide
  simp [List.lookup, h1, h2, h3]
theorem me_p (sz : List Int) (rows : List (List Int)) (o : Int) (f : D → Res D) : methK "Game" "pay" f (mkGame sz rows o) = f (mkGame sz rows o) := by simp [mkGame, lk_p]
theorem me_r (sz : List Int) (rows : List (List Int)) (o : Int) (f : D → Res D) : methK "Game" "row" f (mkGame sz rows o) = f (mkGame sz rows o) := by simp [mkGame, lk_r]
theorem me_w (sz : List Int) (rows : List (List Int)) (o : Int) (f : D → Res D) : methK "Game" "with_pay" f (mkGame sz rows o) = f (mkGame sz rows o) := by simp [mkGame, lk_w]
theorem me_a (sz ns : List Int) (o : Int) (f : D → Res D) : methK "Table" "at" f (mkTab sz ns o) = f (mkTab sz ns o) := by simp [mkTab, lk_a]
theorem refuses {sz : List Int} {rows : List (List Int)} (g : GoodG sz rows) {o : Int} (o1 : 1 ≤ o) (o2 : o ≤ 1000000) {p q : List Int} (ok : okP sz p) (no : ¬ okP sz q) {a c : Int} (ha : ¬ (0 ≤ a ∧ a < sz.length)) (hc : ¬ (0 ≤ c ∧ c < nth sz 0)) {d : Int} (hd0 : 0 ≤ d) (hd1 : d < 11) :
    f__law_refuses [.int d, mkGame sz rows o, tupI p, tupI q, .int a, .int c] = .ok (.bl true) := by
  obtain ⟨ns, o', hrow⟩ := row_yes g o1 o2
  have h1 := gain_no g o no 0 0
  have h2 := gain_no2 (c := 0) g o ok (a := a) fun z => ha ⟨z.1, z.2.1⟩
  have h3 := gain_no2 g o ok (a := 0) (c := c) fun z => hc ⟨z.2.2.1, by simpa using z.2.2.2⟩
  have h4 := moves_no g o no "better"
  have h5 := slack_no g o no
  have h6 := pay_no g o no 0
  have h7 := pay_no2 g o ok ha
  have h8 := row_no g o ha
  have h9 := at_no (ns := ns) (sz := sz) o' no
  have h10 := with_no g o no 0 1 0
  have h11 := with_no2 g o ok ha 1 1
  have key : ∀ (body : Fz.Env → Out) (rest : Fz.Env → Out), body [some (.int d), some (mkGame sz rows o), some (tupI p), some (tupI q), some (.int a), some (.int c), some (.int 0), none] = .exc "BadPlay" [] [some (.int d), some (mkGame sz rows o), some (tupI p), some (tupI q), some (.int a), some (.int c), some (.int 0), none] →
      (bSeq (sTry [("Fault", true), ("BadGame", true), ("BadPlay", true)] 7 body (bSeq (sRet (dAnd (dIsE 7 [("Fault", false), ("BadGame", false), ("BadPlay", true)]) (dAnd (d1 oNot (dIsE 7 [("Fault", false), ("BadGame", true), ("BadPlay", false)])) (d1 oNot (dIsE 7 [("Fault", false), ("BadGame", false), ("BadPlay", false)]))))) sNx)) rest)
        [some (.int d), some (mkGame sz rows o), some (tupI p), some (tupI q), some (.int a), some (.int c), some (.int 0), none] = .ret (.bl true) := fun body rest hb => by
    rw [bSeq_ev, sTry_exc hb lk_fault (by simp)]
    have e1 : dIsE 7 [("Fault", false), ("BadGame", false), ("BadPlay", true)] [some (.int d), some (mkGame sz rows o), some (tupI p), some (tupI q), some (.int a), some (.int c), some (.int 0), some (.exn "BadPlay" [])] = .ok (.bl true) := dIsE_ok rfl lk_1
    have e2 : dIsE 7 [("Fault", false), ("BadGame", true), ("BadPlay", false)] [some (.int d), some (mkGame sz rows o), some (tupI p), some (tupI q), some (.int a), some (.int c), some (.int 0), some (.exn "BadPlay" [])] = .ok (.bl false) := dIsE_ok rfl lk_2
    have e3 : dIsE 7 [("Fault", false), ("BadGame", false), ("BadPlay", false)] [some (.int d), some (mkGame sz rows o), some (tupI p), some (tupI q), some (.int a), some (.int c), some (.int 0), some (.exn "BadPlay" [])] = .ok (.bl false) := dIsE_ok rfl lk_3
    simp [e1, e2, e3]
  have fin : m__law_refuses [some (.int d), some (mkGame sz rows o), some (tupI p), some (tupI q), some (.int a), some (.int c), none, none] = .ret (.bl true) := by
    unfold m__law_refuses
    rw [bSeq_ev]
    have s0 : sSet 6 (dc (.int 0)) [some (.int d), some (mkGame sz rows o), some (tupI p), some (tupI q), some (.int a), some (.int c), none, none] = .nx [some (.int d), some (mkGame sz rows o), some (tupI p), some (tupI q), some (.int a), some (.int c), some (.int 0), none] := by simp
    rw [s0, seq_nx]
    refine key _ _ ?_
    have hd : d = 0 ∨ d = 1 ∨ d = 2 ∨ d = 3 ∨ d = 4 ∨ d = 5 ∨ d = 6 ∨ d = 7 ∨ d = 8 ∨ d = 9 ∨ d = 10 := by omega
    rcases hd with rfl | rfl | rfl | rfl | rfl | rfl | rfl | rfl | rfl | rfl | rfl <;>
      simp [h1, h2, h3, h4, h5, h6, h7, h8, h9, h10, h11, hrow, me_p, me_r, me_w, me_a]
  simp only [f__law_refuses, runD_eq, startE]
  have e0 : (List.map some [D.int d, mkGame sz rows o, tupI p, tupI q, .int a, .int c] ++ List.replicate (8 - [D.int d, mkGame sz rows o, tupI p, tupI q, .int a, .int c].length) none) = [some (.int d), some (mkGame sz rows o), some (tupI p), some (tupI q), some (.int a), some (.int c), none, none] := rfl
  rw [e0, fin]
  simp
end K88
set_option Elab.async false
set_option linter.all false
set_option maxRecDepth 100000
/-! The law's loops. -/
namespace K88
open PySem Fz

theorem go {b c : Fz.Env → Out} {env e : Fz.Env} {o : Out} (h : b env = .nx e) (h2 : c e = o) : bSeq b c env = o := by rw [bSeq_ev, h, seq_nx, h2]
section
variable (a0 a1 a2 a3 a4 a5 a6 a7 a8 : Option D) (a12 a13 a14 a15 a16 a17 a18 a19 : Option D)
theorem common_in {c : Int} (h1 : 1 ≤ c) (h2 : c < 399) (row : List Int) (a9 a11 : Option D) :
    ∃ o, loopD (tgN 11) b_law_1 (dI row) [a0, a1, a2, a3, a4, a5, a6, a7, a8, a9, some (.int c), a11, a12, a13, a14, a15, a16, a17, a18, a19] = .nx [a0, a1, a2, a3, a4, a5, a6, a7, a8, a9, some (.int (fg c row)), o, a12, a13, a14, a15, a16, a17, a18, a19] := by
  obtain ⟨e', e1, a, o, rfl, k, _⟩ := loop_inv (dd := D.int) (tg := tgN 11) (body := b_law_1) (fun r e => ∃ a o, e = [a0, a1, a2, a3, a4, a5, a6, a7, a8, a9, some (.int a), o, a12, a13, a14, a15, a16, a17, a18, a19] ∧ fg a r = fg c row ∧ 1 ≤ a ∧ a < 399) (fun y r e ⟨a, o, he, k, k1, k2⟩ => by
    subst he
    have hy := fg_range [y] a k1
    have hy2 : fg a [y] = ((Int.gcd a y : Nat) : Int) := rfl
    rw [hy2] at hy
    exact ⟨_, rfl, _, .inl (by simp [b_law_1, lgcd_ok a y (by omega)]), ((Int.gcd a y : Nat) : Int), some (.int y), rfl, k, by omega, by omega⟩) row _ ⟨c, a11, rfl, rfl, h1, h2⟩
  have k : a = fg c row := k
  subst k
  exact ⟨o, e1⟩
theorem common_ok {c : Int} (h1 : 1 ≤ c) (h2 : c < 399) (rows : List (List Int)) (a9 a11 : Option D) :
    ∃ o9 o, loopD (tgN 9) b_law_2 (rows.map lstI) [a0, a1, a2, a3, a4, a5, a6, a7, a8, a9, some (.int c), a11, a12, a13, a14, a15, a16, a17, a18, a19] = .nx [a0, a1, a2, a3, a4, a5, a6, a7, a8, o9, some (.int (fgs c rows)), o, a12, a13, a14, a15, a16, a17, a18, a19] := by
  obtain ⟨e', e1, a, o9, o, rfl, k, _⟩ := loop_inv (dd := lstI) (tg := tgN 9) (body := b_law_2) (fun r e => ∃ a o9 o, e = [a0, a1, a2, a3, a4, a5, a6, a7, a8, o9, some (.int a), o, a12, a13, a14, a15, a16, a17, a18, a19] ∧ fgs a r = fgs c rows ∧ 1 ≤ a ∧ a < 399) (fun y r e ⟨a, o9, o, he, k, k1, k2⟩ => by
    subst he
    have hy := fg_range y a k1
    obtain ⟨o', h⟩ := common_in a0 a1 a2 a3 a4 a5 a6 a7 a8 a12 a13 a14 a15 a16 a17 a18 a19 k1 k2 y (some (lstI y)) o
    exact ⟨_, rfl, _, .inl (by simp [b_law_2, h]), fg a y, some (lstI y), o', rfl, k, by omega, by omega⟩) rows _ ⟨c, a9, a11, rfl, rfl, h1, h2⟩
  have k : a = fgs c rows := k
  subst k
  exact ⟨o9, o, e1⟩
theorem div_rows {c : Int} (h1 : 1 ≤ c) (h2 : c < 399) (rows : List (List Int)) (hr : ∀ row ∈ rows, row.length ≤ 120) (a11 : Option D) :
    lcGo (tgN 9) dYes b_law_3 [a0, a1, a2, a3, a4, a5, a6, a7, a8, none, some (.int c), a11, a12, a13, a14, a15, a16, a17, a18, a19] (rows.map lstI) = .ok (rows.map fun row => lstI (divR c row)) :=
  lc_map (dd := lstI) (g := fun row => lstI (divR c row)) fun row hrow => ⟨_, rfl, by
    have hz : row.length ≤ 16777216 := by have := hr row hrow; omega
    have dvv : ∀ x : Int, oDiv (.int x) (.int c) = .ok (.int (x / c)) := fun x => oDiv_p (by omega) (by omega)
    have lc : lcGo (tgN 11) dYes (d2 oDiv (dv 11) (dv 10)) [a0, a1, a2, a3, a4, a5, a6, a7, a8, some (lstI row), some (.int c), none, a12, a13, a14, a15, a16, a17, a18, a19] (dI row) = .ok (row.map fun x => D.int (x / c)) := lc_map (dd := D.int) fun x hx => ⟨_, rfl, by simp [dvv]⟩
    simp [b_law_3, lc, endLc_map hz, divR, Function.comp_def]⟩
end
section
variable {sz : List Int} {rows : List (List Int)} (g : GoodG sz rows) (o : Int)
include g
theorem at_loop (asked : List (List Int)) (ha : ∀ p ∈ asked, okP sz p) (a0 a2 a3 a4 a5 a7 a9 a10 a11 a12 a13 a14 a15 a16 a17 a18 a19 : Option D) :
    ∃ u, loopD (tgN 13) b_law_5 (dP asked) [a0, some (lstI sz), a2, a3, a4, a5, some (.lst (rows.map lstI)), a7, some (mkGame sz rows o), a9, a10, a11, a12, a13, a14, a15, a16, a17, a18, a19] = .nx [a0, some (lstI sz), a2, a3, a4, a5, some (.lst (rows.map lstI)), a7, some (mkGame sz rows o), a9, a10, a11, a12, u, a14, a15, a16, a17, a18, a19] := by
  obtain ⟨e', e1, u, rfl, _⟩ := loop_inv (dd := tupI) (tg := tgN 13) (body := b_law_5) (fun r e => ∃ u, e = [a0, some (lstI sz), a2, a3, a4, a5, some (.lst (rows.map lstI)), a7, some (mkGame sz rows o), a9, a10, a11, a12, u, a14, a15, a16, a17, a18, a19] ∧ ∀ p ∈ r, okP sz p) (fun y r e ⟨u, he, k⟩ => by
    subst he
    have h := at_play g o (k y List.mem_cons_self)
    have fl : dflat (dcall (withD 4 [] f__law_at_play) (dcons (dv 8) (dcons (dv 1) (dcons (dv 6) (dcons (dv 13) dnil))))) [a0, some (lstI sz), a2, a3, a4, a5, some (.lst (rows.map lstI)), a7, some (mkGame sz rows o), a9, a10, a11, a12, some (tupI y), a14, a15, a16, a17, a18, a19] = .ok (.bl true) := dflat_ok (by simp [h]) rfl
    exact ⟨_, rfl, _, .inl (by simp [b_law_5, fl]), some (tupI y), rfl, fun p hp => k p (List.mem_cons_of_mem _ hp)⟩) asked _ ⟨a13, rfl, ha⟩
  exact ⟨u, e1⟩
theorem lay_dPr (xs : List (Nat × Int)) : (D.lst (dPr xs)).lay = true := lays_map fun _ _ => rfl
theorem dep_dPr (xs : List (Nat × Int)) : (D.lst (dPr xs)).dep ≤ 64 := by
  have : D.deps (dPr xs) ≤ 1 := deps_map fun _ _ => Nat.le_refl _
  show D.deps (dPr xs) + 1 ≤ 64
  omega
theorem eq_dPr (xs : List (Nat × Int)) : cEq (.lst (dPr xs)) (.lst []) = .ok (.bl xs.isEmpty) := by
  cases xs with
  | nil => exact cEq_yes rfl (by decide)
  | cons x r => exact cEq_no (lay_dPr g _) rfl (dep_dPr g _) (by decide) (by simp)
theorem due_loop (a0 a2 a3 a4 a5 a7 a8 a9 a10 a11 a12 a13 a15 a16 a17 a18 a19 : Option D) :
    ∃ u, loopD (tgN 13) b_law_6 (dP (allP sz)) [a0, some (lstI sz), a2, a3, a4, a5, some (.lst (rows.map lstI)), a7, a8, a9, a10, a11, a12, a13, some (.lst []), a15, a16, a17, a18, a19] = .nx [a0, some (lstI sz), a2, a3, a4, a5, some (.lst (rows.map lstI)), a7, a8, a9, a10, a11, a12, u, some (.lst (dP (restL sz rows))), a15, a16, a17, a18, a19] := by
  have hs : ∀ x ∈ sz, 1 ≤ x := fun x hx => (g.s.item x hx).1
  have hz : (allP sz).length ≤ 120 := by rw [allP_len hs]; have := g.s.most; omega
  obtain ⟨e', e1, u, acc, rfl, k, _⟩ := loop_inv (dd := tupI) (tg := tgN 13) (body := b_law_6) (fun r e => ∃ u acc, e = [a0, some (lstI sz), a2, a3, a4, a5, some (.lst (rows.map lstI)), a7, a8, a9, a10, a11, a12, u, some (.lst (dP acc)), a15, a16, a17, a18, a19] ∧ acc ++ r.filter (fun p => (pairs sz rows p "better").isEmpty) = restL sz rows ∧ acc.length + r.length ≤ 120 ∧ ∀ p ∈ r, okP sz p) (fun y r e ⟨u, acc, he, k, kl, kp⟩ => by
    subst he
    have h := lmoves_ok g (kp y List.mem_cons_self) (r := "better") (.inl rfl)
    rw [← pairs_law hs (.inl rfl)] at h
    have q := eq_dPr g (pairs sz rows y "better")
    have fl : tflat (tVal (d2 cEq (dcall (withD 4 [] f__law_moves) (dcons (dv 1) (dcons (dv 6) (dcons (dv 13) (dcons (dc (.str "better")) dnil))))) (dcall oLst dnil))) [a0, some (lstI sz), a2, a3, a4, a5, some (.lst (rows.map lstI)), a7, a8, a9, a10, a11, a12, some (tupI y), some (.lst (dP acc)), a15, a16, a17, a18, a19] = .ok (pairs sz rows y "better").isEmpty := tflat_ok (by simp [h, q])
    simp only [List.length_cons] at kl
    have hlt : acc.length < 16777216 := by omega
    by_cases b : (pairs sz rows y "better").isEmpty = true
    · rw [List.filter_cons_of_pos (by exact b)] at k
      exact ⟨_, rfl, [a0, some (lstI sz), a2, a3, a4, a5, some (.lst (rows.map lstI)), a7, a8, a9, a10, a11, a12, some (tupI y), some (.lst (dP (acc ++ [y]))), a15, a16, a17, a18, a19], .inl (by simp [b_law_6, fl, b, hlt]), _, acc ++ [y], rfl, by simpa using k, by simp; omega, fun p hp => kp p (List.mem_cons_of_mem _ hp)⟩
    · rw [List.filter_cons_of_neg (by exact b)] at k
      have b : (pairs sz rows y "better").isEmpty = false := by simpa using b
      exact ⟨_, rfl, [a0, some (lstI sz), a2, a3, a4, a5, some (.lst (rows.map lstI)), a7, a8, a9, a10, a11, a12, some (tupI y), some (.lst (dP acc)), a15, a16, a17, a18, a19], .inl (by simp [b_law_6, fl, b]), _, acc, rfl, k, by omega, fun p hp => kp p (List.mem_cons_of_mem _ hp)⟩) (allP sz) _ ⟨a13, [], rfl, rfl, by simpa using hz, (allP_ok hs).1⟩
  have k : restL sz rows = acc := by simpa using k.symm
  rw [k]
  exact ⟨u, e1⟩
theorem ref_loop (h1 : 1 ≤ o) (h2 : o ≤ 1000000) {p q : List Int} (ok : okP sz p) (no : ¬ okP sz q) {a c : Int} (ha : ¬ (0 ≤ a ∧ a < sz.length)) (hc : ¬ (0 ≤ c ∧ c < nth sz 0)) (a0 a1 a2 a3 a4 a5 a6 a7 a9 a10 a11 a12 a14 a15 a19 : Option D) :
    ∃ u, loopD (tgN 19) b_law_7 (rngD 0 11) [a0, a1, a2, a3, a4, a5, a6, a7, some (mkGame sz rows o), a9, a10, a11, a12, some (tupI p), a14, a15, some (tupI q), some (.int a), some (.int c), a19] = .nx [a0, a1, a2, a3, a4, a5, a6, a7, some (mkGame sz rows o), a9, a10, a11, a12, some (tupI p), a14, a15, some (tupI q), some (.int a), some (.int c), u] := by
  obtain ⟨e', e1, u, rfl⟩ := loop_rng (lo := 0) (tg := tgN 19) (body := b_law_7) 11 (fun i e => ∃ u, e = [a0, a1, a2, a3, a4, a5, a6, a7, some (mkGame sz rows o), a9, a10, a11, a12, some (tupI p), a14, a15, some (tupI q), some (.int a), some (.int c), u]) (fun i e hi ⟨u, he⟩ => by
    subst he
    have e0 : (0 : Int) + (i : Int) = (i : Int) := by omega
    rw [e0]
    have h := refuses g h1 h2 ok no ha hc (d := (i : Int)) (by omega) (by omega)
    exact ⟨_, rfl, _, .inl (by simp [b_law_7, h]), some (.int (i : Int)), rfl⟩) _ ⟨a19, rfl⟩
  exact ⟨u, e1⟩
end
end K88
set_option Elab.async false
set_option linter.all false
set_option maxRecDepth 100000
/-! The law. -/
namespace K88
open PySem Fz

theorem mem_set' {α : Type} {xs : List α} {i : Nat} {a x : α} (h : x ∈ xs.set i a) : x ∈ xs ∨ x = a := List.mem_or_eq_of_mem_set h
theorem put_row {sz : List Int} {rows : List (List Int)} (g : GoodG sz rows) {di de : Fz.Env → Res D} {a0 a1 a2 a3 a4 a5 : Option D} {r : List (Option D)}
    (h1 : di (a0 :: a1 :: a2 :: a3 :: a4 :: a5 :: some (.lst (rows.map lstI)) :: r) = .ok (.int ((sz.length : Int) - 1)))
    (h2 : de (a0 :: a1 :: a2 :: a3 :: a4 :: a5 :: some (.lst (rows.map lstI)) :: r) = .ok (lstI (nthA rows 0))) :
    ∃ rows1, GoodG sz rows1 ∧ sPut 6 di de (a0 :: a1 :: a2 :: a3 :: a4 :: a5 :: some (.lst (rows.map lstI)) :: r) = .nx (a0 :: a1 :: a2 :: a3 :: a4 :: a5 :: some (.lst (rows1.map lstI)) :: r) := by
  have sl := g.s.len
  have hn := g.n
  refine ⟨rows.set (sz.length - 1) (nthA rows 0), ⟨g.s, by simpa using hn, fun row h => ?_⟩, ?_⟩
  · rcases mem_set' h with h | rfl
    · exact g.r row h
    · exact g.r _ (nthA_mem (by omega))
  · rw [sPut_ok (xs := rows.map lstI) (n := sz.length - 1) rfl h2 h1 (ixN_nat (by omega) (by simp; omega)), List.map_set]
    rfl
theorem ask_in {sz : List Int} (gs : GoodS sz) {nums : List Int} (hl : nums.length = 30) (a0 a1 a5 a6 a8 a9 a10 a11 a12 a13 a14 a15 a16 a17 a18 a19 : Option D) :
    ∃ asked : List (List Int), (∀ p ∈ asked, okP sz p) ∧ asked.length = 12 ∧ lcGo (tgN 7) dYes b_law_4 [a0, a1, some (.int (prod sz)), some (.lst (dP (allP sz))), some (lstI nums), a5, a6, none, a8, a9, a10, a11, a12, a13, a14, a15, a16, a17, a18, a19] (dI (digs 12)) = .ok (dP asked) := by
  have hs : ∀ x ∈ sz, 1 ≤ x := fun x hx => (gs.item x hx).1
  have hp := prod_pos hs
  have hal := allP_len hs
  have hok := (allP_ok hs).1
  refine ⟨(digs 12).map fun k => nthA (allP sz) ((nth nums (2 + k).toNat * 3600 + nth nums (3 + k).toNat) % prod sz).toNat, ?_, by simp [digs_len], ?_⟩
  · intro p hp'
    obtain ⟨k, _, rfl⟩ := List.mem_map.mp hp'
    have h1 := Int.emod_nonneg (nth nums (2 + k).toNat * 3600 + nth nums (3 + k).toNat) (show prod sz ≠ 0 by omega)
    have h2 := Int.emod_lt_of_pos (nth nums (2 + k).toNat * 3600 + nth nums (3 + k).toNat) (show 0 < prod sz by omega)
    exact hok _ (nthA_mem (by omega))
  · unfold dP
    rw [List.map_map]
    exact lc_map (dd := D.int) (tg := tgN 7) (de := b_law_4) (env := [a0, a1, some (.int (prod sz)), some (.lst (dP (allP sz))), some (lstI nums), a5, a6, none, a8, a9, a10, a11, a12, a13, a14, a15, a16, a17, a18, a19]) (g := fun k => tupI (nthA (allP sz) ((nth nums (2 + k).toNat * 3600 + nth nums (3 + k).toNat) % prod sz).toNat)) (xs := digs 12) fun k hk => ⟨_, rfl, by
      have hk := digs_mem.mp hk
      have h1 := Int.emod_nonneg (nth nums (2 + k).toNat * 3600 + nth nums (3 + k).toNat) (show prod sz ≠ 0 by omega)
      have h2 := Int.emod_lt_of_pos (nth nums (2 + k).toNat * 3600 + nth nums (3 + k).toNat) (show 0 < prod sz by omega)
      have i1 : oIx (lstI nums) (.int (2 + k)) = .ok (.int (nth nums (2 + k).toNat)) := oIx_lstI (by omega) (by omega)
      have i2 : oIx (lstI nums) (.int (3 + k)) = .ok (.int (nth nums (3 + k).toNat)) := oIx_lstI (by omega) (by omega)
      have m1 : oMul (.int (nth nums (2 + k).toNat)) (.int 3600) = .ok (.int (nth nums (2 + k).toNat * 3600)) := oMul_r (by omega)
      have m2 : oMod (.int (nth nums (2 + k).toNat * 3600 + nth nums (3 + k).toNat)) (.int (prod sz)) = .ok (.int ((nth nums (2 + k).toNat * 3600 + nth nums (3 + k).toNat) % prod sz)) := oMod_p (by omega)
      have i3 : oIx (.lst (dP (allP sz))) (.int ((nth nums (2 + k).toNat * 3600 + nth nums (3 + k).toNat) % prod sz)) = .ok (tupI (nthA (allP sz) ((nth nums (2 + k).toNat * 3600 + nth nums (3 + k).toNat) % prod sz).toNat)) := oIx_lstM h1 (by omega)
      simp [b_law_4, i1, i2, m1, m2, i3]⟩
theorem law_true (ns : List Int) (hns : ns.length ≤ 63) : f_law [.scr (ns.map .int)] = .ok (.bl true) := by
  obtain ⟨v0, hv0⟩ := cell_ok ns 0
  obtain ⟨v1, hv1⟩ := cell_ok ns 1
  have hv0 : f__law_cell [.scr (dI ns), .int 0] = .ok (.int v0) := hv0
  have hv1 : f__law_cell [.scr (dI ns), .int 1] = .ok (.int v1) := hv1
  obtain ⟨sz, hsz, gs⟩ := sizes_ok v0
  have hs : ∀ x ∈ sz, 1 ≤ x := fun x hx => (gs.item x hx).1
  have sl := gs.len
  have hcount := lcount_ok gs.small
  have hplays := plays_ok gs
  have hpp := prod_pos hs
  have hpm := gs.most
  have hal := allP_len hs
  have hok := (allP_ok hs).1
  obtain ⟨nums, hrow, hlen, hit⟩ := row_ok v1 3600 30 (by omega) (by omega) (by omega)
  have hrow : f__law_row [.int v1, .int 30, .int 3600] = .ok (lstI nums) := hrow
  obtain ⟨R, hR⟩ := Classical.axiomOfChoice (r := fun (k : Nat) (row : List Int) => ∃ v, f__law_cell [.scr (dI ns), .int ((2 + k : Nat) : Int)] = .ok (.int v) ∧ f__law_pays [.int (v + 17 * (k : Int)), .int (prod sz)] = .ok (lstI row) ∧ (row.length : Int) = prod sz) (fun k => by
    obtain ⟨v, hv⟩ := cell_ok ns (2 + k)
    obtain ⟨row, h1, h2⟩ := pays_ok (v + 17 * (k : Int)) (prod sz).toNat (by omega)
    have e : (((prod sz).toNat : Nat) : Int) = prod sz := by omega
    rw [e] at h1
    exact ⟨row, v, hv, h1, by omega⟩)
  have ix : ∀ n : Nat, n < 30 → ∃ z, oIx (lstI nums) (.int (n : Int)) = .ok (.int z) ∧ 0 ≤ z := fun n hn => ⟨_, oIx_dNl (by omega), (hit _ (nth_mem (by omega))).1⟩
  obtain ⟨n0, x0, y0⟩ := ix 0 (by omega)
  obtain ⟨n1, x1, y1⟩ := ix 1 (by omega)
  obtain ⟨n15, x15, y15⟩ := ix 15 (by omega)
  obtain ⟨n16, x16, y16⟩ := ix 16 (by omega)
  obtain ⟨n17, x17, y17⟩ := ix 17 (by omega)
  have x0 : oIx (lstI nums) (.int 0) = .ok (.int n0) := x0
  have x1 : oIx (lstI nums) (.int 1) = .ok (.int n1) := x1
  have x15 : oIx (lstI nums) (.int 15) = .ok (.int n15) := x15
  have x16 : oIx (lstI nums) (.int 16) = .ok (.int n16) := x16
  have x17 : oIx (lstI nums) (.int 17) = .ok (.int n17) := x17
  have o1 : 1 ≤ 1 + n0 % 9 := by omega
  have o2 : 1 + n0 % 9 ≤ 9 := by omega
  generalize ho : 1 + n0 % 9 = over at o1 o2
  have fin : m_law [some (.scr (dI ns)), none, none, none, none, none, none, none, none, none, none, none, none, none, none, none, none, none, none, none] = .ret (.bl true) := by
    unfold m_law
    refine go (e := [some (.scr (dI ns)), some (lstI sz), none, none, none, none, none, none, none, none, none, none, none, none, none, none, none, none, none, none]) (by simp [hv0, hsz]) ?_
    refine go (e := [some (.scr (dI ns)), some (lstI sz), some (.int (prod sz)), none, none, none, none, none, none, none, none, none, none, none, none, none, none, none, none, none]) (by simp [hcount]) ?_
    refine go (e := [some (.scr (dI ns)), some (lstI sz), some (.int (prod sz)), some (.lst (dP (allP sz))), none, none, none, none, none, none, none, none, none, none, none, none, none, none, none, none]) (by simp [hplays]) ?_
    refine go (e := [some (.scr (dI ns)), some (lstI sz), some (.int (prod sz)), some (.lst (dP (allP sz))), some (lstI nums), none, none, none, none, none, none, none, none, none, none, none, none, none, none, none]) (by simp [hv1, hrow]) ?_
    refine go (e := [some (.scr (dI ns)), some (lstI sz), some (.int (prod sz)), some (.lst (dP (allP sz))), some (lstI nums), some (.int over), none, none, none, none, none, none, none, none, none, none, none, none, none, none]) (by simp [x0, oMod_p, ho]) ?_
    -- the rows
    have lcR : lcGo (tgN 7) dYes b_law_0 [some (.scr (dI ns)), some (lstI sz), some (.int (prod sz)), some (.lst (dP (allP sz))), some (lstI nums), some (.int over), none, none, none, none, none, none, none, none, none, none, none, none, none, none] (dI (digs sz.length)) = .ok (((digs sz.length).map fun k => R k.toNat).map lstI) := by
      rw [List.map_map]
      exact lc_map (dd := D.int) (g := fun k => lstI (R k.toNat)) fun k hk => ⟨_, rfl, by
        have hk := digs_mem.mp hk
        obtain ⟨v, h1, h2, _⟩ := hR k.toNat
        have e1 : (((2 + k.toNat : Nat)) : Int) = 2 + k := by omega
        have e2 : ((k.toNat : Nat) : Int) = k := by omega
        rw [e1] at h1
        rw [e2] at h2
        have m1 : oMul (.int 17) (.int k) = .ok (.int (17 * k)) := oMul_l (by omega)
        simp [b_law_0, h1, m1, h2]⟩
    have g0 : GoodG sz ((digs sz.length).map fun k => R k.toNat) := ⟨gs, by simp [digs_len], fun row h => by
      obtain ⟨k, _, rfl⟩ := List.mem_map.mp h
      obtain ⟨v, _, _, h3⟩ := hR k.toNat
      exact h3⟩
    generalize (digs sz.length).map (fun k => R k.toNat) = rows0 at lcR g0
    have rl0 := g0.n
    have en0 : endLc (.ok (rows0.map lstI)) = .ok (.lst (rows0.map lstI)) := endLc_map (by omega)
    refine go (e := [some (.scr (dI ns)), some (lstI sz), some (.int (prod sz)), some (.lst (dP (allP sz))), some (lstI nums), some (.int over), some (.lst (rows0.map lstI)), none, none, none, none, none, none, none, none, none, none, none, none, none]) (by simp [rng1_ok (show sz.length ≤ 1000 by omega), rngD0, lcR, en0]) ?_
    -- one row put for the last
    obtain ⟨rows, g, hif⟩ : ∃ rows, GoodG sz rows ∧ sIf (tVal (d2 cLt (d2 oIx (dv 4) (dc (.int 1))) (dc (.int 1200)))) (bSeq (sPut 6 (d2 oSub (dcall bLen (dcons (dv 1) dnil)) (dc (.int 1))) (dcall bLst (dcons (oIxO 6 (dc (.int 0))) dnil))) sNx) sNx [some (.scr (dI ns)), some (lstI sz), some (.int (prod sz)), some (.lst (dP (allP sz))), some (lstI nums), some (.int over), some (.lst (rows0.map lstI)), none, none, none, none, none, none, none, none, none, none, none, none, none] = .nx [some (.scr (dI ns)), some (lstI sz), some (.int (prod sz)), some (.lst (dP (allP sz))), some (lstI nums), some (.int over), some (.lst (rows.map lstI)), none, none, none, none, none, none, none, none, none, none, none, none, none] := by
      by_cases q : n1 < 1200
      · have i0 : oIx (.lst (rows0.map lstI)) (.int 0) = .ok (lstI (nthA rows0 0)) := oIx_mNl (n := 0) (by omega)
        have ho : oIxO 6 (dc (.int 0)) [some (.scr (dI ns)), some (lstI sz), some (.int (prod sz)), some (.lst (dP (allP sz))), some (lstI nums), some (.int over), some (.lst (rows0.map lstI)), none, none, none, none, none, none, none, none, none, none, none, none, none] = .ok (lstI (nthA rows0 0)) := by
          rw [oIxO_ok (xs := rows0.map lstI) rfl]
          simp [i0]
        obtain ⟨rows1, g1, hp⟩ := put_row g0 (di := d2 oSub (dcall bLen (dcons (dv 1) dnil)) (dc (.int 1))) (de := dcall bLst (dcons (oIxO 6 (dc (.int 0))) dnil)) (a0 := some (.scr (dI ns))) (a1 := some (lstI sz)) (a2 := some (.int (prod sz))) (a3 := some (.lst (dP (allP sz)))) (a4 := some (lstI nums)) (a5 := some (.int over)) (r := [none, none, none, none, none, none, none, none, none, none, none, none, none]) (by simp) (by simp [ho])
        exact ⟨rows1, g1, by simp [x1, q, hp]⟩
      · exact ⟨rows0, g0, by simp [x1, q]⟩
    refine go hif ?_
    have rl := g.n
    -- the game
    have lcG : lcGo (tgN 9) dYes (dcall bLst (dcons (dv 9) dnil)) [some (.scr (dI ns)), some (lstI sz), some (.int (prod sz)), some (.lst (dP (allP sz))), some (lstI nums), some (.int over), some (.lst (rows.map lstI)), none, none, none, none, none, none, none, none, none, none, none, none, none] (rows.map lstI) = .ok (rows.map lstI) := lc_map (dd := lstI) (g := lstI) fun row h => ⟨_, rfl, by simp⟩
    have en : endLc (.ok (rows.map lstI)) = .ok (.lst (rows.map lstI)) := endLc_map (by omega)
    have hG := game_init g o1 (by omega)
    have hG2 : (D.ins "Game" [("sizes", tupI sz), ("pays", .tup ((rows.map (divR (fgs over rows))).map tupI)), ("over", .int (over / fgs over rows))]) = mkGame sz (rows.map (divR (fgs over rows))) (over / fgs over rows) := rfl
    refine go (e := [some (.scr (dI ns)), some (lstI sz), some (.int (prod sz)), some (.lst (dP (allP sz))), some (lstI nums), some (.int over), some (.lst (rows.map lstI)), none, some (mkGame sz (rows.map (divR (fgs over rows))) (over / fgs over rows)), none, none, none, none, none, none, none, none, none, none, none]) (by simp only [← hG2]; simp [lcG, en, hG]) ?_
    refine go (e := [some (.scr (dI ns)), some (lstI sz), some (.int (prod sz)), some (.lst (dP (allP sz))), some (lstI nums), some (.int over), some (.lst (rows.map lstI)), none, some (mkGame sz (rows.map (divR (fgs over rows))) (over / fgs over rows)), none, some (.int over), none, none, none, none, none, none, none, none, none]) (by simp) ?_
    have fr := fgs_range rows over o1
    obtain ⟨u9, u11, hc⟩ := common_ok (some (.scr (dI ns))) (some (lstI sz)) (some (.int (prod sz))) (some (.lst (dP (allP sz)))) (some (lstI nums)) (some (.int over)) (some (.lst (rows.map lstI))) none (some (mkGame sz (rows.map (divR (fgs over rows))) (over / fgs over rows))) none none none none none none none none o1 (by omega) rows none none
    refine go (e := [some (.scr (dI ns)), some (lstI sz), some (.int (prod sz)), some (.lst (dP (allP sz))), some (lstI nums), some (.int over), some (.lst (rows.map lstI)), none, some (mkGame sz (rows.map (divR (fgs over rows))) (over / fgs over rows)), u9, some (.int (fgs over rows)), u11, none, none, none, none, none, none, none, none]) (by simp [hc]) ?_
    have hdr := div_rows (some (.scr (dI ns))) (some (lstI sz)) (some (.int (prod sz))) (some (.lst (dP (allP sz)))) (some (lstI nums)) (some (.int over)) (some (.lst (rows.map lstI))) none (some (mkGame sz (rows.map (divR (fgs over rows))) (over / fgs over rows))) none none none none none none none none fr.1 (by omega) rows (fun row h => g.most h) u11
    have edr : endLc (.ok (rows.map fun row => lstI (divR (fgs over rows) row))) = .ok (.lst ((rows.map (divR (fgs over rows))).map lstI)) := by
      rw [List.map_map]
      exact endLc_map (by omega)
    have gd := g.div (fgs over rows)
    have od1 : 1 ≤ over / fgs over rows := (Int.le_ediv_iff_mul_le (by omega)).mpr (by omega)
    have od2 : over / fgs over rows ≤ 1000000 := by
      have := Int.ediv_le_self (fgs over rows) (show 0 ≤ over by omega)
      omega
    refine go (e := [some (.scr (dI ns)), some (lstI sz), some (.int (prod sz)), some (.lst (dP (allP sz))), some (lstI nums), some (.int over), some (.lst ((rows.map (divR (fgs over rows))).map lstI)), none, some (mkGame sz (rows.map (divR (fgs over rows))) (over / fgs over rows)), u9, some (.int (fgs over rows)), u11, none, none, none, none, none, none, none, none]) (by simp only [sSet_ev, dLc_ev, iSeq_ev, dv_ev]; simp [hdr]; rw [edr]; simp) ?_
    generalize rows.map (divR (fgs over rows)) = rws at gd
    generalize over / fgs over rows = ov at od1 od2
    generalize some (D.int (fgs over rows)) = u10
    -- the plays asked
    refine go (e := [some (.scr (dI ns)), some (lstI sz), some (.int (prod sz)), some (.lst (dP (allP sz))), some (lstI nums), some (.int over), some (.lst (rws.map lstI)), none, some (mkGame sz rws ov), u9, u10, u11, some (.lst (dP (allP sz))), none, none, none, none, none, none, none]) (by simp) ?_
    obtain ⟨asked, ha, ha1, hask⟩ : ∃ asked : List (List Int), (∀ p ∈ asked, okP sz p) ∧ 0 < asked.length ∧ sIf (tVal (d2 cGt (dv 2) (dc (.int 12)))) (bSeq (sSet 12 (dLc (([("k", 7)] : List (Str × Nat)).map (·.2)) (iArg rng1D (dcons (dc (.int 12)) dnil)) (tgN 7) dYes b_law_4)) sNx) sNx [some (.scr (dI ns)), some (lstI sz), some (.int (prod sz)), some (.lst (dP (allP sz))), some (lstI nums), some (.int over), some (.lst (rws.map lstI)), none, some (mkGame sz rws ov), u9, u10, u11, some (.lst (dP (allP sz))), none, none, none, none, none, none, none] = .nx [some (.scr (dI ns)), some (lstI sz), some (.int (prod sz)), some (.lst (dP (allP sz))), some (lstI nums), some (.int over), some (.lst (rws.map lstI)), none, some (mkGame sz rws ov), u9, u10, u11, some (.lst (dP asked)), none, none, none, none, none, none, none] := by
      by_cases q : 12 < prod sz
      · obtain ⟨asked, ha, ha1, hl⟩ := ask_in gs hlen (some (.scr (dI ns))) (some (lstI sz)) (some (.int over)) (some (.lst (rws.map lstI))) (some (mkGame sz rws ov)) u9 u10 u11 (some (.lst (dP (allP sz)))) none none none none none none none
        have r12 : rng1D [.int 12] = .ok (rngD 0 12) := rng1_ok (n := 12) (by omega)
        have e12 : endLc (.ok (dP asked)) = .ok (.lst (dP asked)) := endLc_map (by omega)
        exact ⟨asked, ha, by omega, by simp [q, r12, rngD0, hl, e12]⟩
      · exact ⟨allP sz, hok, by omega, by simp [q]⟩
    refine go hask ?_
    obtain ⟨u13, hat⟩ := at_loop gd ov asked ha (some (.scr (dI ns))) (some (.int (prod sz))) (some (.lst (dP (allP sz)))) (some (lstI nums)) (some (.int over)) none u9 u10 u11 (some (.lst (dP asked))) none none none none none none none
    refine go (e := [some (.scr (dI ns)), some (lstI sz), some (.int (prod sz)), some (.lst (dP (allP sz))), some (lstI nums), some (.int over), some (.lst (rws.map lstI)), none, some (mkGame sz rws ov), u9, u10, u11, some (.lst (dP asked)), u13, none, none, none, none, none, none]) (by simp [hat]) ?_
    refine go (e := [some (.scr (dI ns)), some (lstI sz), some (.int (prod sz)), some (.lst (dP (allP sz))), some (lstI nums), some (.int over), some (.lst (rws.map lstI)), none, some (mkGame sz rws ov), u9, u10, u11, some (.lst (dP asked)), u13, some (.lst []), none, none, none, none, none]) (by simp) ?_
    obtain ⟨w13, hdue⟩ := due_loop gd (some (.scr (dI ns))) (some (.int (prod sz))) (some (.lst (dP (allP sz)))) (some (lstI nums)) (some (.int over)) none (some (mkGame sz rws ov)) u9 u10 u11 (some (.lst (dP asked))) u13 none none none none none
    refine go (e := [some (.scr (dI ns)), some (lstI sz), some (.int (prod sz)), some (.lst (dP (allP sz))), some (lstI nums), some (.int over), some (.lst (rws.map lstI)), none, some (mkGame sz rws ov), u9, u10, u11, some (.lst (dP asked)), w13, some (.lst (dP (restL sz rws))), none, none, none, none, none]) (by simp [hdue]) ?_
    have hrests := rests_ok gd ov
    have rsl : (restL sz rws).length ≤ 120 := by
      have := List.length_filter_le (fun p => (pairs sz rws p "better").isEmpty) (allP sz)
      show ((allP sz).filter fun p => (pairs sz rws p "better").isEmpty).length ≤ 120
      omega
    have hisl : f__law_is_list [.lst (dP (restL sz rws)), .lst (dP (restL sz rws))] = .ok (.bl true) := islist_ok _ (by omega) fun p hp => by
      have h1 := okP_len (hok p (List.mem_filter.mp hp).1)
      omega
    refine go (e := [some (.scr (dI ns)), some (lstI sz), some (.int (prod sz)), some (.lst (dP (allP sz))), some (lstI nums), some (.int over), some (.lst (rws.map lstI)), none, some (mkGame sz rws ov), u9, u10, u11, some (.lst (dP asked)), w13, some (.lst (dP (restL sz rws))), some (.lst (dP (restL sz rws))), none, none, none, none]) (by simp [hrests]) ?_
    refine go (e := [some (.scr (dI ns)), some (lstI sz), some (.int (prod sz)), some (.lst (dP (allP sz))), some (lstI nums), some (.int over), some (.lst (rws.map lstI)), none, some (mkGame sz rws ov), u9, u10, u11, some (.lst (dP asked)), w13, some (.lst (dP (restL sz rws))), some (.lst (dP (restL sz rws))), none, none, none, none]) (by
      have fl : dflat (dflat (dcall (withD 2 [] f__law_is_list) (dcons (dv 15) (dcons (dv 14) dnil)))) [some (.scr (dI ns)), some (lstI sz), some (.int (prod sz)), some (.lst (dP (allP sz))), some (lstI nums), some (.int over), some (.lst (rws.map lstI)), none, some (mkGame sz rws ov), u9, u10, u11, some (.lst (dP asked)), w13, some (.lst (dP (restL sz rws))), some (.lst (dP (restL sz rws))), none, none, none, none] = .ok (.bl true) := dflat_ok (dflat_ok (by simp [hisl]) rfl) rfl
      simp [fl]) ?_
    refine go (e := [some (.scr (dI ns)), some (lstI sz), some (.int (prod sz)), some (.lst (dP (allP sz))), some (lstI nums), some (.int over), some (.lst (rws.map lstI)), none, some (mkGame sz rws ov), u9, u10, u11, some (.lst (dP asked)), w13, some (.lst (dP (restL sz rws))), some (.lst (dP (restL sz rws) ++ [.tup [.int 0]])), none, none, none, none]) (by
      have : (restL sz rws).length < 16777216 := by omega
      simp [this]) ?_
    generalize some (D.lst (dP (restL sz rws) ++ [.tup [.int 0]])) = u15
    refine go (e := [some (.scr (dI ns)), some (lstI sz), some (.int (prod sz)), some (.lst (dP (allP sz))), some (lstI nums), some (.int over), some (.lst (rws.map lstI)), none, some (mkGame sz rws ov), u9, u10, u11, some (.lst (dP asked)), w13, some (.lst (dP (restL sz rws))), u15, none, none, none, none]) (by
      have fl : dflat (dcall (withD 2 [] f__law_is_list) (dcons (dcall (withD 1 [] f_rests) (dcons (dv 8) dnil)) (dcons (dv 14) dnil))) [some (.scr (dI ns)), some (lstI sz), some (.int (prod sz)), some (.lst (dP (allP sz))), some (lstI nums), some (.int over), some (.lst (rws.map lstI)), none, some (mkGame sz rws ov), u9, u10, u11, some (.lst (dP asked)), w13, some (.lst (dP (restL sz rws))), u15, none, none, none, none] = .ok (.bl true) := dflat_ok (by simp [hrests, hisl]) rfl
      simp [fl]) ?_
    -- the play of the refusals
    have hm1 := Int.emod_nonneg n15 (show (asked.length : Int) ≠ 0 by omega)
    have hm2 := Int.emod_lt_of_pos n15 (show 0 < (asked.length : Int) by omega)
    have im : oMod (.int n15) (.int (asked.length : Int)) = .ok (.int (n15 % (asked.length : Int))) := oMod_p (by omega)
    have ia : oIx (.lst (dP asked)) (.int (n15 % (asked.length : Int))) = .ok (tupI (nthA asked (n15 % (asked.length : Int)).toNat)) := oIx_lstM hm1 (by omega)
    have okp : okP sz (nthA asked (n15 % (asked.length : Int)).toNat) := ha _ (nthA_mem (by omega))
    generalize nthA asked (n15 % (asked.length : Int)).toNat = p at ia okp
    refine go (e := [some (.scr (dI ns)), some (lstI sz), some (.int (prod sz)), some (.lst (dP (allP sz))), some (lstI nums), some (.int over), some (.lst (rws.map lstI)), none, some (mkGame sz rws ov), u9, u10, u11, some (.lst (dP asked)), some (tupI p), some (.lst (dP (restL sz rws))), u15, none, none, none, none]) (by simp [x15, im, ia]) ?_
    obtain ⟨q, hbad, hno⟩ := bad_ok gs okp y16
    refine go (e := [some (.scr (dI ns)), some (lstI sz), some (.int (prod sz)), some (.lst (dP (allP sz))), some (lstI nums), some (.int over), some (.lst (rws.map lstI)), none, some (mkGame sz rws ov), u9, u10, u11, some (.lst (dP asked)), some (tupI p), some (.lst (dP (restL sz rws))), u15, some (tupI q), none, none, none]) (by simp [x16, hbad]) ?_
    refine go (e := [some (.scr (dI ns)), some (lstI sz), some (.int (prod sz)), some (.lst (dP (allP sz))), some (lstI nums), some (.int over), some (.lst (rws.map lstI)), none, some (mkGame sz rws ov), u9, u10, u11, some (.lst (dP asked)), some (tupI p), some (.lst (dP (restL sz rws))), u15, some (tupI q), some (.int (sz.length : Int)), none, none]) (by simp) ?_
    have is0 : oIx (lstI sz) (.int 0) = .ok (.int (nth sz 0)) := oIx_dNl (n := 0) (by omega)
    refine go (e := [some (.scr (dI ns)), some (lstI sz), some (.int (prod sz)), some (.lst (dP (allP sz))), some (lstI nums), some (.int over), some (.lst (rws.map lstI)), none, some (mkGame sz rws ov), u9, u10, u11, some (.lst (dP asked)), some (tupI p), some (.lst (dP (restL sz rws))), u15, some (tupI q), some (.int (sz.length : Int)), some (.int (nth sz 0)), none]) (by simp [is0]) ?_
    obtain ⟨a, c, hna, hnc, hif2⟩ : ∃ a c : Int, ¬ (0 ≤ a ∧ a < sz.length) ∧ ¬ (0 ≤ c ∧ c < nth sz 0) ∧ sIf (tVal (d2 cEq (d2 oMod (dcall bInt (dcons (d2 oIx (dv 4) (dc (.int 17))) dnil)) (dc (.int 2))) (dc (.int 1)))) (bSeq (sSet 17 (d1 oNeg (dc (.int 1)))) (bSeq (sSet 18 (d1 oNeg (dc (.int 1)))) sNx)) sNx [some (.scr (dI ns)), some (lstI sz), some (.int (prod sz)), some (.lst (dP (allP sz))), some (lstI nums), some (.int over), some (.lst (rws.map lstI)), none, some (mkGame sz rws ov), u9, u10, u11, some (.lst (dP asked)), some (tupI p), some (.lst (dP (restL sz rws))), u15, some (tupI q), some (.int (sz.length : Int)), some (.int (nth sz 0)), none] = .nx [some (.scr (dI ns)), some (lstI sz), some (.int (prod sz)), some (.lst (dP (allP sz))), some (lstI nums), some (.int over), some (.lst (rws.map lstI)), none, some (mkGame sz rws ov), u9, u10, u11, some (.lst (dP asked)), some (tupI p), some (.lst (dP (restL sz rws))), u15, some (tupI q), some (.int a), some (.int c), none] := by
      by_cases z : n17 % 2 = 1
      · exact ⟨-1, -1, by omega, by omega, by simp [x17, oMod_p, z]⟩
      · exact ⟨sz.length, nth sz 0, by omega, by omega, by simp [x17, oMod_p, z]⟩
    refine go hif2 ?_
    obtain ⟨u19, href⟩ := ref_loop gd ov od1 od2 okp hno hna hnc (some (.scr (dI ns))) (some (lstI sz)) (some (.int (prod sz))) (some (.lst (dP (allP sz)))) (some (lstI nums)) (some (.int over)) (some (.lst (rws.map lstI))) none u9 u10 u11 (some (.lst (dP asked))) (some (.lst (dP (restL sz rws)))) u15 none
    have r11 : rng1D [.int 11] = .ok (rngD 0 11) := rng1_ok (n := 11) (by omega)
    refine go (e := [some (.scr (dI ns)), some (lstI sz), some (.int (prod sz)), some (.lst (dP (allP sz))), some (lstI nums), some (.int over), some (.lst (rws.map lstI)), none, some (mkGame sz rws ov), u9, u10, u11, some (.lst (dP asked)), some (tupI p), some (.lst (dP (restL sz rws))), u15, some (tupI q), some (.int a), some (.int c), u19]) (by simp [r11, href]) ?_
    have hlast := at_play gd ov okp
    have fl : dflat (dcall (withD 4 [] f__law_at_play) (dcons (dv 8) (dcons (dv 1) (dcons (dv 6) (dcons (dv 13) dnil))))) [some (.scr (dI ns)), some (lstI sz), some (.int (prod sz)), some (.lst (dP (allP sz))), some (lstI nums), some (.int over), some (.lst (rws.map lstI)), none, some (mkGame sz rws ov), u9, u10, u11, some (.lst (dP asked)), some (tupI p), some (.lst (dP (restL sz rws))), u15, some (tupI q), some (.int a), some (.int c), u19] = .ok (.bl true) := dflat_ok (by simp [hlast]) rfl
    simp [fl]
  simp only [f_law, runD_eq, startE]
  have e0 : (List.map some [D.scr (List.map D.int ns)] ++ List.replicate (20 - [D.scr (List.map D.int ns)].length) none) = [some (.scr (dI ns)), none, none, none, none, none, none, none, none, none, none, none, none, none, none, none, none, none, none, none] := rfl
  rw [e0, fin]
  simp
end K88
set_option Elab.async false
set_option linter.all false
set_option maxRecDepth 100000
set_option maxHeartbeats 0
/-! Printed by head.py: the head, the last theorem. -/
namespace K88
open PySem PySem.Spec PyProof.Rows L2 Fz
def nm0 : List PySem.Str := ["_wall", "Fault", "BadGame", "BadPlay", "TooMany", "MOST_PEOPLE", "MOST_CHOICES", "MOST_PLAYS", "count_plays", "check_sizes", "strides", "is_play", "is_change", "place", "play_at", "gain", "arcs", "moves", "slack", "rests", "divisor", "Table", "Game", "_law_is_whole"]
def nm1 : List PySem.Str := ["_law_cell", "_law_mix", "_law_row", "_law_sizes", "_law_count", "_law_plays", "_law_pays", "_law_gcd", "_law_place", "_law_gain", "_law_moves", "_law_is_list", "_law_at_play", "_law_refuses", "_law_bad_play"]
def nms : List PySem.Str := nm0 ++ nm1
abbrev R : PySem.W.OpenRow := PySem.W.OpenLaw.row PySem.Challenge.rw_slipsgrowrare_k88_rules_gains_and_rests
abbrev hk : PySem.W.Hook := hookZ 6 fa fn fb
def ob (s : PySem.W.SharedT) : AlZ := obsZ 6 fa fn fb (HandSHeadRun.getT s)
theorem ob_eq (s : PySem.W.SharedT) : ob s = hk.obs s.abs := obsZ_eq (HandSHeadRun.getT_eq s)
theorem run (w : World) : HandSHeadRun.RunEqI R (PySem.W.view R.prog [0, 47]) hk ob 20000 nms w := by
  unfold HandSHeadRun.RunEqI
  kernel_rfl
end K88
open PySem PySem.W PySem.Calls PyProof.Rows in
theorem PySem.Challenge.cw_slipsgrowrare_k88_rules_gains_and_rests_holds : PySem.Challenge.rw_slipsgrowrare_k88_rules_gains_and_rests.Holds := by
  w_on; o_law
  refine HandSHeadRun.head_imp (r := OpenLaw.row PySem.Challenge.rw_slipsgrowrare_k88_rules_gains_and_rests) (q := view (OpenLaw.row PySem.Challenge.rw_slipsgrowrare_k88_rules_gains_and_rests).prog [0, 47]) (H := K88.hk) (ob := K88.ob) (M := 20000) (loose := K88.nms) (d := HandSHeadRun.topDef (OpenLaw.row PySem.Challenge.rw_slipsgrowrare_k88_rules_gains_and_rests).prog 47) (kwd := []) K88.ob_eq
    K88.run (by kernel_rfl) (by kernel_rfl) (by kernel_rfl) (by rfl) (by first | assumption | decide +kernel) (by decide +kernel) ⟨rfl, rfl, rfl, rfl, rfl, by decide +kernel⟩ ?hw ?hc
  case hw => w_witness2
  case hc =>
    refine L2.walk_ofE (l := PySem.Challenge.rw_slipsgrowrare_k88_rules_gains_and_rests) (n := 63) (k := 7) (x := "script") (CX := L2.CX0) rfl (by decide) (by kernel_rfl) ⟨rfl, by decide, by decide⟩ ?F (fun _ _ _ _ z => z)
    intro w mg f h Y G hmg0
    obtain ⟨K, KX, c, cx⟩ := Y
    have hmg : mg ("law" : PySem.Str) = some (.ref f) := by
      have e : (HandSHeadRun.topDef (OpenLaw.row PySem.Challenge.rw_slipsgrowrare_k88_rules_gains_and_rests).prog 47).name = ("law" : PySem.Str) := by kernel_rfl
      rw [← e]
      exact hmg0
    have C : Fz.Ctx K88.fa K88.fn K88.fb K mg := ⟨⟨h, KX, G⟩, c, cx⟩
    obtain ⟨fd, F⟩ := C.c.def_ 35 (d := K88.d_law) rfl
    have e := hmg.symm.trans (C.glo 70)
    cases e
    have b := L2.FunD.bindsA (ps := ["script"]) F fun _ _ _ _ _ _ us hl => match us, hl with | [_], _ => rfl
    exact ⟨K, fd, fun vs H Q _ => Fz.spD K 1 K88.f_law .z vs H Q fun _ _ _ => False, KX, fun s u => b s [u] rfl, fun H a ns hl _ hS => Fz.law_sp hS (K88.law_true ns hl), fun base _ _ => Fz.FnOk.toCX0 (K88.body_law C F)⟩
