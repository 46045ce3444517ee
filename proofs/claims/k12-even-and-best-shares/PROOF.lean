import PyProof.Rows.All
import Wide.All
import OpenK.AllK
import Wide.FinOn
import HandS.ForMost
import HandS.ForExc
import HandS.Wide
import HandS.Gcd
import HandS.Zip
import HandS.Rev
import HandS.IsInst
import HandS.TryMany
import HandS.ExcIs
import HandS.Defaults
import HandS.HeadHook1
import HandS.TupAny
import HandS.TupMul
import PyProof.WalksMore
import HandS.CallSlots
import KE.GoesNew
import KE.GoesMore
import HandS.TupSets
import HandS.SortInts
import HandS.Head0
import HandS.Head1
import HandS.Head2
import HandS.HeadEnd
import HandS.HeadHook2
import PyProof.ExcBaseAll.ValueError
import HandS.ClsMeth
import HandS.Head3
import HandS.HeadNt
import PySem.Challenge.RW_slipsgrowrare_k12_even_and_best_shares_o
set_option Elab.async false
set_option linter.all false
set_option maxRecDepth 100000
set_option maxHeartbeats 4000000
/-! Functionalization: data trees, how the abstract heap bears them, readings over them. -/
namespace Fz
open PySem PySem.Spec PyProof.Rows L2
abbrev Fr := PySem.W.Frag

/-- a value as a tree of data -/
inductive D where
  | non | bl (b : Bool) | int (i : Int) | str (x : Str)
  | lst (ds : List D) | scr (ds : List D) | tup (ds : List D)
  | ins (c : Str) (fs : List (Str × D))
  | exn (c : Str) (fs : List (Str × D))
instance : Inhabited D := ⟨.non⟩

/-! ### extension of abstract heaps -/
def Ex (H H' : Hp) : Prop := ∀ a o, H a = some o → H' a = some o
theorem Ex.rfl' (H : Hp) : Ex H H := fun _ _ h => h
theorem Ex.tr {H H1 H2 : Hp} (a : Ex H H1) (b : Ex H1 H2) : Ex H H2 := fun x o h => b x o (a x o h)
theorem Ex.new {H : Hp} {p : Addr} {o : HO} (h : H p = none) : Ex H (upd H p o) := fun a u e => by
  rw [upd_ne (ne_of_none e h)]
  exact e
theorem Ex.rd {H H' : Hp} {a : Addr} {u : HO} (e : Ex H H') (h : Rd H a u) : Rd H' a u := by
  rcases h with h | ⟨o, h⟩
  · exact Or.inl (e a _ h)
  · exact Or.inr ⟨o, e a _ h⟩
theorem Ex.sl {K : Fr} {H H' : Hp} {a : Addr} {xs : List V} (e : Ex H H') (h : SqL K H a xs) : SqL K H' a xs := h.imp (fun h => e.rd h) id
theorem Ex.st {K : Fr} {H H' : Hp} {a : Addr} {xs : List V} (e : Ex H H') (h : SqT K H a xs) : SqT K H' a xs := h.imp (fun h => e.rd h) id
theorem Ex.back {H H' : Hp} {a : Addr} (e : Ex H H') (h : H' a = none) : H a = none := by
  cases q : H a with
  | none => rfl
  | some o => rw [e a o q] at h; cases h
theorem Ex.live {H H' : Hp} {a : Addr} (e : Ex H H') (h : H a ≠ none) : H' a ≠ none := fun z => h (e.back z)

/-! ### how a heap bears a tree -/
mutual
inductive Rep (K : Fr) (B : Hp) : V → D → Prop
  | non : Rep K B .non .non
  | bl (b : Bool) : Rep K B (.bl b) (.bl b)
  | int (i : Int) : Rep K B (.int i) (.int i)
  | str (x : Str) : Rep K B (.str x) (.str x)
  | lst {a : Addr} {vs : List V} {ds : List D} : B a = some (.lst vs) → Reps K B vs ds → Rep K B (.ref a) (.lst ds)
  | scr {a : Addr} {vs : List V} {ds : List D} : SqL K B a vs → Reps K B vs ds → Rep K B (.ref a) (.scr ds)
  | tup {a : Addr} {vs : List V} {ds : List D} : SqT K B a vs → Reps K B vs ds → Rep K B (.ref a) (.tup ds)
  | ins {a dx : Addr} {c : Str} {fvs : List (Str × V)} {fs : List (Str × D)} : B a = some (.ins (He.ga K c) dx fvs) → RepF K B fvs fs → Rep K B (.ref a) (.ins c fs)
  | exn {a : Addr} {c : Str} {fs : List (Str × D)} : Rep K B (.ref a) (.exn c fs)
inductive Reps (K : Fr) (B : Hp) : List V → List D → Prop
  | nil : Reps K B [] []
  | cons {v : V} {d : D} {vs : List V} {ds : List D} : Rep K B v d → Reps K B vs ds → Reps K B (v :: vs) (d :: ds)
inductive RepF (K : Fr) (B : Hp) : List (Str × V) → List (Str × D) → Prop
  | nil : RepF K B [] []
  | cons {f : Str} {v : V} {d : D} {vs : List (Str × V)} {ds : List (Str × D)} : Rep K B v d → RepF K B vs ds → RepF K B ((f, v) :: vs) ((f, d) :: ds)
end
mutual
theorem Rep.mono {K : Fr} {B B' : Hp} (e : Ex B B') : ∀ {v : V} {d : D}, Rep K B v d → Rep K B' v d
  | _, _, .non => .non
  | _, _, .bl b => .bl b
  | _, _, .int i => .int i
  | _, _, .str x => .str x
  | _, _, .lst h r => .lst (e _ _ h) (Reps.mono e r)
  | _, _, .scr h r => .scr (e.sl h) (Reps.mono e r)
  | _, _, .tup h r => .tup (e.st h) (Reps.mono e r)
  | _, _, .ins h r => .ins (e _ _ h) (RepF.mono e r)
  | _, _, .exn => .exn
theorem Reps.mono {K : Fr} {B B' : Hp} (e : Ex B B') : ∀ {vs : List V} {ds : List D}, Reps K B vs ds → Reps K B' vs ds
  | _, _, .nil => .nil
  | _, _, .cons h r => .cons (Rep.mono e h) (Reps.mono e r)
theorem RepF.mono {K : Fr} {B B' : Hp} (e : Ex B B') : ∀ {vs : List (Str × V)} {ds : List (Str × D)}, RepF K B vs ds → RepF K B' vs ds
  | _, _, .nil => .nil
  | _, _, .cons h r => .cons (Rep.mono e h) (RepF.mono e r)
end
section
variable {K : Fr} {B : Hp}
theorem Reps.length : ∀ {vs : List V} {ds : List D}, Reps K B vs ds → vs.length = ds.length
  | _, _, .nil => rfl
  | _, _, .cons _ r => congrArg (· + 1) r.length
theorem Reps.get : ∀ {vs : List V} {ds : List D} {i : Nat} {d : D}, Reps K B vs ds → ds[i]? = some d → ∃ v, vs[i]? = some v ∧ Rep K B v d
  | _, _, _, _, .nil, e => by simp at e
  | _, _, 0, _, .cons r _, e => by simp at e; subst e; exact ⟨_, rfl, r⟩
  | _, _, i + 1, d, .cons _ t, e => by
    obtain ⟨u, h1, h2⟩ := Reps.get (i := i) (d := d) t (by simpa using e)
    exact ⟨u, by simpa using h1, h2⟩
theorem Reps.get' : ∀ {vs : List V} {ds : List D} {i : Nat} {v : V}, Reps K B vs ds → vs[i]? = some v → ∃ d, ds[i]? = some d ∧ Rep K B v d
  | _, _, _, _, .nil, e => by simp at e
  | _, _, 0, _, .cons r _, e => by simp at e; subst e; exact ⟨_, rfl, r⟩
  | _, _, i + 1, d, .cons _ t, e => by
    obtain ⟨u, h1, h2⟩ := Reps.get' (i := i) (v := d) t (by simpa using e)
    exact ⟨u, by simpa using h1, h2⟩
theorem Reps.append : ∀ {xs ys : List V} {ds es : List D}, Reps K B xs ds → Reps K B ys es → Reps K B (xs ++ ys) (ds ++ es)
  | _, _, _, _, .nil, s => s
  | _, _, _, _, .cons r t, s => .cons r (Reps.append t s)
theorem Reps.take : ∀ {xs : List V} {ds : List D} (n : Nat), Reps K B xs ds → Reps K B (xs.take n) (ds.take n)
  | _, _, 0, _ => .nil
  | _, _, _ + 1, .nil => .nil
  | _, _, n + 1, .cons r t => .cons r (Reps.take n t)
theorem Reps.drop : ∀ {xs : List V} {ds : List D} (n : Nat), Reps K B xs ds → Reps K B (xs.drop n) (ds.drop n)
  | _, _, 0, r => r
  | _, _, _ + 1, .nil => .nil
  | _, _, n + 1, .cons _ t => Reps.drop n t
theorem Reps.snoc {xs : List V} {ds : List D} {v : V} {d : D} (r : Reps K B xs ds) (h : Rep K B v d) : Reps K B (xs ++ [v]) (ds ++ [d]) := r.append (.cons h .nil)
theorem Reps.reverse : ∀ {xs : List V} {ds : List D}, Reps K B xs ds → Reps K B xs.reverse ds.reverse
  | _, _, .nil => .nil
  | _, _, .cons r t => by
    rw [List.reverse_cons, List.reverse_cons]
    exact (Reps.reverse t).snoc r
theorem Reps.set : ∀ {xs : List V} {ds : List D} {v : V} {d : D} (i : Nat), Reps K B xs ds → Rep K B v d → Reps K B (xs.set i v) (ds.set i d)
  | _, _, _, _, _, .nil, _ => .nil
  | _, _, _, _, 0, .cons _ t, h => .cons h t
  | _, _, _, _, i + 1, .cons r t, h => .cons r (Reps.set i t h)
theorem Reps.rep {v : V} {d : D} (h : Rep K B v d) : ∀ n : Nat, Reps K B (List.replicate n v) (List.replicate n d)
  | 0 => .nil
  | n + 1 => .cons h (Reps.rep h n)
theorem Reps.ints : ∀ {ns : List Int}, Reps K B (ns.map V.int) (ns.map D.int)
  | [] => .nil
  | n :: r => .cons (.int n) (Reps.ints (ns := r))
theorem Reps.ints' : ∀ {vs : List V} {ns : List Int}, Reps K B vs (ns.map D.int) → vs = ns.map V.int
  | _, [], .nil => rfl
  | _, n :: r, .cons h t => by
    cases h
    rw [Reps.ints' t] <;> rfl
theorem RepF.lookup : ∀ {vs : List (Str × V)} {ds : List (Str × D)} {f : Str} {d : D}, RepF K B vs ds → ds.lookup f = some d → ∃ v, vs.lookup f = some v ∧ Rep K B v d
  | _, _, _, _, .nil, e => by simp at e
  | _, _, f, d, .cons (f := g) (v := v) (d := d') r t, e => by
    unfold List.lookup at e ⊢
    cases q : f == g with
    | true =>
      rw [q] at e
      injection e with e
      subst e
      exact ⟨_, rfl, r⟩
    | false =>
      rw [q] at e
      exact RepF.lookup t e
theorem RepF.lookup_none : ∀ {vs : List (Str × V)} {ds : List (Str × D)} {f : Str}, RepF K B vs ds → ds.lookup f = none → vs.lookup f = none
  | _, _, _, .nil, _ => rfl
  | _, _, f, .cons (f := g) r t, e => by
    unfold List.lookup at e ⊢
    cases q : f == g with
    | true => rw [q] at e; cases e
    | false =>
      rw [q] at e
      exact RepF.lookup_none t e
theorem RepF.length : ∀ {vs : List (Str × V)} {ds : List (Str × D)}, RepF K B vs ds → vs.length = ds.length
  | _, _, .nil => rfl
  | _, _, .cons _ r => congrArg (· + 1) r.length
def putD (f : Str) (v : D) : List (Str × D) → List (Str × D)
  | [] => [(f, v)]
  | (g, u) :: r => if f = g then (g, v) :: r else (g, u) :: putD f v r
end

/-! ### who owns a list -/
/-- z: it never changes again; l k: a list of one's own, its items of kind k; i: an instance of one's own; at x: the instance at x; ex a C: the exception at a that a suite holds, of the class at C -/
inductive Ow where
  | z | l (k : Ow) | i | at (x : Addr) | ex (a C : Addr)
  deriving DecidableEq
inductive ROs (R : V → D → List Addr → Prop) : List V → List D → List Addr → Prop
  | nil : ROs R [] [] []
  | cons {v : V} {d : D} {f : List Addr} {vs : List V} {ds : List D} {fs : List Addr} : R v d f → ROs R vs ds fs → ROs R (v :: vs) (d :: ds) (f ++ fs)
def RepO (K : Fr) (B H : Hp) : Ow → V → D → List Addr → Prop
  | .z => fun v d f => Rep K B v d ∧ f = []
  | .l k => fun v d f => ∃ p vs ds fs, v = .ref p ∧ d = .lst ds ∧ H p = some (.lst vs) ∧ ROs (RepO K B H k) vs ds fs ∧ f = p :: fs
  | .i => fun v d f => ∃ x dx fvs c fs, v = .ref x ∧ d = .ins c fs ∧ H x = some (.ins (He.ga K c) dx fvs) ∧ RepF K B fvs fs ∧ f = [x]
  | .at x => fun v d f => ∃ dx fvs c fs, v = .ref x ∧ d = .ins c fs ∧ H x = some (.ins (He.ga K c) dx fvs) ∧ RepF K B fvs fs ∧ f = [x]
  | .ex a C => fun v d f => v = .ref a ∧ (∃ c fs, d = .exn c fs ∧ C = He.ga K c) ∧ f = []
section
variable {K : Fr}
theorem ROs.imp {R R' : V → D → List Addr → Prop} (h : ∀ v d f, R v d f → R' v d f) : ∀ {vs : List V} {ds : List D} {fs : List Addr}, ROs R vs ds fs → ROs R' vs ds fs
  | _, _, _, .nil => .nil
  | _, _, _, .cons r t => .cons (h _ _ _ r) (t.imp h)
theorem ROs.length {R : V → D → List Addr → Prop} : ∀ {vs : List V} {ds : List D} {fs : List Addr}, ROs R vs ds fs → vs.length = ds.length
  | _, _, _, .nil => rfl
  | _, _, _, .cons _ t => congrArg (· + 1) t.length
/-- the same on heaps that agree on the footprint -/
theorem RepO.on {B B' H H' : Hp} (eb : Ex B B') : ∀ (k : Ow) {v : V} {d : D} {f : List Addr}, (∀ a ∈ f, ∀ o, H a = some o → H' a = some o) → RepO K B H k v d f → RepO K B' H' k v d f
  | .z, _, _, _, _, ⟨r, e⟩ => ⟨r.mono eb, e⟩
  | .l k, _, _, f, hk, ⟨p, vs, ds, fs, e1, e2, hp, r, ef⟩ => by
    subst ef
    refine ⟨p, vs, ds, fs, e1, e2, hk p List.mem_cons_self _ hp, ?_, rfl⟩
    have go : ∀ {vs : List V} {ds : List D} {fs : List Addr}, (∀ a ∈ fs, ∀ o, H a = some o → H' a = some o) → ROs (RepO K B H k) vs ds fs → ROs (RepO K B' H' k) vs ds fs := by
      intro vs ds fs hf r
      induction r with
      | nil => exact .nil
      | cons r t ih => exact .cons (RepO.on eb k (fun a ha => hf a (List.mem_append_left _ ha)) r) (ih fun a ha => hf a (List.mem_append_right _ ha))
    exact go (fun a ha => hk a (List.mem_cons_of_mem _ ha)) r
  | .i, _, _, f, hk, ⟨x, dx, fvs, c, fs, e1, e2, hx, r, ef⟩ => by
    subst ef
    exact ⟨x, dx, fvs, c, fs, e1, e2, hk x List.mem_cons_self _ hx, r.mono eb, rfl⟩
  | .at x, _, _, f, hk, ⟨dx, fvs, c, fs, e1, e2, hx, r, ef⟩ => by
    subst ef
    exact ⟨dx, fvs, c, fs, e1, e2, hk x List.mem_cons_self _ hx, r.mono eb, rfl⟩
  | .ex _ _, _, _, _, _, h => h
theorem RepO.mono {B B' H H' : Hp} (eb : Ex B B') (e : Ex H H') {k : Ow} {v : V} {d : D} {f : List Addr} (r : RepO K B H k v d f) : RepO K B' H' k v d f := r.on eb k fun a _ o => e a o
theorem RepO.mem {B H : Hp} : ∀ (k : Ow) {v : V} {d : D} {f : List Addr}, RepO K B H k v d f → ∀ a ∈ f, H a ≠ none
  | .z, _, _, _, ⟨_, e⟩, a, ha => by subst e; cases ha
  | .l k, _, _, _, ⟨p, vs, ds, fs, _, _, hp, r, ef⟩, a, ha => by
    subst ef
    rcases List.mem_cons.mp ha with q | q
    · rw [q, hp]; simp
    · have go : ∀ {vs : List V} {ds : List D} {fs : List Addr}, ROs (RepO K B H k) vs ds fs → a ∈ fs → H a ≠ none := by
        intro vs ds fs r
        induction r with
        | nil => intro q; cases q
        | cons r t ih =>
          intro q
          rcases List.mem_append.mp q with q | q
          · exact RepO.mem k r a q
          · exact ih q
      exact go r q
  | .i, _, _, _, ⟨x, dx, fvs, c, fs, _, _, hx, _, ef⟩, a, ha => by
    subst ef
    have q : a = x := by simpa using ha
    rw [q, hx]; simp
  | .at x, _, _, _, ⟨dx, fvs, c, fs, _, _, hx, _, ef⟩, a, ha => by
    subst ef
    have q : a = x := by simpa using ha
    rw [q, hx]; simp
  | .ex _ _, _, _, _, ⟨_, _, e⟩, a, ha => by subst e; cases ha
/-- B with what stands at fs in H -/
def addB (B H : Hp) (fs : List Addr) : Hp := fun a => if a ∈ fs then H a else B a
theorem addB_ex {B H : Hp} {fs : List Addr} (h : ∀ a ∈ fs, B a = none) : Ex B (addB B H fs) := fun a o e => by
  unfold addB
  by_cases q : a ∈ fs
  · rw [h a q] at e; cases e
  · rw [if_neg q]; exact e
theorem addB_sub {B H : Hp} {fs : List Addr} (e : Ex B H) : Ex (addB B H fs) H := fun a o q => by
  unfold addB at q
  split at q
  · exact q
  · exact e a o q
theorem addB_out {B H : Hp} {fs : List Addr} {a : Addr} (h : a ∉ fs) : addB B H fs a = B a := if_neg h
theorem addB_in {B H : Hp} {fs : List Addr} {a : Addr} (h : a ∈ fs) : addB B H fs a = H a := if_pos h
/-- what is frozen is borne by the larger base -/
theorem RepO.rep {B H G : Hp} (eb : Ex B G) : ∀ (k : Ow) {v : V} {d : D} {f : List Addr}, (∀ a ∈ f, ∀ o, H a = some o → G a = some o) → RepO K B H k v d f → Rep K G v d
  | .z, _, _, _, _, ⟨r, _⟩ => r.mono eb
  | .l k, _, _, f, hk, ⟨p, vs, ds, fs, e1, e2, hp, r, ef⟩ => by
    subst ef e1 e2
    refine .lst (hk p List.mem_cons_self _ hp) ?_
    have go : ∀ {vs : List V} {ds : List D} {fs : List Addr}, (∀ a ∈ fs, ∀ o, H a = some o → G a = some o) → ROs (RepO K B H k) vs ds fs → Reps K G vs ds := by
      intro vs ds fs hf r
      induction r with
      | nil => exact .nil
      | cons r t ih => exact .cons (RepO.rep eb k (fun a ha => hf a (List.mem_append_left _ ha)) r) (ih fun a ha => hf a (List.mem_append_right _ ha))
    exact go (fun a ha => hk a (List.mem_cons_of_mem _ ha)) r
  | .i, _, _, f, hk, ⟨x, dx, fvs, c, fs, e1, e2, hx, r, ef⟩ => by
    subst ef e1 e2
    exact .ins (hk x List.mem_cons_self _ hx) (r.mono eb)
  | .at x, _, _, f, hk, ⟨dx, fvs, c, fs, e1, e2, hx, r, ef⟩ => by
    subst ef e1 e2
    exact .ins (hk x List.mem_cons_self _ hx) (r.mono eb)
  | .ex _ _, _, _, _, _, ⟨e1, ⟨c, fs, e2, _⟩, _⟩ => by
    subst e1 e2
    exact .exn
theorem RepO.freeze {B H : Hp} {k : Ow} {v : V} {d : D} {f : List Addr} (hb : ∀ a ∈ f, B a = none) (r : RepO K B H k v d f) : Rep K (addB B H f) v d :=
  r.rep (addB_ex hb) k fun a ha o e => by rw [addB_in ha]; exact e
theorem ROs.z {B H : Hp} : ∀ {vs : List V} {ds : List D} {fs : List Addr}, ROs (RepO K B H .z) vs ds fs → Reps K B vs ds ∧ fs = []
  | _, _, _, .nil => ⟨.nil, rfl⟩
  | _, _, _, .cons r t => by
    obtain ⟨h1, h2⟩ := ROs.z t
    obtain ⟨r1, r2⟩ := r
    subst r2 h2
    exact ⟨.cons r1 h1, rfl⟩
theorem ROs.ofz {B H : Hp} : ∀ {vs : List V} {ds : List D}, Reps K B vs ds → ROs (RepO K B H .z) vs ds []
  | _, _, .nil => .nil
  | _, _, .cons r t => ROs.cons (f := []) ⟨r, rfl⟩ (ROs.ofz t)
end

/-! ### growth -/
/-- the base grows by new objects alone, the heap grows -/
structure Gr (B H B' H' : Hp) : Prop where
  b : Ex B B'
  h : Ex H H'
  s : Ex B' H'
  f : ∀ a, H a ≠ none → B' a = B a
theorem Gr.rf {B H : Hp} (s : Ex B H) : Gr B H B H := ⟨Ex.rfl' _, Ex.rfl' _, s, fun _ _ => rfl⟩
theorem Gr.tr {B H B1 H1 B2 H2 : Hp} (a : Gr B H B1 H1) (b : Gr B1 H1 B2 H2) : Gr B H B2 H2 := ⟨a.b.tr b.b, a.h.tr b.h, b.s, fun x hx => (b.f x (a.h.live hx)).trans (a.f x hx)⟩
/-- a new object, tracked, in the base -/
theorem Gr.new {B H : Hp} {p : Addr} {o : HO} (s : Ex B H) (h : H p = none) : Gr B H (upd B p o) (upd H p o) where
  b := Ex.new (s.back h)
  h := Ex.new h
  s := fun a u e => by
    by_cases q : a = p
    · subst q; rw [upd_same] at e ⊢; exact e
    · rw [upd_ne q] at e ⊢; exact s a u e
  f := fun a ha => upd_ne fun q => ha (by rw [q]; exact h)
/-- a new object, tracked, outside of the base -/
theorem Gr.out {B H : Hp} {p : Addr} {o : HO} (s : Ex B H) (h : H p = none) : Gr B H B (upd H p o) := ⟨Ex.rfl' _, Ex.new h, s.tr (Ex.new h), fun _ _ => rfl⟩
theorem Gr.add {B H B' H' : Hp} (g : Gr B H B' H') {fs : List Addr} (h1 : ∀ a ∈ fs, H a = none ∧ B' a = none) : Gr B H (addB B' H' fs) H' :=
  ⟨g.b.tr (addB_ex fun a ha => (h1 a ha).2), g.h, addB_sub g.s, fun a ha => (addB_out fun q => ha (h1 a q).1).trans (g.f a ha)⟩

/-! ### the slots -/
abbrev Env := List (Option D)
structure Rel (K : Fr) (w : List Ow) (B H : Hp) (σ : L2.St) (env : Env) (fp : Nat → List Addr) : Prop where
  s : Ex B H
  len : σ.length = env.length
  sl : ∀ i d, env[i]? = some (some d) → ∃ v, σ[i]? = some (some v) ∧ RepO K B H (w.getD i .z) v d (fp i)
  nn : ∀ i, (∀ d, env[i]? ≠ some (some d)) → fp i = []
  nd : ∀ i, (fp i).Nodup
  dj : ∀ i j, i ≠ j → ∀ a ∈ fp i, a ∉ fp j
  bn : ∀ i, ∀ a ∈ fp i, B a = none
section
variable {K : Fr} {w w' : List Ow} {B H B' H' : Hp} {σ : L2.St} {env : Env} {fp : Nat → List Addr}
theorem Rel.live (R : Rel K w B H σ env fp) (i : Nat) : ∀ a ∈ fp i, H a ≠ none := fun a ha => by
  by_cases q : ∃ d, env[i]? = some (some d)
  · obtain ⟨d, e⟩ := q
    obtain ⟨v, _, r⟩ := R.sl i d e
    exact r.mem _ a ha
  · rw [R.nn i fun d e => q ⟨d, e⟩] at ha; cases ha
theorem Rel.gr (R : Rel K w B H σ env fp) (g : Gr B H B' H') : Rel K w B' H' σ env fp where
  s := g.s
  len := R.len
  sl := fun i d e => let ⟨v, h1, h2⟩ := R.sl i d e; ⟨v, h1, h2.mono g.b g.h⟩
  nn := R.nn
  nd := R.nd
  dj := R.dj
  bn := fun i a ha => (g.f a (R.live i a ha)).trans (R.bn i a ha)
/-- slot i is given another value -/
theorem Rel.set {i : Nat} {k : Ow} {v : V} {d : D} {f : List Addr} (R : Rel K w B H σ env fp) (hi : i < env.length) (r : RepO K B H k v d f) (nd : f.Nodup) (bn : ∀ a ∈ f, B a = none) (dj : ∀ j, j ≠ i → ∀ a ∈ f, a ∉ fp j)
    (hw : ∀ j, w'.getD j .z = if j = i then k else w.getD j .z) : Rel K w' B H (σ.set i (some v)) (env.set i (some d)) (fun j => if j = i then f else fp j) where
  s := R.s
  len := by simpa using R.len
  sl := fun j e he => by
    by_cases q : j = i
    · subst q
      rw [List.getElem?_set_self hi] at he
      injection he with he
      injection he with he
      subst he
      refine ⟨v, List.getElem?_set_self (by rw [R.len]; exact hi), ?_⟩
      rw [hw, if_pos rfl]
      simpa using r
    · rw [List.getElem?_set_ne (Ne.symm q)] at he ⊢
      obtain ⟨u, h1, h2⟩ := R.sl j e he
      refine ⟨u, h1, ?_⟩
      rw [hw, if_neg q]
      simpa [q] using h2
  nn := fun j hj => by
    by_cases q : j = i
    · subst q
      exact absurd (List.getElem?_set_self hi) (hj d)
    · rw [if_neg q]
      exact R.nn j fun e he => hj e (by rw [List.getElem?_set_ne (Ne.symm q)]; exact he)
  nd := fun j => by
    by_cases q : j = i
    · rw [if_pos q]; exact nd
    · rw [if_neg q]; exact R.nd j
  dj := fun j l hjl a ha => by
    by_cases q : j = i
    · rw [if_pos q] at ha
      rw [if_neg (fun z => hjl (q.trans z.symm))]
      exact dj l (fun z => hjl (q.trans z.symm)) a ha
    · rw [if_neg q] at ha
      by_cases q2 : l = i
      · rw [if_pos q2]
        exact fun z => dj j q a z ha
      · rw [if_neg q2]
        exact R.dj j l hjl a ha
  bn := fun j a ha => by
    by_cases q : j = i
    · rw [if_pos q] at ha; exact bn a ha
    · rw [if_neg q] at ha; exact R.bn j a ha
/-- some slots are frozen -/
theorem Rel.freeze (R : Rel K w B H σ env fp) (hw : ∀ j, w'.getD j .z = w.getD j .z ∨ w'.getD j .z = .z) :
    ∃ fs fp', Rel K w' (addB B H fs) H σ env fp' ∧ (∀ a ∈ fs, ∃ i, w'.getD i .z ≠ w.getD i .z ∧ a ∈ fp i) ∧ ∀ i, ∀ a ∈ fp' i, a ∈ fp i := by
  refine ⟨(List.range env.length).flatMap fun i => if w'.getD i .z = w.getD i .z then [] else fp i, fun i => if w'.getD i .z = w.getD i .z then fp i else [], ?_, ?_, ?_⟩
  · have hin : ∀ {a : Addr}, a ∈ ((List.range env.length).flatMap fun i => if w'.getD i .z = w.getD i .z then [] else fp i) → ∃ i, w'.getD i .z ≠ w.getD i .z ∧ a ∈ fp i := fun {a} h => by
      obtain ⟨i, _, q⟩ := List.mem_flatMap.mp h
      split at q
      · cases q
      · exact ⟨i, by assumption, q⟩
    have hb : ∀ a ∈ ((List.range env.length).flatMap fun i => if w'.getD i .z = w.getD i .z then [] else fp i), B a = none := fun a ha => by
      obtain ⟨i, _, q⟩ := hin ha
      exact R.bn i a q
    refine ⟨addB_sub R.s, R.len, fun i d e => ?_, fun i hi => ?_, fun i => ?_, fun i j hij a ha => ?_, fun i a ha => ?_⟩
    · obtain ⟨v, h1, h2⟩ := R.sl i d e
      refine ⟨v, h1, ?_⟩
      by_cases q : w'.getD i .z = w.getD i .z
      · rw [q]
        simp only [q, if_true]
        exact h2.mono (addB_ex hb) (Ex.rfl' _)
      · have z := (hw i).resolve_left q
        simp only [q, if_false]
        rw [z]
        refine ⟨h2.rep (addB_ex hb) _ fun a ha o eo => ?_, rfl⟩
        have hi : i < env.length := (List.getElem?_eq_some_iff.mp e).1
        rw [addB_in (List.mem_flatMap.mpr ⟨i, List.mem_range.mpr hi, by rw [if_neg q]; exact ha⟩)]
        exact eo
    · split
      · exact R.nn i hi
      · rfl
    · split
      · exact R.nd i
      · exact List.nodup_nil
    · split at ha
      · split
        · exact R.dj i j hij a ha
        · simp
      · cases ha
    · split at ha
      · rename_i q
        rw [addB_out]
        · exact R.bn i a ha
        · intro z
          obtain ⟨j, qj, hj⟩ := hin z
          refine R.dj i j (fun e => ?_) a ha hj
          subst e
          exact qj q
      · cases ha
  · intro a ha
    obtain ⟨i, _, q⟩ := List.mem_flatMap.mp ha
    split at q
    · cases q
    · exact ⟨i, by assumption, q⟩
  · intro i a ha
    dsimp only at ha
    split at ha
    · exact ha
    · cases ha
end

/-! ### outcomes -/
inductive Res (α : Type) where
  | ok (a : α) | exc (c : Str) (fs : List (Str × D)) | bad
def Res.bind {α β : Type} (r : Res α) (f : α → Res β) : Res β := match r with
  | .ok a => f a
  | .exc c fs => .exc c fs
  | .bad => .bad
inductive Out where
  | nx (e : Env) | bk (e : Env) | ct (e : Env) | ret (d : D) | exc (c : Str) (fs : List (Str × D)) (e : Env) | bad
/-- an exception's own dict -/
def ExcRep (K : Fr) (B H : Hp) (dct : Option Addr) (fs : List (Str × D)) : Prop := (fs = [] ∧ dct = none) ∨ (fs ≠ [] ∧ ∃ dd fvs, dct = some dd ∧ H dd = some (.xd fvs) ∧ RepF K B fvs fs)
theorem ExcRep.mono {K : Fr} {B H B' H' : Hp} {dct : Option Addr} {fs : List (Str × D)} (b : Ex B B') (h : Ex H H') (r : ExcRep K B H dct fs) : ExcRep K B' H' dct fs := by
  rcases r with r | ⟨r1, dd, fvs, r2, r3, r4⟩
  · exact .inl r
  · exact .inr ⟨r1, dd, fvs, r2, h _ _ r3, r4.mono b⟩

/-! ### the readings -/
/-- behind an expression: its value, borne by the grown base | an exception -/
def AfE (K : Fr) (W : WX) (k : Ow) (B : Hp) (σ : L2.St) (H : Hp) (Q : VK) : Res D → Prop
  | .ok d => ∀ v H' B' f, Gr B H B' H' → RepO K B' H' k v d f → f.Nodup → (∀ a ∈ f, H a = none ∧ B' a = none) → Q v H'
  | .exc c fs => ∀ H' B' dct, Gr B H B' H' → ExcRep K B' H' dct fs → W (.ref (He.ga K c)) dct σ H'
  | .bad => False
def rdE (K : Fr) (w : List Ow) (W : WX) (de : Env → Res D) (k : Ow) : TE := fun σ H Q => ∃ B env fp, Rel K w B H σ env fp ∧ AfE K W k B σ H Q (de env)
def AfT (K : Fr) (W : WX) (B : Hp) (σ : L2.St) (H : Hp) (Q : Bool → Hp → Prop) : Res Bool → Prop
  | .ok b => ∀ H' B', Gr B H B' H' → Q b H'
  | .exc c fs => ∀ H' B' dct, Gr B H B' H' → ExcRep K B' H' dct fs → W (.ref (He.ga K c)) dct σ H'
  | .bad => False
def rdT (K : Fr) (w : List Ow) (W : WX) (dt : Env → Res Bool) : TT := fun σ H Q => ∃ B env fp, Rel K w B H σ env fp ∧ AfT K W B σ H Q (dt env)
def AfA (K : Fr) (W : WX) (B : Hp) (σ : L2.St) (H : Hp) (Q : List V → Hp → Prop) : Res (List D) → Prop
  | .ok ds => ∀ vs H' B', Gr B H B' H' → Reps K B' vs ds → Q vs H'
  | .exc c fs => ∀ H' B' dct, Gr B H B' H' → ExcRep K B' H' dct fs → W (.ref (He.ga K c)) dct σ H'
  | .bad => False
def rdA (K : Fr) (w : List Ow) (W : WX) (da : Env → Res (List D)) : TA := fun σ H Q => ∃ B env fp, Rel K w B H σ env fp ∧ AfA K W B σ H Q (da env)
/-- the frame's own state over the entry (B0, H0) -/
def SRel (K : Fr) (w : List Ow) (B0 H0 B H : Hp) (σ : L2.St) (env : Env) : Prop :=
  ∃ fp, Rel K w B H σ env fp ∧ Ex B0 B ∧ Ex H0 H ∧ (∀ a, H0 a ≠ none → B a = B0 a) ∧ ∀ i, ∀ a ∈ fp i, H0 a = none
structure Ws where
  nx : List Ow
  bk : List Ow
  ct : List Ow
  rt : Ow
def AfS (K : Fr) (W : WX) (s : Ws) (B0 H0 : Hp) (D : Ends) : Out → Prop
  | .nx env => ∀ B σ H, SRel K s.nx B0 H0 B H σ env → D.nx σ H
  | .bk env => ∀ B σ H, SRel K s.bk B0 H0 B H σ env → D.bk σ H
  | .ct env => ∀ B σ H, SRel K s.ct B0 H0 B H σ env → D.ct σ H
  | .ret d => ∀ B H v f, Ex B0 B → Ex H0 H → Ex B H → (∀ a, H0 a ≠ none → B a = B0 a) → RepO K B H s.rt v d f → f.Nodup → (∀ a ∈ f, H0 a = none ∧ B a = none) → D.rt v H
  | .exc c fs env => ∀ B σ H dct, SRel K [] B0 H0 B H σ env → ExcRep K B H dct fs → W (.ref (He.ga K c)) dct σ H
  | .bad => False
def rdS (K : Fr) (w : List Ow) (W : WX) (b : Env → Out) (s : Ws) : TS := fun D σ H => ∃ B0 H0 B env, SRel K w B0 H0 B H σ env ∧ AfS K W s B0 H0 D (b env)

/-! ### weakening -/
section
variable {X : Cx}
theorem PE_weak {e : Expr} {t t' : TE} (h : PE X e t) (hw : ∀ σ H Q, t' σ H Q → t σ H Q) : PE X e t' := ⟨fun pins s σ H Q I q => h.run pins s σ H Q I (hw σ H Q q)⟩
theorem PT_weak {e : Expr} {t t' : TT} (h : PT X e t) (hw : ∀ σ H Q, t' σ H Q → t σ H Q) : PT X e t' := ⟨fun pins s σ H Q I q => h.run pins s σ H Q I (hw σ H Q q)⟩
theorem PW_weak {e : Expr} {t t' : TT} (h : PW X e t) (hw : ∀ σ H Q, t' σ H Q → t σ H Q) : PW X e t' := ⟨fun wh pins s σ H Q I q => h.run wh pins s σ H Q I (hw σ H Q q)⟩
theorem PA_weak {es : List Expr} {t t' : TA} (h : PA X es t) (hw : ∀ σ H Q, t' σ H Q → t σ H Q) : PA X es t' := ⟨fun pos pins s σ H Q I q => h.run pos pins s σ H Q I (hw σ H Q q)⟩
theorem PS_weak {st : Stmt} {t t' : TS} (h : PS X st t) (hw : ∀ D σ H, t' D σ H → t D σ H) : PS X st t' := ⟨fun pins s σ H D I q => h.run pins s σ H D I (hw D σ H q)⟩
theorem PSs_weak {st : List Stmt} {t t' : TS} (h : PSs X st t) (hw : ∀ D σ H, t' D σ H → t D σ H) : PSs X st t' := ⟨fun pins s σ H D I q => h.run pins s σ H D I (hw D σ H q)⟩
end
section
variable {K : Fr} {W : WX} {w w' : List Ow} {k : Ow} {de : Env → Res D}
/-- the value of an expression is frozen -/
theorem rdE_z {σ : L2.St} {H : Hp} {Q : VK} (h : rdE K w W de .z σ H Q) : rdE K w W de k σ H Q := by
  obtain ⟨B, env, fp, R, h⟩ := h
  refine ⟨B, env, fp, R, ?_⟩
  cases e : de env with
  | ok d =>
    rw [e] at h
    intro v H' B' f g r nd hf
    exact h v H' (addB B' H' f) [] (g.add hf) ⟨r.freeze fun a ha => (hf a ha).2, rfl⟩ List.nodup_nil fun a ha => by cases ha
  | exc c fs => rw [e] at h; exact h
  | bad => rw [e] at h; exact h
end
end Fz
set_option Elab.async false
set_option linter.all false
set_option maxRecDepth 100000
set_option maxHeartbeats 4000000
/-! Functionalization: expressions. -/
namespace Fz
open PySem PySem.Spec PyProof.Rows L2

/-! ### what expressions are worth, on data -/
def dv (i : Nat) : Env → Res D := fun env => match env[i]? with
  | some (some d) => .ok d
  | _ => .bad
def dc (d : D) : Env → Res D := fun _ => .ok d
def d1 (f : D → Res D) (a : Env → Res D) : Env → Res D := fun env => (a env).bind f
def d2 (f : D → D → Res D) (a b : Env → Res D) : Env → Res D := fun env => (a env).bind fun x => (b env).bind fun y => f x y
def dnil : Env → Res (List D) := fun _ => .ok []
def dcons (a : Env → Res D) (r : Env → Res (List D)) : Env → Res (List D) := fun env => (a env).bind fun x => (r env).bind fun ys => .ok (x :: ys)
def dcall (f : List D → Res D) (a : Env → Res (List D)) : Env → Res D := fun env => (a env).bind f
def tVal (a : Env → Res D) : Env → Res Bool := fun env => (a env).bind fun x => match x with
  | .bl b => .ok b
  | _ => .bad
def truD : D → Res Bool
  | .non => .ok false
  | .bl b => .ok b
  | .int i => .ok (i != 0)
  | .str x => if x.length ≤ 16777216 then .ok ((x.length : Int) != 0) else .bad
  | .lst ds => .ok (!ds.isEmpty)
  | .scr ds => .ok (!ds.isEmpty)
  | .tup ds => .ok (!ds.isEmpty)
  | _ => .bad
def tTru (a : Env → Res D) : Env → Res Bool := fun env => (a env).bind truD
def tNot (t : Env → Res Bool) : Env → Res Bool := fun env => (t env).bind fun b => .ok (!b)
def tAnd (t u : Env → Res Bool) : Env → Res Bool := fun env => (t env).bind fun b => if b = true then u env else .ok false
def tOr (t u : Env → Res Bool) : Env → Res Bool := fun env => (t env).bind fun b => if b = true then .ok true else u env
def dAnd (a b : Env → Res D) : Env → Res D := fun env => (a env).bind fun x => match x with
  | .bl true => b env
  | .bl false => .ok (.bl false)
  | _ => .bad
def dOr (a b : Env → Res D) : Env → Res D := fun env => (a env).bind fun x => match x with
  | .bl true => .ok (.bl true)
  | .bl false => b env
  | _ => .bad
def oNot : D → Res D
  | .bl b => .ok (.bl (!b))
  | _ => .bad
def dIf (t : Env → Res Bool) (a b : Env → Res D) : Env → Res D := fun env => (t env).bind fun c => if c = true then a env else b env
/-- a op1 b op2 c -/
def chainK (r : Res D) : D → Res D
  | .bl true => r
  | .bl false => .ok (.bl false)
  | _ => .bad
def dChain (f g : D → D → Res D) (a b c : Env → Res D) : Env → Res D := fun env => (a env).bind fun x => (b env).bind fun y => (f x y).bind (chainK ((c env).bind fun u => g y u))
/-- the same expression, its value (and an exception's fields) a scalar -/
def D.flat : D → Bool
  | .non => true
  | .bl _ => true
  | .int _ => true
  | .str _ => true
  | _ => false
def dflat (a : Env → Res D) : Env → Res D := fun env => match a env with
  | .ok d => if d.flat = true then .ok d else .bad
  | .exc c [] => .exc c []
  | _ => .bad
def tflat (t : Env → Res Bool) : Env → Res Bool := fun env => match t env with
  | .ok b => .ok b
  | .exc c [] => .exc c []
  | .bad => .bad
  | .exc _ (_ :: _) => .bad

/-! ### the operators -/
def mulOk (i j : Int) : Bool := decide (-(2 ^ 64) < i ∧ i < 2 ^ 64) || decide (-(2 ^ 64) < j ∧ j < 2 ^ 64) || decide (i.natAbs.log2 + j.natAbs.log2 < 1000000)
def divOk (j : Int) : Bool := decide (j ≠ 0) && (decide (j.natAbs < 1073741824) || decide (j.natAbs.log2 < 9000))
def powOk (i j : Int) : Bool := decide (0 ≤ j ∧ j ≤ 1000000 ∧ i.natAbs < 2 ^ 64)
def oAdd : D → D → Res D
  | .int i, .int j => .ok (.int (i + j))
  | .tup xs, .tup ys => if xs.length + ys.length ≤ 16777216 then .ok (.tup (xs ++ ys)) else .bad
  | .lst xs, .lst ys => if xs.length + ys.length ≤ 16777216 then .ok (.lst (xs ++ ys)) else .bad
  | .str x, .str y => if x.length + y.length ≤ 16777216 then .ok (.str (x ++ y)) else .bad
  | _, _ => .bad
def oAddL : D → D → Res D
  | .lst xs, .lst ys => if xs.length + ys.length ≤ 16777216 then .ok (.lst (xs ++ ys)) else .bad
  | _, _ => .bad
def oSub : D → D → Res D
  | .int i, .int j => .ok (.int (i - j))
  | _, _ => .bad
def oMul : D → D → Res D
  | .int i, .int j => if mulOk i j = true then .ok (.int (i * j)) else .bad
  | _, _ => .bad
def oRepL : D → D → Res D
  | .lst xs, .int k => if -(2 ^ 63) ≤ k ∧ k < 2 ^ 63 ∧ xs.length * k.toNat ≤ 16777216 then .ok (.lst (List.flatten (List.replicate k.toNat xs))) else .bad
  | _, _ => .bad
def oDiv : D → D → Res D
  | .int i, .int j => if divOk j = true then .ok (.int (i.fdiv j)) else .bad
  | _, _ => .bad
def oMod : D → D → Res D
  | .int i, .int j => if j ≠ 0 then .ok (.int (i.fmod j)) else .bad
  | _, _ => .bad
def oPow : D → D → Res D
  | .int i, .int j => if powOk i j = true then .ok (.int (i ^ j.toNat)) else .bad
  | _, _ => .bad
def oNeg : D → Res D
  | .int i => .ok (.int (-i))
  | _ => .bad
def cI (p : Int → Int → Bool) : D → D → Res D
  | .int i, .int j => .ok (.bl (p i j))
  | _, _ => .bad
abbrev cLt := cI fun i j => decide (i < j)
abbrev cLe := cI fun i j => decide (i ≤ j)
abbrev cGt := cI fun i j => decide (j < i)
abbrev cGe := cI fun i j => decide (j ≤ i)
mutual
def D.py : D → Option PyData
  | .non => some .none
  | .bl b => some (.bool b)
  | .int i => some (.int i)
  | .str x => some (.str x)
  | .lst ds => (D.pys ds).map .list
  | .scr ds => (D.pys ds).map .list
  | .tup ds => (D.pys ds).map .tuple
  | .ins _ _ => none
  | .exn _ _ => none
def D.pys : List D → Option (List PyData)
  | [] => some []
  | d :: r => match D.py d, D.pys r with
    | some p, some ps => some (p :: ps)
    | _, _ => none
end
def eqD (x y : D) : Option Bool := match x.py, y.py with
  | some p, some q => if SeqAt.shaped p = true ∧ SeqAt.shaped q = true then some (PyData.eqv p q) else none
  | _, _ => none
def cEq (x y : D) : Res D := match x, y with
  | .int i, .int j => .ok (.bl (decide (i = j)))
  | .str i, .str j => .ok (.bl (decide (i = j)))
  | .bl i, .bl j => .ok (.bl (decide (i = j)))
  | x, y => match eqD x y with
    | some b => .ok (.bl b)
    | none => .bad
def cNe (x y : D) : Res D := match x, y with
  | .int i, .int j => .ok (.bl (!decide (i = j)))
  | .str i, .str j => .ok (.bl (!decide (i = j)))
  | .bl i, .bl j => .ok (.bl (!decide (i = j)))
  | x, y => match eqD x y with
    | some b => .ok (.bl (!b))
    | none => .bad
def cIsN : D → Res D
  | .non => .ok (.bl true)
  | _ => .ok (.bl false)
def cNotN : D → Res D
  | .non => .ok (.bl false)
  | _ => .ok (.bl true)
def oIx : D → D → Res D
  | .lst xs, .int i => match atI xs i with | some d => .ok d | none => .bad
  | .scr xs, .int i => match atI xs i with | some d => .ok d | none => .bad
  | .tup xs, .int i => match atI xs i with | some d => .ok d | none => .bad
  | .str z, .int i => if z.length ≤ 16777216 then (match atI z.cps.toList i with | some c => .ok (.str ⟨#[c]⟩) | none => .bad) else .bad
  | _, _ => .bad
def oFld (cs : List Str) (f : Str) : D → Res D
  | .ins c fs => if cs.contains c = true then (match fs.lookup f with | some d => .ok d | none => .bad) else .bad
  | _ => .bad

/-! ### their rules, by values -/
def OpD (K : Fr) (r : R2) (f : D → D → Res D) (k : Ow) : Prop := ∀ (W : WX) (x y : V) (a b : D) (B H : Hp) (σ : L2.St) (Q : VK), Ex B H → Rep K B x a → Rep K B y b → AfE K W k B σ H Q (f a b) → r x y H Q
theorem AfE.val {K : Fr} {W : WX} {B H : Hp} {σ : L2.St} {Q : VK} {d : D} {v : V} (s : Ex B H) (h : AfE K W .z B σ H Q (.ok d)) (r : Rep K B v d) : Q v H :=
  h v H B [] (Gr.rf s) ⟨r, rfl⟩ List.nodup_nil fun a ha => by cases ha
/-- a new object at p that the base takes -/
theorem AfE.newB {K : Fr} {W : WX} {B H : Hp} {σ : L2.St} {Q : VK} {d : D} {p : Addr} {o : HO} (s : Ex B H) (h : AfE K W .z B σ H Q (.ok d)) (hp : H p = none) (r : Rep K (upd B p o) (.ref p) d) : Q (.ref p) (upd H p o) :=
  h (.ref p) _ (upd B p o) [] (Gr.new s hp) ⟨r, rfl⟩ List.nodup_nil fun a ha => by cases ha
/-- a new list of one's own -/
theorem AfE.newL {K : Fr} {W : WX} {B H : Hp} {σ : L2.St} {Q : VK} {ds : List D} {vs : List V} {p : Addr} (s : Ex B H) (h : AfE K W (.l .z) B σ H Q (.ok (.lst ds))) (hp : H p = none) (r : Reps K B vs ds) : Q (.ref p) (upd H p (.lst vs)) :=
  h (.ref p) _ B [p] (Gr.out s hp) ⟨p, vs, ds, [], rfl, rfl, upd_same, ROs.ofz r, rfl⟩ (by simp) fun a ha => by
    have q : a = p := by simpa using ha
    subst q
    exact ⟨hp, s.back hp⟩
theorem AfE.iff {K : Fr} {W : WX} {k : Ow} {B H : Hp} {σ : L2.St} {Q : VK} {c : Prop} [Decidable c] {r : Res D} (h : AfE K W k B σ H Q (if c then r else .bad)) : c ∧ AfE K W k B σ H Q r := by
  by_cases q : c
  · rw [if_pos q] at h; exact ⟨q, h⟩
  · rw [if_neg q] at h; exact h.elim
theorem Rep.intI {K : Fr} {B : Hp} {v : V} {i : Int} (r : Rep K B v (.int i)) : v = .int i := by cases r; rfl
section
variable {X : Cx} {K : Fr}
theorem OpR.or {f : Value → Value → Sem Value} {r r' : R2} (h : OpR X f r) (h' : OpR X f r') : OpR X f (fun x y H Q => r x y H Q ∨ r' x y H Q) := by
  intro pins s σ H x y v u Q I rx ry q
  rcases q with q | q
  · exact h pins s σ H x y v u Q I rx ry q
  · exact h' pins s σ H x y v u Q I rx ry q
abbrev rAddI : R2 := rI0 fun i j => .int (i + j)
abbrev rAddSt : R2 := fun x y H Q => ∃ i j, x = .str i ∧ y = .str j ∧ i.length + j.length ≤ sizeLine ∧ Q (.str (i ++ j)) H
def rAddAll (K : Fr) : R2 := fun x y H Q => rAddI x y H Q ∨ rCatA K x y H Q ∨ rCat x y H Q ∨ rAddSt x y H Q
theorem op_addAll : OpR X (binaryOp .Add) (rAddAll X.K) := OpR.or op_add (OpR.or op_catA (OpR.or op_cat op_add_str))
theorem sz {n : Nat} (h : n ≤ 16777216) : n ≤ sizeLine := by rw [sizeLine_eq]; exact h
theorem od_add : OpD K (rAddAll K) oAdd .z := by
  intro W x y a b B H σ Q s rx ry h
  cases rx with
  | int i =>
    cases ry with
    | int j => exact .inl ⟨i, j, rfl, rfl, AfE.val s h (.int _)⟩
    | _ => exact h.elim
  | str i =>
    cases ry with
    | str j =>
      obtain ⟨hz, h⟩ := AfE.iff (show AfE K W .z B σ H Q (if i.length + j.length ≤ 16777216 then _ else _) from h)
      exact .inr (.inr (.inr ⟨i, j, rfl, rfl, sz hz, AfE.val s h (.str _)⟩))
    | _ => exact h.elim
  | @tup p xs ds hp rs =>
    cases ry with
    | @tup q ys es hq qs =>
      obtain ⟨hz, h⟩ := AfE.iff (show AfE K W .z B σ H Q (if ds.length + es.length ≤ 16777216 then _ else _) from h)
      refine .inr (.inl ⟨p, q, xs, ys, rfl, rfl, s.st hp, s.st hq, sz (by rw [rs.length, qs.length]; exact hz), fun e => ?_, fun e e' => ?_, fun e e' t ht => ?_⟩)
      · subst e
        cases rs
        exact AfE.val s h (.tup hq qs)
      · subst e'
        cases qs
        rw [List.append_nil] at h
        exact AfE.val s h (.tup hp rs)
      · exact AfE.newB s h ht (.tup (SqT.of upd_same) ((rs.append qs).mono (Ex.new (s.back ht))))
    | _ => exact h.elim
  | @lst p xs ds hp rs =>
    cases ry with
    | @lst q ys es hq qs =>
      obtain ⟨hz, h⟩ := AfE.iff (show AfE K W .z B σ H Q (if ds.length + es.length ≤ 16777216 then _ else _) from h)
      refine .inr (.inr (.inl ⟨p, q, xs, ys, rfl, rfl, s _ _ hp, s _ _ hq, sz (by rw [rs.length, qs.length]; exact hz), fun t ht => ?_⟩))
      exact AfE.newB s h ht (.lst upd_same ((rs.append qs).mono (Ex.new (s.back ht))))
    | _ => exact h.elim
  | _ => exact h.elim
theorem od_addL : OpD K rCat oAddL (.l .z) := by
  intro W x y a b B H σ Q s rx ry h
  cases rx with
  | @lst p xs ds hp rs =>
    cases ry with
    | @lst q ys es hq qs =>
      obtain ⟨hz, h⟩ := AfE.iff (show AfE K W (.l .z) B σ H Q (if ds.length + es.length ≤ 16777216 then _ else _) from h)
      exact ⟨p, q, xs, ys, rfl, rfl, s _ _ hp, s _ _ hq, sz (by rw [rs.length, qs.length]; exact hz), fun t ht => AfE.newL s h ht (rs.append qs)⟩
    | _ => exact h.elim
  | _ => exact h.elim
/-- an operator of two ints -/
theorem od_int {C : Int → Int → Prop} {g : Int → Int → V} {f : D → D → Res D} (hf : ∀ a b, (∀ i j, a = .int i → b = .int j → False) → f a b = .bad)
    (hi : ∀ i j, (C i j ∧ ∃ d, f (.int i) (.int j) = .ok d ∧ ∀ B, Rep K B (g i j) d) ∨ f (.int i) (.int j) = .bad) : OpD K (rI C g) f .z := by
  intro W x y a b B H σ Q s rx ry h
  by_cases q : ∃ i j, a = .int i ∧ b = .int j
  · obtain ⟨i, j, rfl, rfl⟩ := q
    cases rx
    cases ry
    rcases hi i j with ⟨c, d, e, r⟩ | e
    · rw [e] at h
      exact ⟨i, j, rfl, rfl, c, AfE.val s h (r B)⟩
    · rw [e] at h
      exact h.elim
  · rw [hf a b fun i j e1 e2 => q ⟨i, j, e1, e2⟩] at h
    exact h.elim
abbrev rT (g : Int → Int → V) : R2 := rI (fun _ _ => True) g
theorem OpR.rI0 {f : Value → Value → Sem Value} {g : Int → Int → V} (h : OpR X f (L2.rI0 g)) : OpR X f (rT g) := fun pins s σ H x y v u Q I rx ry ⟨i, j, e1, e2, _, q⟩ => h pins s σ H x y v u Q I rx ry ⟨i, j, e1, e2, q⟩
theorem od_sub : OpD K (rT fun i j => .int (i - j)) oSub .z := od_int (fun a b h => by cases a <;> cases b <;> first | rfl | exact (h _ _ rfl rfl).elim) fun i j => .inl ⟨trivial, _, rfl, fun _ => .int _⟩
theorem od_cmp {p : Int → Int → Bool} : OpD K (rT fun i j => .bl (p i j)) (cI p) .z := od_int (fun a b h => by cases a <;> cases b <;> first | rfl | exact (h _ _ rfl rfl).elim) fun i j => .inl ⟨trivial, _, rfl, fun _ => .bl _⟩
def CMulA (i j : Int) : Prop := mulOk i j = true
theorem op_mulA : OpR X (binaryOp .Mult) (rI CMulA fun i j => .int (i * j)) := by
  intro pins s σ H x y v u Q I rx ry ⟨i, j, e1, e2, c, q⟩
  unfold CMulA mulOk at c
  simp only [Bool.or_eq_true, decide_eq_true_eq] at c
  rcases c with (c | c) | c
  · exact op_mul pins s σ H x y v u Q I rx ry ⟨i, j, e1, e2, .inl c, q⟩
  · exact op_mul pins s σ H x y v u Q I rx ry ⟨i, j, e1, e2, .inr c, q⟩
  · exact op_mulW pins s σ H x y v u Q I rx ry ⟨i, j, e1, e2, c, q⟩
theorem od_mul : OpD K (rI CMulA fun i j => .int (i * j)) oMul .z := od_int (fun a b h => by cases a <;> cases b <;> first | rfl | exact (h _ _ rfl rfl).elim) fun i j => by
  by_cases c : mulOk i j = true
  · exact .inl ⟨c, .int (i * j), if_pos c, fun _ => .int _⟩
  · exact .inr (if_neg c)
def CDivA (_ j : Int) : Prop := divOk j = true
theorem op_divA : OpR X (binaryOp .FloorDiv) (rI CDivA fun i j => .int (i.fdiv j)) := opI fun i j _ _ _ _ _ hc q => by
  unfold CDivA divOk at hc
  simp only [Bool.and_eq_true, Bool.or_eq_true, decide_eq_true_eq] at hc
  rcases hc.2 with c | c
  · exact floordiv_int hc.1 q (.inl (PyProof.noPylong_small c))
  · exact floordiv_int hc.1 q (.inl (PyProof.noPylong_of_log2 c))
theorem od_div : OpD K (rI CDivA fun i j => .int (i.fdiv j)) oDiv .z := od_int (fun a b h => by cases a <;> cases b <;> first | rfl | exact (h _ _ rfl rfl).elim) fun i j => by
  by_cases c : divOk j = true
  · exact .inl ⟨c, .int (i.fdiv j), if_pos c, fun _ => .int _⟩
  · exact .inr (if_neg c)
theorem od_mod : OpD K (rI (fun _ j => j ≠ 0) fun i j => .int (i.fmod j)) oMod .z := od_int (fun a b h => by cases a <;> cases b <;> first | rfl | exact (h _ _ rfl rfl).elim) fun i j => by
  by_cases c : j ≠ 0
  · exact .inl ⟨c, .int (i.fmod j), if_pos c, fun _ => .int _⟩
  · exact .inr (if_neg c)
theorem od_pow : OpD K (rI CPow fun i j => .int (i ^ j.toNat)) oPow .z := od_int (fun a b h => by cases a <;> cases b <;> first | rfl | exact (h _ _ rfl rfl).elim) fun i j => by
  by_cases c : powOk i j = true
  · have c' : 0 ≤ j ∧ j ≤ 1000000 ∧ i.natAbs < 2 ^ 64 := by unfold powOk at c; exact of_decide_eq_true c
    exact .inl ⟨c', .int (i ^ j.toNat), if_pos c, fun _ => .int _⟩
  · exact .inr (if_neg c)
theorem op_modA : OpR X (binaryOp .Mod) (rI (fun _ j => j ≠ 0) fun i j => .int (i.fmod j)) := op_modN

/-! ### data at any depth: == -/
mutual
theorem Rep.dp {B H : Hp} (s : Ex B H) : ∀ {v : V} {d : D} {p : PyData}, Rep K B v d → d.py = some p → L2.Dp K H v p
  | _, _, _, .non, e => by cases e; exact .non
  | _, _, _, .bl b, e => by cases e; exact .bl _
  | _, _, _, .int i, e => by cases e; exact .int _
  | _, _, _, .str x, e => by cases e; exact .str _
  | _, _, _, .lst h r, e => by
    unfold D.py at e
    obtain ⟨ps, h1, h2⟩ := Option.map_eq_some_iff.mp e
    subst h2
    exact .lst (SqL.of (s _ _ h)) (Reps.dp s r h1)
  | _, _, _, .scr h r, e => by
    unfold D.py at e
    obtain ⟨ps, h1, h2⟩ := Option.map_eq_some_iff.mp e
    subst h2
    exact .lst (s.sl h) (Reps.dp s r h1)
  | _, _, _, .tup h r, e => by
    unfold D.py at e
    obtain ⟨ps, h1, h2⟩ := Option.map_eq_some_iff.mp e
    subst h2
    exact .tup (s.st h) (Reps.dp s r h1)
  | _, _, _, .ins _ _, e => by cases e
  | _, _, _, .exn, e => by cases e
theorem Reps.dp {B H : Hp} (s : Ex B H) : ∀ {vs : List V} {ds : List D} {ps : List PyData}, Reps K B vs ds → D.pys ds = some ps → DpAll K H vs ps
  | _, _, _, .nil, e => by cases e; exact .nil
  | _, _, _, .cons (d := d) (ds := ds) h r, e => by
    unfold D.pys at e
    split at e
    · rename_i p ps h1 h2
      cases e
      exact .cons (Rep.dp s h h1) (Reps.dp s r h2)
    · cases e
end
end
end Fz
set_option Elab.async false
set_option linter.all false
set_option maxRecDepth 100000
set_option maxHeartbeats 4000000
/-! Functionalization: the rules of expressions over the canonical readings. -/
namespace Fz
open PySem PySem.Spec PyProof.Rows L2

section
variable {K : Fr} {W : WX} {w w' : List Ow} {k : Ow}
theorem AfE.gr {B H B1 H1 : Hp} {σ : L2.St} {Q : VK} (g : Gr B H B1 H1) : ∀ {r : Res D}, AfE K W k B σ H Q r → AfE K W k B1 σ H1 Q r
  | .ok d, h => fun v H' B' f g2 r nd hf => h v H' B' f (g.tr g2) r nd fun a ha => ⟨g.h.back (hf a ha).1, (hf a ha).2⟩
  | .exc c fs, h => fun H' B' dct g2 r => h H' B' dct (g.tr g2) r
  | .bad, h => h
theorem AfT.gr {B H B1 H1 : Hp} {σ : L2.St} {Q : Bool → Hp → Prop} (g : Gr B H B1 H1) : ∀ {r : Res Bool}, AfT K W B σ H Q r → AfT K W B1 σ H1 Q r
  | .ok d, h => fun H' B' g2 => h H' B' (g.tr g2)
  | .exc c fs, h => fun H' B' dct g2 r => h H' B' dct (g.tr g2) r
  | .bad, h => h
theorem AfA.gr {B H B1 H1 : Hp} {σ : L2.St} {Q : List V → Hp → Prop} (g : Gr B H B1 H1) : ∀ {r : Res (List D)}, AfA K W B σ H Q r → AfA K W B1 σ H1 Q r
  | .ok d, h => fun vs H' B' g2 r => h vs H' B' (g.tr g2) r
  | .exc c fs, h => fun H' B' dct g2 r => h H' B' dct (g.tr g2) r
  | .bad, h => h
/-- first a value, then more -/
theorem rdE_then {a : Env → Res D} {σ : L2.St} {H B : Hp} {env : Env} {fp : Nat → List Addr} {k' : Ow} {Q : VK} {Q2 : VK} {f : D → Res D} (R : Rel K w B H σ env fp) (h : AfE K W k' B σ H Q2 ((a env).bind f))
    (go : ∀ d v H1 B1, a env = .ok d → Gr B H B1 H1 → Rel K w B1 H1 σ env fp → Rep K B1 v d → AfE K W k' B1 σ H1 Q2 (f d) → Q v H1) : rdE K w W a .z σ H Q := by
  refine ⟨B, env, fp, R, ?_⟩
  cases e : a env with
  | ok d =>
    rw [e] at h
    intro v H1 B1 fs g r nd hf
    exact go d v H1 B1 e g (R.gr g) r.1 (AfE.gr g h)
  | exc c fs => rw [e] at h; exact h
  | bad => rw [e] at h; exact h
theorem rdE_thenT {a : Env → Res D} {σ : L2.St} {H B : Hp} {env : Env} {fp : Nat → List Addr} {Q : VK} {Q2 : Bool → Hp → Prop} {f : D → Res Bool} (R : Rel K w B H σ env fp) (h : AfT K W B σ H Q2 ((a env).bind f))
    (go : ∀ d v H1 B1, a env = .ok d → Gr B H B1 H1 → Rel K w B1 H1 σ env fp → Rep K B1 v d → AfT K W B1 σ H1 Q2 (f d) → Q v H1) : rdE K w W a .z σ H Q := by
  refine ⟨B, env, fp, R, ?_⟩
  cases e : a env with
  | ok d =>
    rw [e] at h
    intro v H1 B1 fs g r nd hf
    exact go d v H1 B1 e g (R.gr g) r.1 (AfT.gr g h)
  | exc c fs => rw [e] at h; exact h
  | bad => rw [e] at h; exact h
theorem rdE_thenA {a : Env → Res D} {σ : L2.St} {H B : Hp} {env : Env} {fp : Nat → List Addr} {Q : VK} {Q2 : List V → Hp → Prop} {f : D → Res (List D)} (R : Rel K w B H σ env fp) (h : AfA K W B σ H Q2 ((a env).bind f))
    (go : ∀ d v H1 B1, a env = .ok d → Gr B H B1 H1 → Rel K w B1 H1 σ env fp → Rep K B1 v d → AfA K W B1 σ H1 Q2 (f d) → Q v H1) : rdE K w W a .z σ H Q := by
  refine ⟨B, env, fp, R, ?_⟩
  cases e : a env with
  | ok d =>
    rw [e] at h
    intro v H1 B1 fs g r nd hf
    exact go d v H1 B1 e g (R.gr g) r.1 (AfA.gr g h)
  | exc c fs => rw [e] at h; exact h
  | bad => rw [e] at h; exact h
theorem rdA_then {a : Env → Res (List D)} {σ : L2.St} {H B : Hp} {env : Env} {fp : Nat → List Addr} {k' : Ow} {Q : List V → Hp → Prop} {Q2 : VK} {f : List D → Res D} (R : Rel K w B H σ env fp) (h : AfE K W k' B σ H Q2 ((a env).bind f))
    (go : ∀ ds vs H1 B1, a env = .ok ds → Gr B H B1 H1 → Rel K w B1 H1 σ env fp → Reps K B1 vs ds → AfE K W k' B1 σ H1 Q2 (f ds) → Q vs H1) : rdA K w W a σ H Q := by
  refine ⟨B, env, fp, R, ?_⟩
  cases e : a env with
  | ok ds =>
    rw [e] at h
    intro vs H1 B1 g r
    exact go ds vs H1 B1 e g (R.gr g) r (AfE.gr g h)
  | exc c fs => rw [e] at h; exact h
  | bad => rw [e] at h; exact h
theorem rdA_thenA {a : Env → Res (List D)} {σ : L2.St} {H B : Hp} {env : Env} {fp : Nat → List Addr} {Q : List V → Hp → Prop} {Q2 : List V → Hp → Prop} {f : List D → Res (List D)} (R : Rel K w B H σ env fp) (h : AfA K W B σ H Q2 ((a env).bind f))
    (go : ∀ ds vs H1 B1, a env = .ok ds → Gr B H B1 H1 → Rel K w B1 H1 σ env fp → Reps K B1 vs ds → AfA K W B1 σ H1 Q2 (f ds) → Q vs H1) : rdA K w W a σ H Q := by
  refine ⟨B, env, fp, R, ?_⟩
  cases e : a env with
  | ok ds =>
    rw [e] at h
    intro vs H1 B1 g r
    exact go ds vs H1 B1 e g (R.gr g) r (AfA.gr g h)
  | exc c fs => rw [e] at h; exact h
  | bad => rw [e] at h; exact h
/-- first a test, then more -/
theorem rdT_then {a : Env → Res Bool} {σ : L2.St} {H B : Hp} {env : Env} {fp : Nat → List Addr} {k' : Ow} {Q : Bool → Hp → Prop} {Q2 : VK} {f : Bool → Res D} (R : Rel K w B H σ env fp) (h : AfE K W k' B σ H Q2 ((a env).bind f))
    (go : ∀ d H1 B1, a env = .ok d → Gr B H B1 H1 → Rel K w B1 H1 σ env fp → AfE K W k' B1 σ H1 Q2 (f d) → Q d H1) : rdT K w W a σ H Q := by
  refine ⟨B, env, fp, R, ?_⟩
  cases e : a env with
  | ok d =>
    rw [e] at h
    intro H1 B1 g
    exact go d H1 B1 e g (R.gr g) (AfE.gr g h)
  | exc c fs => rw [e] at h; exact h
  | bad => rw [e] at h; exact h
theorem rdT_thenT {a : Env → Res Bool} {σ : L2.St} {H B : Hp} {env : Env} {fp : Nat → List Addr} {Q : Bool → Hp → Prop} {Q2 : Bool → Hp → Prop} {f : Bool → Res Bool} (R : Rel K w B H σ env fp) (h : AfT K W B σ H Q2 ((a env).bind f))
    (go : ∀ d H1 B1, a env = .ok d → Gr B H B1 H1 → Rel K w B1 H1 σ env fp → AfT K W B1 σ H1 Q2 (f d) → Q d H1) : rdT K w W a σ H Q := by
  refine ⟨B, env, fp, R, ?_⟩
  cases e : a env with
  | ok d =>
    rw [e] at h
    intro H1 B1 g
    exact go d H1 B1 e g (R.gr g) (AfT.gr g h)
  | exc c fs => rw [e] at h; exact h
  | bad => rw [e] at h; exact h
end

/-! ### names, constants -/
section
variable {X : Cx} {K : Fr} {W : WX} {w w' : List Ow} {k : Ow} {e a b c : Expr} {da db dc' : Env → Res D} {ta tb : Env → Res Bool} {pos : Pos}
theorem dv_some {i : Nat} {env : Env} {d : D} (h : env[i]? = some (some d)) : dv i env = .ok d := by unfold dv; rw [h]
theorem dv_cases (i : Nat) (env : Env) : (∃ d, env[i]? = some (some d) ∧ dv i env = .ok d) ∨ dv i env = .bad := by
  unfold dv
  cases h : env[i]? with
  | none => exact .inr rfl
  | some o =>
    cases o with
    | none => exact .inr rfl
    | some d => exact .inl ⟨d, rfl, rfl⟩
theorem e_var (i : Nat) {x : Str} (hw : w.getD i .z = .z := by rfl) (hN : X.N[i]? = some x := by rfl) (hv : Vis X.env.scope x := by first | exact Or.inl rfl | exact Or.inr (Or.inl rfl) | exact Or.inr (Or.inr rfl)) (hd : (x == ("__debug__" : Str)) = false := by decide)
    (hcd : (x == ("__classdict__" : Str)) = false := by decide) : PE X (.Name x pos) (rdE K w W (dv i) .z) := by
  refine PE_weak (pe_var hN hv hd hcd) fun σ H Q ⟨B, env, fp, R, h⟩ => ?_
  rcases dv_cases i env with ⟨d, e1, e2⟩ | e2
  · rw [e2] at h
    obtain ⟨v, h1, h2⟩ := R.sl i d e1
    rw [hw] at h2
    exact ⟨v, h1, AfE.val R.s h h2.1⟩
  · rw [e2] at h; exact h.elim
theorem e_c {v : V} {d : D} (h : PE X e (tC v)) (r : ∀ B, Rep K B v d) : PE X e (rdE K w W (dc d) .z) := PE_weak h fun σ H Q ⟨B, env, fp, R, h⟩ => AfE.val R.s h (r B)
theorem e_int {i : Int} {j : Nat} : PE X (.Constant (.int i) j pos) (rdE K w W (dc (.int i)) .z) := e_c pe_int fun _ => .int i
theorem e_bl {b : Bool} {j : Nat} : PE X (.Constant (.bool b) j pos) (rdE K w W (dc (.bl b)) .z) := e_c pe_bl fun _ => .bl b
theorem e_non {j : Nat} : PE X (.Constant .none j pos) (rdE K w W (dc .non) .z) := e_c pe_non fun _ => .non
theorem e_str {x : Str} {j : Nat} : PE X (.Constant (.str x) j pos) (rdE K w W (dc (.str x)) .z) := e_c pe_str fun _ => .str x
theorem e_globI {x : Str} {i : Int} {t : Tok} (hm : X.mg x = some (.int i t)) (hg : Gl X x := by rfl) (hd : (x == ("__debug__" : Str)) = false := by decide) : PE X (.Name x pos) (rdE K w W (dc (.int i)) .z) := e_c (pe_glob (v := .int i) hg hm ⟨t, rfl⟩ hd) fun _ => .int i
/-- the value is frozen -/
theorem e_fz (h : PE X e (rdE K w W da k)) : PE X e (rdE K w W da .z) := PE_weak h fun σ H Q ⟨B, env, fp, R, h⟩ => by
  refine ⟨B, env, fp, R, ?_⟩
  cases e : da env with
  | ok d =>
    rw [e] at h
    intro v H' B' f g r nd hf
    exact h v H' (addB B' H' f) [] (g.add hf) ⟨r.freeze fun a ha => (hf a ha).2, rfl⟩ List.nodup_nil fun a ha => by cases ha
  | exc c fs => rw [e] at h; exact h
  | bad => rw [e] at h; exact h
/-- w' is w with some slots frozen -/
def fzB : List Ow → List Ow → Bool
  | [], [] => true
  | a :: r, b :: s => (decide (b = a) || decide (b = .z)) && fzB r s
  | _, _ => false
theorem fzB_ok : ∀ {w w' : List Ow}, fzB w w' = true → ∀ j, w'.getD j .z = w.getD j .z ∨ w'.getD j .z = .z
  | [], [], _, j => .inl rfl
  | a :: r, b :: s, h, j => by
    unfold fzB at h
    simp only [Bool.and_eq_true, Bool.or_eq_true, decide_eq_true_eq] at h
    cases j with
    | zero => exact h.1
    | succ j => exact fzB_ok h.2 j
  | [], _ :: _, h, _ => by cases h
  | _ :: _, [], h, _ => by cases h
theorem Gr.unb {B H B1 B' H' : Hp} (s : Ex B H) (g : Gr B1 H B' H') : Gr B H B H' := ⟨Ex.rfl' _, g.h, s.tr g.h, fun _ _ => rfl⟩
theorem Rep.flat {B B' : Hp} {v : V} {d : D} (h : d.flat = true) (r : Rep K B v d) : Rep K B' v d := by
  cases r with
  | non => exact .non
  | bl b => exact .bl b
  | int i => exact .int i
  | str x => exact .str x
  | _ => cases h
/-- a scalar is reckoned while lists of one's own are read -/
theorem e_bor (h : PE X e (rdE K w' W da .z)) (hw : fzB w w' = true := by rfl) : PE X e (rdE K w W (dflat da) .z) := PE_weak h fun σ H Q ⟨B, env, fp, R, h⟩ => by
  obtain ⟨fs, fp', R', _, _⟩ := R.freeze (fzB_ok hw)
  refine ⟨_, env, fp', R', ?_⟩
  unfold dflat at h
  cases e : da env with
  | ok d =>
    rw [e] at h
    intro v H' B' f g r nd hf
    obtain ⟨hd, h⟩ := AfE.iff h
    exact h v H' B [] (Gr.unb R.s g) ⟨r.1.flat hd, rfl⟩ List.nodup_nil fun a ha => by cases ha
  | exc c gs =>
    rw [e] at h
    cases gs with
    | nil =>
      intro H' B' dct g r
      refine h H' B dct (Gr.unb R.s g) ?_
      rcases r with r | ⟨r, _⟩
      · exact .inl r
      · exact absurd rfl r
    | cons _ _ => exact h.elim
  | bad => rw [e] at h; exact h.elim
theorem t_bor (h : PT X e (rdT K w' W ta)) (hw : fzB w w' = true := by rfl) : PT X e (rdT K w W (tflat ta)) := PT_weak h fun σ H Q ⟨B, env, fp, R, h⟩ => by
  obtain ⟨fs, fp', R', _, _⟩ := R.freeze (fzB_ok hw)
  refine ⟨_, env, fp', R', ?_⟩
  unfold tflat at h
  cases e : ta env with
  | ok d =>
    rw [e] at h
    intro H' B' g
    exact h H' B (Gr.unb R.s g)
  | exc c gs =>
    rw [e] at h
    cases gs with
    | nil =>
      intro H' B' dct g r
      refine h H' B dct (Gr.unb R.s g) ?_
      rcases r with r | ⟨r, _⟩
      · exact .inl r
      · exact absurd rfl r
    | cons _ _ => exact h.elim
  | bad => rw [e] at h; exact h.elim

/-! ### operators -/
theorem rdE_op {r : R2} {f : D → D → Res D} (hd : OpD K r f k) : ∀ σ H Q, rdE K w W (d2 f da db) k σ H Q → tOp r (rdE K w W da .z) (rdE K w W db .z) σ H Q := fun σ H Q ⟨B, env, fp, R, h⟩ =>
  rdE_then R h fun d v H1 B1 _ g1 R1 r1 h1 => rdE_then R1 h1 fun d2 v2 H2 B2 _ g2 R2 r2 h2 => hd W v v2 d d2 B2 H2 σ Q R2.s (r1.mono g2.b) r2 h2
theorem e_op {op : Operator} {r : R2} {f : D → D → Res D} (ho : OpR X (binaryOp op) r) (hd : OpD K r f k) (ha : PE X a (rdE K w W da .z)) (hb : PE X b (rdE K w W db .z)) : PE X (.BinOp a op b pos) (rdE K w W (d2 f da db) k) :=
  PE_weak (pe_op ho ha hb) (rdE_op hd)
theorem e_cmp {op : CmpOp} {r : R2} {f : D → D → Res D} (ho : OpR X (compareOp op) r) (hd : OpD K r f .z) (ha : PE X a (rdE K w W da .z)) (hb : PE X b (rdE K w W db .z)) (hm : behindInMarks op b = false := by exact nomark _) :
    PE X (.Compare a [op] [b] pos) (rdE K w W (d2 f da db) .z) := PE_weak (pe_cmpR ho ha hb hm) (rdE_op hd)
theorem rdT_of {t : TE} (h : ∀ σ H Q, rdE K w W da .z σ H Q → t σ H Q) : ∀ σ H Q, rdT K w W (tVal da) σ H Q → tTest t σ H Q := fun σ H Q ⟨B, env, fp, R, hq⟩ => h σ H _ (rdE_thenT R hq fun d v H1 B1 _ g1 R1 r1 h1 => by
  cases r1 with
  | bl b => exact ⟨b, rfl, h1 H1 B1 (Gr.rf R1.s)⟩
  | _ => exact h1.elim)
theorem t_cmp {op : CmpOp} {r : R2} {f : D → D → Res D} (ho : OpR X (compareOp op) r) (hd : OpD K r f .z) (ha : PE X a (rdE K w W da .z)) (hb : PE X b (rdE K w W db .z)) (hm : behindInMarks op b = false := by exact nomark _) :
    PT X (.Compare a [op] [b] pos) (rdT K w W (tVal (d2 f da db))) := PT_weak (pt_cmpR ho ha hb hm) (rdT_of (rdE_op hd))
theorem rdE_chain {r r' : R2} {f f' : D → D → Res D} (hd : OpD K r f .z) (hd' : OpD K r' f' .z) : ∀ σ H Q, rdE K w W (dChain f f' da db dc') .z σ H Q → tChain r r' (rdE K w W da .z) (rdE K w W db .z) (rdE K w W dc' .z) σ H Q := fun σ H Q ⟨B, env, fp, R, h⟩ =>
  rdE_then R h fun d v H1 B1 _ g1 R1 r1 h1 => rdE_then R1 h1 fun d2 v2 H2 B2 _ g2 R2 r2 h2 => by
    refine hd W v v2 d d2 B2 H2 σ _ R2.s (r1.mono g2.b) r2 ?_
    cases e : f d d2 with
    | ok z =>
      rw [e] at h2
      intro v3 H3 B3 fs g3 r3 nd hf
      have h2' : AfE K W .z B2 σ H2 Q (chainK ((dc' env).bind fun u => f' d2 u) z) := h2
      cases r3.1 with
      | bl b =>
        refine ⟨b, rfl, ?_⟩
        cases b with
        | true =>
          rw [if_pos rfl]
          exact rdE_then (R2.gr g3) (AfE.gr g3 h2') fun d4 v4 H4 B4 _ g4 R4 r4 h4 => hd' W v2 v4 d2 d4 B4 H4 σ Q R4.s (r2.mono (g3.tr g4).b) r4 h4
        | false =>
          rw [if_neg Bool.false_ne_true]
          exact AfE.val g3.s (AfE.gr g3 h2') (.bl false)
      | _ => exact h2'.elim
    | exc c fs => rw [e] at h2; exact h2
    | bad => rw [e] at h2; exact h2
theorem e_chain {op op' : CmpOp} {r r' : R2} {f f' : D → D → Res D} (ho : OpR X (compareOp op) r) (hd : OpD K r f .z) (ho' : OpR X (compareOp op') r') (hd' : OpD K r' f' .z) (ha : PE X a (rdE K w W da .z)) (hb : PE X b (rdE K w W db .z)) (hc : PE X c (rdE K w W dc' .z))
    (hm : lastMarks [op, op'] [b, c] = false := by with_unfolding_all rfl) : PE X (.Compare a [op, op'] [b, c] pos) (rdE K w W (dChain f f' da db dc') .z) := PE_weak (pe_chain ho ho' ha hb hc hm) (rdE_chain hd hd')
theorem t_chain {op op' : CmpOp} {r r' : R2} {f f' : D → D → Res D} (ho : OpR X (compareOp op) r) (hd : OpD K r f .z) (ho' : OpR X (compareOp op') r') (hd' : OpD K r' f' .z) (ha : PE X a (rdE K w W da .z)) (hb : PE X b (rdE K w W db .z)) (hc : PE X c (rdE K w W dc' .z))
    (hm : lastMarks [op, op'] [b, c] = false := by with_unfolding_all rfl) : PT X (.Compare a [op, op'] [b, c] pos) (rdT K w W (tVal (dChain f f' da db dc'))) := PT_weak (pt_chain ho ho' ha hb hc hm) (rdT_of (rdE_chain hd hd'))
theorem e_neg (ha : PE X a (rdE K w W da .z)) : PE X (.UnaryOp .USub a pos) (rdE K w W (d1 oNeg da) .z) := PE_weak (pe_un un_neg ha) fun σ H Q ⟨B, env, fp, R, h⟩ =>
  rdE_then R h fun d v H1 B1 _ g1 R1 r1 h1 => by
    cases r1 with
    | int i => exact ⟨i, rfl, AfE.val R1.s h1 (.int _)⟩
    | _ => exact h1.elim

/-! ### tests -/
theorem Rep.tru {B H : Hp} (s : Ex B H) {v : V} {d : D} {c : Bool} (r : Rep K B v d) (h : truD d = .ok c) : TruV K v H c := by
  have ie : ∀ {vs : List V} {ds : List D}, Reps K B vs ds → (!ds.isEmpty) = !vs.isEmpty := fun r => by cases r <;> rfl
  cases r with
  | non => injection h with h; exact h.symm
  | bl b => injection h with h; exact h.symm
  | int i => injection h with h; exact h.symm
  | str x =>
    have h' : (if x.length ≤ 16777216 then Res.ok ((x.length : Int) != 0) else .bad) = Res.ok c := h
    by_cases q : x.length ≤ 16777216
    · rw [if_pos q] at h'
      injection h' with h'
      exact ⟨sz q, h'.symm⟩
    · rw [if_neg q] at h'
      cases h'
  | lst hp rs => injection h with h; exact .inl ⟨_, SqL.of (s _ _ hp), by rw [← h, ie rs]⟩
  | scr hp rs => injection h with h; exact .inl ⟨_, s.sl hp, by rw [← h, ie rs]⟩
  | tup hp rs => injection h with h; exact .inr (.inl ⟨_, s.st hp, by rw [← h, ie rs]⟩)
  | ins _ _ => cases h
  | exn => cases h
theorem truD_noexc (d : D) : (∃ b, truD d = .ok b) ∨ truD d = .bad := by
  cases d with
  | str x =>
    by_cases q : x.length ≤ 16777216
    · exact .inl ⟨_, if_pos q⟩
    · exact .inr (if_neg q)
  | ins _ _ => exact .inr rfl
  | exn _ _ => exact .inr rfl
  | _ => exact .inl ⟨_, rfl⟩
theorem t_tru (ha : PE X a (rdE K w W da .z)) (hK : X.K = K := by rfl) (he : ∀ whole, isTrue a X.env whole = (do let v ← whole; standAt a.pos; holding [v] (truthy v)) := by intro _; rfl) : PT X a (rdT K w W (tTru da)) :=
  PT_weak (pt_truth ha he) fun σ H Q ⟨B, env, fp, R, h⟩ => rdE_thenT R h fun d v H1 B1 _ g1 R1 r1 h1 => by
    subst hK
    rcases truD_noexc d with ⟨b, e⟩ | e
    · rw [e] at h1
      exact ⟨b, r1.tru R1.s e, h1 H1 B1 (Gr.rf R1.s)⟩
    · rw [e] at h1
      exact h1.elim
theorem t_not (ha : PT X a (rdT K w W ta)) : PT X (.UnaryOp .Not a pos) (rdT K w W (Fz.tNot ta)) := PT_weak (pt_not ha) fun σ H Q ⟨B, env, fp, R, h⟩ =>
  rdT_thenT R h fun d H1 B1 _ g1 R1 h1 => h1 H1 B1 (Gr.rf R1.s)
variable {rest : List Expr}
theorem w_and1 (ha : PT X a (rdT K w W ta)) : PW X (.BoolOp .And [a] pos) (rdT K w W ta) := pw_and1 ha
theorem w_or1 (ha : PT X a (rdT K w W ta)) : PW X (.BoolOp .Or [a] pos) (rdT K w W ta) := pw_or1 ha
theorem w_and (ha : PT X a (rdT K w W ta)) (hb : PW X (.BoolOp .And (b :: rest) pos) (rdT K w W tb)) : PW X (.BoolOp .And (a :: b :: rest) pos) (rdT K w W (Fz.tAnd ta tb)) := PW_weak (pw_and ha hb) fun σ H Q ⟨B, env, fp, R, h⟩ =>
  rdT_thenT R h fun d H1 B1 _ g1 R1 h1 => by
    cases d with
    | true => rw [if_pos rfl]; exact ⟨B1, env, fp, R1, h1⟩
    | false => rw [if_neg Bool.false_ne_true]; exact h1 H1 B1 (Gr.rf R1.s)
theorem w_or (ha : PT X a (rdT K w W ta)) (hb : PW X (.BoolOp .Or (b :: rest) pos) (rdT K w W tb)) : PW X (.BoolOp .Or (a :: b :: rest) pos) (rdT K w W (Fz.tOr ta tb)) := PW_weak (pw_or ha hb) fun σ H Q ⟨B, env, fp, R, h⟩ =>
  rdT_thenT R h fun d H1 B1 _ g1 R1 h1 => by
    cases d with
    | true => rw [if_pos rfl]; exact h1 H1 B1 (Gr.rf R1.s)
    | false => rw [if_neg Bool.false_ne_true]; exact ⟨B1, env, fp, R1, h1⟩
/-- and, or, not of truths, as values -/
theorem e_one {op : BoolOp} (ha : PE X a (rdE K w W da .z)) : PE X (.BoolOp op [a] pos) (rdE K w W da .z) := pe_one ha
theorem e_and (ha : PE X a (rdE K w W da .z)) (hb : PE X (.BoolOp .And (b :: rest) pos) (rdE K w W db .z)) : PE X (.BoolOp .And (a :: b :: rest) pos) (rdE K w W (dAnd da db) .z) := PE_weak (pe_and ha hb) fun σ H Q ⟨B, env, fp, R, h⟩ =>
  rdE_then R h fun d v H1 B1 _ g1 R1 r1 h1 => by
    cases r1 with
    | bl c =>
      refine ⟨c, rfl, ?_⟩
      cases c with
      | true => rw [if_pos rfl]; exact ⟨B1, env, fp, R1, h1⟩
      | false => rw [if_neg Bool.false_ne_true]; exact AfE.val R1.s h1 (.bl false)
    | _ => exact h1.elim
theorem e_or (ha : PE X a (rdE K w W da .z)) (hb : PE X (.BoolOp .Or (b :: rest) pos) (rdE K w W db .z)) : PE X (.BoolOp .Or (a :: b :: rest) pos) (rdE K w W (dOr da db) .z) := PE_weak (pe_or ha hb) fun σ H Q ⟨B, env, fp, R, h⟩ =>
  rdE_then R h fun d v H1 B1 _ g1 R1 r1 h1 => by
    cases r1 with
    | bl c =>
      refine ⟨c, rfl, ?_⟩
      cases c with
      | true => rw [if_pos rfl]; exact AfE.val R1.s h1 (.bl true)
      | false => rw [if_neg Bool.false_ne_true]; exact ⟨B1, env, fp, R1, h1⟩
    | _ => exact h1.elim
theorem e_not (ha : PE X a (rdE K w W da .z)) : PE X (.UnaryOp .Not a pos) (rdE K w W (d1 oNot da) .z) := PE_weak (pe_not ha) fun σ H Q ⟨B, env, fp, R, h⟩ =>
  rdE_then R h fun d v H1 B1 _ g1 R1 r1 h1 => by
    cases r1 with
    | bl c => exact ⟨c, rfl, AfE.val R1.s h1 (.bl _)⟩
    | _ => exact h1.elim
theorem e_if (hc : PT X c (rdT K w W ta)) (ha : PE X a (rdE K w W da k)) (hb : PE X b (rdE K w W db k)) : PE X (.IfExp c a b pos) (rdE K w W (dIf ta da db) k) := PE_weak (pe_ifExp hc ha hb) fun σ H Q ⟨B, env, fp, R, h⟩ =>
  rdT_then R h fun d H1 B1 _ g1 R1 h1 => by
    cases d with
    | true => rw [if_pos rfl]; exact ⟨B1, env, fp, R1, h1⟩
    | false => rw [if_neg Bool.false_ne_true]; exact ⟨B1, env, fp, R1, h1⟩

/-! ### arguments, displays -/
theorem a_nil : PA X [] (rdA K w W dnil) := PA_weak pa_nil fun σ H Q ⟨B, env, fp, R, h⟩ => h [] H B (Gr.rf R.s) .nil
theorem a_cons {es : List Expr} {ds : Env → Res (List D)} (ha : PE X e (rdE K w W da .z)) (hr : PA X es (rdA K w W ds)) (hs : starEach (e :: es) X.env = (false, eval e X.env) :: starEach es X.env := by rfl) : PA X (e :: es) (rdA K w W (dcons da ds)) :=
  PA_weak (pa_cons ha hr hs) fun σ H Q ⟨B, env, fp, R, h⟩ => rdE_thenA R h fun d v H1 B1 _ g1 R1 r1 h1 => rdA_thenA R1 h1 fun es vs H2 B2 _ g2 R2 r2 h2 => h2 (v :: vs) H2 B2 (Gr.rf R2.s) (.cons (r1.mono g2.b) r2)
def oTup (ds : List D) : Res D := if ds.length ≤ 16777216 then .ok (.tup ds) else .bad
def oLst (ds : List D) : Res D := if ds.length ≤ 16777216 then .ok (.lst ds) else .bad
variable {es : List Expr} {ds : Env → Res (List D)}
theorem e_tup {x1 : Nat} (h : PA X es (rdA K w W ds)) : PE X (.Tuple es x1 pos) (rdE K w W (dcall oTup ds) .z) := PE_weak (pe_tup h) fun σ H Q ⟨B, env, fp, R, h⟩ =>
  rdA_then R h fun es vs H1 B1 _ g1 R1 r1 h1 => by
    obtain ⟨hz, h1⟩ := AfE.iff h1
    exact ⟨sz (by rw [r1.length]; exact hz), fun p hp => AfE.newB R1.s h1 hp (.tup (SqT.of upd_same) (r1.mono (Ex.new (R1.s.back hp))))⟩
theorem e_lst (h : PA X es (rdA K w W ds)) : PE X (.List es pos) (rdE K w W (dcall oLst ds) (.l .z)) := PE_weak (pe_lst h) fun σ H Q ⟨B, env, fp, R, h⟩ =>
  rdA_then R h fun es vs H1 B1 _ g1 R1 r1 h1 => by
    obtain ⟨hz, h1⟩ := AfE.iff h1
    exact ⟨sz (by rw [r1.length]; exact hz), fun p hp => AfE.newL R1.s h1 hp r1⟩
end

/-! ### subscripts, fields -/
section
variable {X : Cx} {K : Fr} {W : WX} {w w' : List Ow} {k : Ow} {e a b c : Expr} {da db dc' : Env → Res D} {pos p2 : Pos}
theorem Reps.atI {B : Hp} {vs : List V} {ds : List D} {i : Int} {d : D} (r : Reps K B vs ds) (h : L2.atI ds i = some d) : ∃ v, L2.atI vs i = some v ∧ Rep K B v d := by
  unfold L2.atI at h ⊢
  rw [r.length]
  cases e : L2.ixN ds.length i with
  | none => rw [e] at h; cases h
  | some j =>
    rw [e] at h
    exact r.get h
theorem AfE.opt {B H : Hp} {σ : L2.St} {Q : VK} {o : Option D} (h : AfE K W k B σ H Q (match o with | some d => .ok d | none => .bad)) : ∃ d, o = some d ∧ AfE K W k B σ H Q (.ok d) := by
  cases o with
  | some d => exact ⟨d, rfl, h⟩
  | none => exact h.elim
theorem od_ix : OpD K (rIx K) oIx .z := by
  intro W x y a b B H σ Q s rx ry h
  cases rx with
  | @lst p xs ds hp rs =>
    cases ry with
    | int i =>
      obtain ⟨d, hd, h⟩ := AfE.opt (show AfE K W .z B σ H Q (match atI ds i with | some d => .ok d | none => .bad) from h)
      obtain ⟨v, hv, rv⟩ := rs.atI hd
      exact .inl ⟨p, xs, i, v, rfl, rfl, SqL.of (s _ _ hp), hv, AfE.val s h rv⟩
    | _ => exact h.elim
  | @scr p xs ds hp rs =>
    cases ry with
    | int i =>
      obtain ⟨d, hd, h⟩ := AfE.opt (show AfE K W .z B σ H Q (match atI ds i with | some d => .ok d | none => .bad) from h)
      obtain ⟨v, hv, rv⟩ := rs.atI hd
      exact .inl ⟨p, xs, i, v, rfl, rfl, s.sl hp, hv, AfE.val s h rv⟩
    | _ => exact h.elim
  | @tup p xs ds hp rs =>
    cases ry with
    | int i =>
      obtain ⟨d, hd, h⟩ := AfE.opt (show AfE K W .z B σ H Q (match atI ds i with | some d => .ok d | none => .bad) from h)
      obtain ⟨v, hv, rv⟩ := rs.atI hd
      exact .inr (.inl ⟨p, xs, i, v, rfl, rfl, s.st hp, hv, AfE.val s h rv⟩)
    | _ => exact h.elim
  | str z =>
    cases ry with
    | int i =>
      obtain ⟨hz, h⟩ := AfE.iff (show AfE K W .z B σ H Q (if z.length ≤ 16777216 then _ else _) from h)
      cases e : atI z.cps.toList i with
      | none => rw [e] at h; exact h.elim
      | some c =>
        rw [e] at h
        exact .inr (.inr ⟨z, i, c, rfl, rfl, sz hz, e, AfE.val s h (.str _)⟩)
    | _ => exact h.elim
  | _ => exact h.elim
theorem e_ix (ha : PE X a (rdE K w W da .z)) (hb : PE X b (rdE K w W db .z)) (hs : PlainIx b := by exact fun _ _ => rfl) (hK : X.K = K := by rfl) : PE X (.Subscript a b pos) (rdE K w W (d2 oIx da db) .z) := by
  subst hK
  exact PE_weak (pe_ix ix_seq ha hb hs) (rdE_op od_ix)
def FldOk (K : Fr) (cs : List Str) (f : Str) : Prop := ∀ c ∈ cs, Cls K (He.ga K c) ∧ NoAttr K (He.ga K c) f
theorem e_fld {f : Str} {cs : List Str} (ha : PE X a (rdE K w W da .z)) (hc : FldOk K cs f) (hb : attributeBase a f X.env (eval a X.env) = eval a X.env := by rfl) (hK : X.K = K := by rfl) :
    PE X (.Attribute a f pos) (rdE K w W (d1 (oFld cs f) da) .z) := by
  subst hK
  refine PE_weak (pe_fld ha hb) fun σ H Q ⟨B, env, fp, R, h⟩ => rdE_then R h fun d v H1 B1 ed g1 R1 r1 h1 => ?_
  cases r1 with
  | @ins x dx c fvs fs hx rf =>
    obtain ⟨hm, h1⟩ := AfE.iff (show AfE X.K W .z B1 σ H1 Q (if cs.contains c = true then (match fs.lookup f with | some d => .ok d | none => .bad) else .bad) from h1)
    obtain ⟨d, hd, h1⟩ := AfE.opt h1
    obtain ⟨u, hu, ru⟩ := rf.lookup hd
    obtain ⟨k1, k2⟩ := hc c (by simpa using hm)
    exact ⟨x, He.ga X.K c, dx, fvs, u, rfl, R1.s _ _ hx, k1, k2, hu, AfE.val R1.s h1 ru⟩
  | _ => exact h1.elim
end
end Fz
set_option Elab.async false
set_option linter.all false
set_option maxRecDepth 100000
set_option maxHeartbeats 4000000
/-! Functionalization: calls. -/
namespace Fz
open PySem PySem.Spec PyProof.Rows L2

/-! ### built-in functions, on data -/
def ints? : List D → Option (List Int)
  | [] => some []
  | .int i :: r => (ints? r).map (i :: ·)
  | _ :: _ => none
theorem ints?_map (ns : List Int) : ints? (ns.map D.int) = some ns := by
  induction ns with
  | nil => rfl
  | cons n r ih =>
    show (ints? (r.map D.int)).map (n :: ·) = _
    rw [ih] <;> rfl
theorem ints?_some : ∀ {ds : List D} {ns : List Int}, ints? ds = some ns → ds = ns.map D.int
  | [], ns, h => by cases h; rfl
  | .int i :: r, ns, h => by
    have h' : (ints? r).map (i :: ·) = some ns := h
    obtain ⟨ms, h1, h2⟩ := Option.map_eq_some_iff.mp h'
    subst h2
    rw [ints?_some h1] <;> rfl
  | .non :: _, _, h => by cases h
  | .bl _ :: _, _, h => by cases h
  | .str _ :: _, _, h => by cases h
  | .lst _ :: _, _, h => by cases h
  | .scr _ :: _, _, h => by cases h
  | .tup _ :: _, _, h => by cases h
  | .ins _ _ :: _, _, h => by cases h
  | .exn _ _ :: _, _, h => by cases h
def seq? : D → Option (List D)
  | .lst ds => some ds
  | .scr ds => some ds
  | .tup ds => some ds
  | _ => none
def bLen : List D → Res D
  | [.str x] => if x.length ≤ 16777216 then .ok (.int (x.length : Nat)) else .bad
  | [d] => match seq? d with | some ds => .ok (.int (ds.length : Nat)) | none => .bad
  | _ => .bad
def bAbs : List D → Res D
  | [.int i] => .ok (.int (if i < 0 then -i else i))
  | _ => .bad
def maxZ : List Int → Int
  | [] => 0
  | n :: r => r.foldl max n
def minZ : List Int → Int
  | [] => 0
  | n :: r => r.foldl min n
def bMax : List D → Res D
  | [.int i, .int j] => .ok (.int (if j > i then j else i))
  | [d] => match seq? d with
    | some ds => (match ints? ds with | some (n :: r) => .ok (.int (maxZ (n :: r))) | _ => .bad)
    | none => .bad
  | _ => .bad
def bMin : List D → Res D
  | [.int i, .int j] => .ok (.int (if j < i then j else i))
  | [d] => match seq? d with
    | some ds => (match ints? ds with | some (n :: r) => .ok (.int (minZ (n :: r))) | _ => .bad)
    | none => .bad
  | _ => .bad
def bSum : List D → Res D
  | [.lst ds] => match ints? ds with | some ns => .ok (.int ns.sum) | none => .bad
  | _ => .bad
def bInt : List D → Res D
  | [.int i] => .ok (.int i)
  | [.bl b] => .ok (.int (if b then 1 else 0))
  | _ => .bad
def bTup : List D → Res D
  | [d] => match seq? d with | some ds => .ok (.tup ds) | none => .bad
  | _ => .bad
def bLst : List D → Res D
  | [d] => match seq? d with | some ds => .ok (.lst ds) | none => .bad
  | _ => .bad
def bGcd : List D → Res D
  | [.int a, .int b] => .ok (.int ((Nat.gcd a.natAbs b.natAbs : Nat) : Int))
  | _ => .bad
/-- isinstance against a built-in class -/
inductive Ty where
  | int | bool | tuple | list | str
def isTy : Ty → D → Bool
  | .int, .int _ => true
  | .int, .bl _ => true
  | .bool, .bl _ => true
  | .tuple, .tup _ => true
  | .list, .lst _ => true
  | .list, .scr _ => true
  | .str, .str _ => true
  | _, _ => false
def plainD : D → Bool
  | .ins _ _ => false
  | .exn _ _ => false
  | _ => true
def bIsi (t : Ty) : List D → Res D
  | [d] => if plainD d = true then .ok (.bl (isTy t d)) else .bad
  | _ => .bad

def CallD (K : Fr) (r : List V → Hp → VK → Prop) (f : List D → Res D) (k : Ow) : Prop := ∀ (W : WX) (vs : List V) (ds : List D) (B H : Hp) (σ : L2.St) (Q : VK), Ex B H → Reps K B vs ds → AfE K W k B σ H Q (f ds) → r vs H Q
section
variable {K : Fr} {B H : Hp}
theorem Rep.seq (s : Ex B H) {v : V} {d : D} {ds : List D} (r : Rep K B v d) (h : seq? d = some ds) : ∃ p vs, v = .ref p ∧ (SqL K H p vs ∨ SqT K H p vs) ∧ Reps K B vs ds := by
  cases r with
  | lst hp rs => cases h; exact ⟨_, _, rfl, .inl (SqL.of (s _ _ hp)), rs⟩
  | scr hp rs => cases h; exact ⟨_, _, rfl, .inl (s.sl hp), rs⟩
  | tup hp rs => cases h; exact ⟨_, _, rfl, .inr (s.st hp), rs⟩
  | _ => cases h
theorem AfE.sq {W : WX} {k : Ow} {σ : L2.St} {Q : VK} {o : Option (List D)} {g : List D → Res D} (h : AfE K W k B σ H Q (match o with | some ds => g ds | none => .bad)) : ∃ ds, o = some ds ∧ AfE K W k B σ H Q (g ds) := by
  cases o with
  | some ds => exact ⟨ds, rfl, h⟩
  | none => exact h.elim
theorem cd_len : CallD K (fun xs H Q => ∃ x n, xs = [x] ∧ LenV K x H n ∧ Q (.int n) H) bLen .z := by
  intro W vs ds B H σ Q s rs h
  cases rs with
  | nil => exact h.elim
  | cons r rs =>
    cases rs with
    | cons _ _ => cases r <;> exact h.elim
    | nil =>
      cases r with
      | str x =>
        obtain ⟨hz, h⟩ := AfE.iff (show AfE K W .z B σ H Q (if x.length ≤ 16777216 then _ else _) from h)
        exact ⟨_, _, rfl, ⟨sz hz, rfl⟩, AfE.val s h (.int _)⟩
      | lst hp rs => exact ⟨_, _, rfl, .inl ⟨_, SqL.of (s _ _ hp), rfl⟩, by rw [rs.length]; exact AfE.val s h (.int _)⟩
      | scr hp rs => exact ⟨_, _, rfl, .inl ⟨_, s.sl hp, rfl⟩, by rw [rs.length]; exact AfE.val s h (.int _)⟩
      | tup hp rs => exact ⟨_, _, rfl, .inr ⟨_, s.st hp, rfl⟩, by rw [rs.length]; exact AfE.val s h (.int _)⟩
      | _ => exact h.elim
theorem cd_abs : CallD K (fun xs H Q => ∃ i, xs = [.int i] ∧ Q (.int (if i < 0 then -i else i)) H) bAbs .z := by
  intro W vs ds B H σ Q s rs h
  cases rs with
  | nil => exact h.elim
  | cons r rs =>
    cases rs with
    | cons _ _ => cases r <;> exact h.elim
    | nil =>
      cases r with
      | int i => exact ⟨i, rfl, AfE.val s h (.int _)⟩
      | _ => exact h.elim
theorem cd_int : CallD K (fun xs H Q => (∃ i, xs = [.int i] ∧ Q (.int i) H) ∨ ∃ k, xs = [.bl k] ∧ Q (.int (if k then 1 else 0)) H) bInt .z := by
  intro W vs ds B H σ Q s rs h
  cases rs with
  | nil => exact h.elim
  | cons r rs =>
    cases rs with
    | cons _ _ => cases r <;> exact h.elim
    | nil =>
      cases r with
      | int i => exact .inl ⟨i, rfl, AfE.val s h (.int _)⟩
      | bl b => exact .inr ⟨b, rfl, AfE.val s h (.int _)⟩
      | _ => exact h.elim
theorem cd_gcd : CallD K rGcd bGcd .z := by
  intro W vs ds B H σ Q s rs h
  cases rs with
  | nil => exact h.elim
  | cons r rs =>
    cases rs with
    | nil => cases r <;> exact h.elim
    | cons r2 rs =>
      cases rs with
      | cons _ _ => cases r <;> first | exact h.elim | (cases r2 <;> exact h.elim)
      | nil =>
        cases r with
        | int i =>
          cases r2 with
          | int j => exact ⟨i, j, rfl, AfE.val s h (.int _)⟩
          | _ => exact h.elim
        | _ => exact h.elim
theorem cd_lst : CallD K (fun xs H Q => ∃ p ys, xs = [.ref p] ∧ (SqL K H p ys ∨ SqT K H p ys) ∧ ∀ l, H l = none → Q (.ref l) (upd H l (.lst ys))) bLst (.l .z) := by
  intro W vs ds B H σ Q s rs h
  cases rs with
  | nil => exact h.elim
  | cons r rs =>
    cases rs with
    | cons _ _ => exact h.elim
    | nil =>
      rename_i v d
      obtain ⟨ds, hd, h⟩ := AfE.sq (show AfE K W (.l .z) B σ H Q (match seq? d with | some ds => .ok (.lst ds) | none => .bad) from h)
      obtain ⟨p, vs, rfl, hp, rs⟩ := r.seq s hd
      exact ⟨p, vs, rfl, hp, fun l hl => AfE.newL s h hl rs⟩
theorem cd_tup : CallD K (fun xs H Q => ∃ p ys, xs = [.ref p] ∧ ((SqL K H p ys ∧ ∀ l, H l = none → Q (.ref l) (upd H l (.tup ys))) ∨ (SqT K H p ys ∧ Q (.ref p) H))) bTup .z := by
  intro W vs ds B H σ Q s rs h
  cases rs with
  | nil => exact h.elim
  | cons r rs =>
    cases rs with
    | cons _ _ => exact h.elim
    | nil =>
      rename_i v d
      obtain ⟨ds, hd, h⟩ := AfE.sq (show AfE K W .z B σ H Q (match seq? d with | some ds => .ok (.tup ds) | none => .bad) from h)
      cases r with
      | lst hp rs => cases hd; exact ⟨_, _, rfl, .inl ⟨SqL.of (s _ _ hp), fun l hl => AfE.newB s h hl (.tup (SqT.of upd_same) (rs.mono (Ex.new (s.back hl))))⟩⟩
      | scr hp rs => cases hd; exact ⟨_, _, rfl, .inl ⟨s.sl hp, fun l hl => AfE.newB s h hl (.tup (SqT.of upd_same) (rs.mono (Ex.new (s.back hl))))⟩⟩
      | tup hp rs => cases hd; exact ⟨_, _, rfl, .inr ⟨s.st hp, AfE.val s h (.tup hp rs)⟩⟩
      | _ => cases hd
/-- the greatest and the least number -/
theorem foldl_max_mem : ∀ (r : List Int) (n : Int), r.foldl max n = n ∨ r.foldl max n ∈ r
  | [], n => .inl rfl
  | m :: r, n => by
    show r.foldl max (max n m) = n ∨ r.foldl max (max n m) ∈ m :: r
    rcases foldl_max_mem r (max n m) with h | h
    · rw [h]
      by_cases q : n ≤ m
      · rw [Int.max_eq_right q]; exact .inr List.mem_cons_self
      · rw [Int.max_eq_left (by omega)]; exact .inl rfl
    · exact .inr (List.mem_cons_of_mem _ h)
theorem foldl_max_ge : ∀ (r : List Int) (n : Int), n ≤ r.foldl max n ∧ ∀ m ∈ r, m ≤ r.foldl max n
  | [], n => ⟨Int.le_refl _, fun m h => by cases h⟩
  | k :: r, n => by
    obtain ⟨h1, h2⟩ := foldl_max_ge r (max n k)
    refine ⟨Int.le_trans (Int.le_max_left n k) h1, fun m hm => ?_⟩
    rcases List.mem_cons.mp hm with q | q
    · rw [q]; exact Int.le_trans (Int.le_max_right n k) h1
    · exact h2 m q
theorem foldl_min_mem : ∀ (r : List Int) (n : Int), r.foldl min n = n ∨ r.foldl min n ∈ r
  | [], n => .inl rfl
  | m :: r, n => by
    show r.foldl min (min n m) = n ∨ r.foldl min (min n m) ∈ m :: r
    rcases foldl_min_mem r (min n m) with h | h
    · rw [h]
      by_cases q : n ≤ m
      · rw [Int.min_eq_left q]; exact .inl rfl
      · rw [Int.min_eq_right (by omega)]; exact .inr List.mem_cons_self
    · exact .inr (List.mem_cons_of_mem _ h)
theorem foldl_min_le : ∀ (r : List Int) (n : Int), r.foldl min n ≤ n ∧ ∀ m ∈ r, r.foldl min n ≤ m
  | [], n => ⟨Int.le_refl _, fun m h => by cases h⟩
  | k :: r, n => by
    obtain ⟨h1, h2⟩ := foldl_min_le r (min n k)
    refine ⟨Int.le_trans h1 (Int.min_le_left n k), fun m hm => ?_⟩
    rcases List.mem_cons.mp hm with q | q
    · rw [q]; exact Int.le_trans h1 (Int.min_le_right n k)
    · exact h2 m q
theorem maxZ_mem {n : Int} {r : List Int} : maxZ (n :: r) ∈ n :: r := (foldl_max_mem r n).elim (fun h => by show r.foldl max n ∈ _; rw [h]; exact List.mem_cons_self) fun h => List.mem_cons_of_mem _ h
theorem maxZ_ge {n : Int} {r : List Int} {m : Int} (h : m ∈ n :: r) : m ≤ maxZ (n :: r) := by
  rcases List.mem_cons.mp h with q | q
  · rw [q]; exact (foldl_max_ge r n).1
  · exact (foldl_max_ge r n).2 m q
theorem minZ_mem {n : Int} {r : List Int} : minZ (n :: r) ∈ n :: r := (foldl_min_mem r n).elim (fun h => by show r.foldl min n ∈ _; rw [h]; exact List.mem_cons_self) fun h => List.mem_cons_of_mem _ h
theorem minZ_le {n : Int} {r : List Int} {m : Int} (h : m ∈ n :: r) : minZ (n :: r) ≤ m := by
  rcases List.mem_cons.mp h with q | q
  · rw [q]; exact (foldl_min_le r n).1
  · exact (foldl_min_le r n).2 m q
end

/-! ### max, min of a tuple of ints -/
section
variable {prog : Program} {w : World} {A : Around} {E : Value → Shared → Prop} {s : Shared} {l : Addr} {xs : Array (Int × Tok)}
theorem iter_intTup {Q : Value → Shared → Prop} (hl : s.heap.IsTuple l (intItems xs))
    (h : ∀ s₂ : Shared, s₂ = { s with heap := s.heap.push { cls := .type "tuple_iterator", data := .fields #[.ref l, .int 0 0] } } →
      (s₂.heap.IsTupleIter s.heap.objs.size l 0 ∧ s₂.heap.IsTuple l (intItems xs)) → (∀ b ∈ [s.heap.objs.size, l], b < s₂.heap.objs.size) → l ≠ s.heap.objs.size → Q (.ref s.heap.objs.size) s₂) :
    wpAny (model prog w) A (pyIter (.ref l)) Q E s := by
  have hlt : l < s.heap.objs.size := by obtain ⟨_, e, _⟩ := hl; exact Heap.lt_size e
  refine wpAny_pyIter_tuple hl (h _ rfl ⟨⟨_, Heap.get?_push_size _ rfl, rfl, rfl⟩, hl.at fun o e => Heap.get?_push_of_some _ e⟩ (fun b hb => ?_) (Nat.ne_of_lt hlt))
  show b < (s.heap.push _).objs.size
  rw [Heap.size_push]
  rcases List.mem_cons.mp hb with rfl | hb
  · exact Nat.lt_succ_self _
  · rcases List.mem_cons.mp hb with rfl | hb
    · exact Nat.lt_succ_of_lt hlt
    · cases hb
theorem old_keptT {h' : Heap} (hk : ∀ b o, b ∉ [s.heap.objs.size] → (s.heap.push { cls := .type "tuple_iterator", data := .fields #[.ref l, .int 0 0] }).get? b = some o → h'.get? b = some o) :
    ∀ b o, s.heap.get? b = some o → h'.get? b = some o := fun b o e => by
  refine hk b o (fun hm => ?_) (Heap.get?_push_of_some _ e)
  rcases List.mem_cons.mp hm with e1 | hm
  · exact absurd (e1 ▸ Heap.lt_size e) (Nat.lt_irrefl _)
  · cases hm
theorem max_intTup {Q : Value → Shared → Prop} (hh : A.handled = none) (hl : s.heap.IsTuple l (intItems xs)) (hne : 0 < xs.size)
    (h : ∀ v h' tk, (intItems xs)[argBest (fun i j => decide (numAt xs i > numAt xs j)) (xs.size - 1)]? = some v → (∀ b o, s.heap.get? b = some o → h'.get? b = some o) → Q v { s with heap := h', toks := tk }) :
    wpAny (model prog w) A (call (.builtin "max") [.ref l]) Q E s := by
  refine call_max_walk (iter_intTup hl fun s₂ e st hfp hlI => ?_)
  subst e
  refine ⟨_, _, _, _, _, _, _, rfl, Walks.tuple (A := A.in1) hh _ l hlI (intItems xs), st, hfp, by simpa [intItems] using hne, CmpOf.ints_gt (numAt xs) (fun _ _ => intItems_at), fun v h' tk hP hk => ?_⟩
  exact h v h' tk (by simpa [intItems] using hP) (old_keptT hk)
theorem min_intTup {Q : Value → Shared → Prop} (hh : A.handled = none) (hl : s.heap.IsTuple l (intItems xs)) (hne : 0 < xs.size)
    (h : ∀ v h' tk, (intItems xs)[argBest (fun i j => decide (numAt xs i < numAt xs j)) (xs.size - 1)]? = some v → (∀ b o, s.heap.get? b = some o → h'.get? b = some o) → Q v { s with heap := h', toks := tk }) :
    wpAny (model prog w) A (call (.builtin "min") [.ref l]) Q E s := by
  refine call_min_walk (iter_intTup hl fun s₂ e st hfp hlI => ?_)
  subst e
  refine ⟨_, _, _, _, _, _, _, rfl, Walks.tuple (A := A.in1) hh _ l hlI (intItems xs), st, hfp, by simpa [intItems] using hne, CmpOf.ints_lt (numAt xs) (fun _ _ => intItems_at), fun v h' tk hP hk => ?_⟩
  exact h v h' tk (by simpa [intItems] using hP) (old_keptT hk)
variable {its : List Value} {ns : List Int} {Q : Value → Shared → Prop}
theorem max_rawT (hh : A.handled = none) (hl : s.heap.IsTuple l its.toArray) (hi : IntsAre its ns) (hne : 0 < ns.length)
    (h : ∀ h' tk M t', (∀ b o, s.heap.get? b = some o → h'.get? b = some o) → M ∈ ns → (∀ a, a ∈ ns → a ≤ M) → Q (.int M t') { s with heap := h', toks := tk }) : wpAny (model prog w) A (call (.builtin "max") [.ref l]) Q E s := by
  obtain ⟨xs, e⟩ := hi.allInts.items
  have hn : numsOf (intItems xs).toList = ns := by rw [← e]; exact hi.numsOf
  rw [nums_intItems] at hn
  subst hn
  rw [e] at hl
  have hsz : 0 < xs.size := by simpa using hne
  refine max_intTup hh hl hsz fun v h' tk hv hk => ?_
  obtain ⟨t, rfl⟩ := intItems_at hv
  obtain ⟨h1, h2⟩ := argBest_gt (numAt xs) (xs.size - 1)
  refine h h' tk _ t hk ?_ fun a ha => ?_
  · rw [numAt_eq]; exact PySem.getD_mem (by rw [List.length_map, Array.length_toList]; omega)
  · obtain ⟨j, hj, rfl⟩ := mem_getD ha
    rw [List.length_map, Array.length_toList] at hj
    rw [← numAt_eq]; exact h2 j (by omega)
theorem min_rawT (hh : A.handled = none) (hl : s.heap.IsTuple l its.toArray) (hi : IntsAre its ns) (hne : 0 < ns.length)
    (h : ∀ h' tk M t', (∀ b o, s.heap.get? b = some o → h'.get? b = some o) → M ∈ ns → (∀ a, a ∈ ns → M ≤ a) → Q (.int M t') { s with heap := h', toks := tk }) : wpAny (model prog w) A (call (.builtin "min") [.ref l]) Q E s := by
  obtain ⟨xs, e⟩ := hi.allInts.items
  have hn : numsOf (intItems xs).toList = ns := by rw [← e]; exact hi.numsOf
  rw [nums_intItems] at hn
  subst hn
  rw [e] at hl
  have hsz : 0 < xs.size := by simpa using hne
  refine min_intTup hh hl hsz fun v h' tk hv hk => ?_
  obtain ⟨t, rfl⟩ := intItems_at hv
  obtain ⟨h1, h2⟩ := argBest_lt (numAt xs) (xs.size - 1)
  refine h h' tk _ t hk ?_ fun a ha => ?_
  · rw [numAt_eq]; exact PySem.getD_mem (by rw [List.length_map, Array.length_toList]; omega)
  · obtain ⟨j, hj, rfl⟩ := mem_getD ha
    rw [List.length_map, Array.length_toList] at hj
    rw [← numAt_eq]; exact h2 j (by omega)
end
section
variable {X : Cx} {K : Fr}
def rMaxT (K : Fr) : List V → Hp → VK → Prop := fun vs H Q => ∃ (a : Addr) (ns : List Int), vs = [V.ref a] ∧ SqT K H a (ns.map V.int) ∧ 0 < ns.length ∧ ∀ m, m ∈ ns → (∀ y, y ∈ ns → y ≤ m) → Q (.int m) H
def rMinT (K : Fr) : List V → Hp → VK → Prop := fun vs H Q => ∃ (a : Addr) (ns : List Int), vs = [V.ref a] ∧ SqT K H a (ns.map V.int) ∧ 0 < ns.length ∧ ∀ m, m ∈ ns → (∀ y, y ∈ ns → m ≤ y) → Q (.int m) H
theorem cr_maxT (hc : X.calm = true) : CallR X (.builtin "max") (rMaxT X.K) := by
  intro pins s σ H vs us Q I r h
  obtain ⟨a, ns, rfl, hs, hne, q⟩ := h
  obtain ⟨its, rv, hl, _⟩ := I.tuple hs
  rw [Vals.ref1 r]
  exact max_rawT (I.ok.hd hc) hl (Vals.ints rv) hne fun h' tk m t' hk h1 h2 => ⟨.int _, H, I.kept hk, ⟨_, rfl⟩, q m h1 h2⟩
theorem cr_minT (hc : X.calm = true) : CallR X (.builtin "min") (rMinT X.K) := by
  intro pins s σ H vs us Q I r h
  obtain ⟨a, ns, rfl, hs, hne, q⟩ := h
  obtain ⟨its, rv, hl, _⟩ := I.tuple hs
  rw [Vals.ref1 r]
  exact min_rawT (I.ok.hd hc) hl (Vals.ints rv) hne fun h' tk m t' hk h1 h2 => ⟨.int _, H, I.kept hk, ⟨_, rfl⟩, q m h1 h2⟩
theorem CallR.or {f : Value} {r r' : List V → Hp → VK → Prop} (h : CallR X f r) (h' : CallR X f r') : CallR X f (fun vs H Q => r vs H Q ∨ r' vs H Q) := by
  intro pins s σ H vs us Q I rr q
  rcases q with q | q
  · exact h pins s σ H vs us Q I rr q
  · exact h' pins s σ H vs us Q I rr q
abbrev rMax2 : List V → Hp → VK → Prop := fun xs H Q => ∃ i j, xs = [.int i, .int j] ∧ Q (.int (if j > i then j else i)) H
abbrev rMin2 : List V → Hp → VK → Prop := fun xs H Q => ∃ i j, xs = [.int i, .int j] ∧ Q (.int (if j < i then j else i)) H
def rMaxA (K : Fr) : List V → Hp → VK → Prop := fun vs H Q => rMax2 vs H Q ∨ rMax K vs H Q ∨ rMaxT K vs H Q
def rMinA (K : Fr) : List V → Hp → VK → Prop := fun vs H Q => rMin2 vs H Q ∨ rMin K vs H Q ∨ rMinT K vs H Q
theorem cr_maxA (hc : X.calm = true) : CallR X (.builtin "max") (rMaxA X.K) := CallR.or (call_max2 hc) (CallR.or (cr_max hc) (cr_maxT hc))
theorem cr_minA (hc : X.calm = true) : CallR X (.builtin "min") (rMinA X.K) := CallR.or (call_min2 hc) (CallR.or (cr_min hc) (cr_minT hc))
theorem AfE.ne {W : WX} {k : Ow} {B H : Hp} {σ : L2.St} {Q : VK} {o : Option (List Int)} {g : List Int → Res D} (h : AfE K W k B σ H Q (match o with | some (n :: r) => g (n :: r) | _ => .bad)) : ∃ n r, o = some (n :: r) ∧ AfE K W k B σ H Q (g (n :: r)) := by
  cases o with
  | none => exact h.elim
  | some ns =>
    cases ns with
    | nil => exact h.elim
    | cons n r => exact ⟨n, r, rfl, h⟩
theorem max_one {n m : Int} {r : List Int} (h1 : m ∈ n :: r) (h2 : ∀ y, y ∈ n :: r → y ≤ m) : m = maxZ (n :: r) := Int.le_antisymm (maxZ_ge h1) (h2 _ maxZ_mem)
theorem min_one {n m : Int} {r : List Int} (h1 : m ∈ n :: r) (h2 : ∀ y, y ∈ n :: r → m ≤ y) : m = minZ (n :: r) := Int.le_antisymm (h2 _ minZ_mem) (minZ_le h1)
theorem seq_case {B H : Hp} {W : WX} {σ : L2.St} {Q : VK} {v : V} {d : D} {g : List Int → Res D} (s : Ex B H) (r : Rep K B v d)
    (h : AfE K W .z B σ H Q (match seq? d with | some ds => (match ints? ds with | some (n :: r) => g (n :: r) | _ => .bad) | none => .bad)) :
    ∃ p n ns, v = .ref p ∧ (SqL K H p ((n :: ns).map V.int) ∨ SqT K H p ((n :: ns).map V.int)) ∧ AfE K W .z B σ H Q (g (n :: ns)) := by
  obtain ⟨ds, hd, h⟩ := AfE.sq h
  obtain ⟨n, ns, hi, h⟩ := AfE.ne h
  obtain ⟨p, vs, rfl, hp, rs⟩ := r.seq s hd
  rw [ints?_some hi] at rs
  rw [rs.ints'] at hp
  exact ⟨p, n, ns, rfl, hp, h⟩
theorem cd_max : CallD K (rMaxA K) bMax .z := by
  intro W vs ds B H σ Q s rs h
  cases rs with
  | nil => exact h.elim
  | cons r rs =>
    cases rs with
    | nil =>
      rename_i v d
      have h' : AfE K W .z B σ H Q (match seq? d with | some ds => (match ints? ds with | some (n :: r) => .ok (.int (maxZ (n :: r))) | _ => .bad) | none => .bad) := by cases r <;> exact h
      obtain ⟨p, n, ns, rfl, hp, h2⟩ := seq_case (g := fun l => .ok (.int (maxZ l))) s r h'
      rcases hp with hp | hp
      · exact .inr (.inl ⟨p, n :: ns, rfl, hp, Nat.succ_pos _, fun m h3 h4 => by rw [max_one h3 h4]; exact AfE.val s h2 (.int _)⟩)
      · exact .inr (.inr ⟨p, n :: ns, rfl, hp, Nat.succ_pos _, fun m h3 h4 => by rw [max_one h3 h4]; exact AfE.val s h2 (.int _)⟩)
    | cons r2 rs =>
      cases rs with
      | nil =>
        cases r with
        | int i =>
          cases r2 with
          | int j => exact .inl ⟨i, j, rfl, AfE.val s h (.int _)⟩
          | _ => exact h.elim
        | _ => exact h.elim
      | cons _ _ => cases r <;> first | exact h.elim | (cases r2 <;> exact h.elim)
theorem cd_min : CallD K (rMinA K) bMin .z := by
  intro W vs ds B H σ Q s rs h
  cases rs with
  | nil => exact h.elim
  | cons r rs =>
    cases rs with
    | nil =>
      rename_i v d
      have h' : AfE K W .z B σ H Q (match seq? d with | some ds => (match ints? ds with | some (n :: r) => .ok (.int (minZ (n :: r))) | _ => .bad) | none => .bad) := by cases r <;> exact h
      obtain ⟨p, n, ns, rfl, hp, h2⟩ := seq_case (g := fun l => .ok (.int (minZ l))) s r h'
      rcases hp with hp | hp
      · exact .inr (.inl ⟨p, n :: ns, rfl, hp, Nat.succ_pos _, fun m h3 h4 => by rw [min_one h3 h4]; exact AfE.val s h2 (.int _)⟩)
      · exact .inr (.inr ⟨p, n :: ns, rfl, hp, Nat.succ_pos _, fun m h3 h4 => by rw [min_one h3 h4]; exact AfE.val s h2 (.int _)⟩)
    | cons r2 rs =>
      cases rs with
      | nil =>
        cases r with
        | int i =>
          cases r2 with
          | int j => exact .inl ⟨i, j, rfl, AfE.val s h (.int _)⟩
          | _ => exact h.elim
        | _ => exact h.elim
      | cons _ _ => cases r <;> first | exact h.elim | (cases r2 <;> exact h.elim)
theorem cd_sum : CallD K (rSum K) bSum .z := by
  intro W vs ds B H σ Q s rs h
  cases rs with
  | nil => exact h.elim
  | cons r rs =>
    cases rs with
    | cons _ _ => cases r <;> exact h.elim
    | nil =>
      cases r with
      | @lst p vs ds hp rs =>
        have h' : AfE K W .z B σ H Q (match ints? ds with | some ns => .ok (.int ns.sum) | none => .bad) := h
        cases e : ints? ds with
        | none => rw [e] at h'; exact h'.elim
        | some ns =>
          rw [e] at h'
          rw [ints?_some e] at rs
          exact ⟨p, ns, rfl, by rw [← rs.ints']; exact SqL.of (s _ _ hp), AfE.val s h' (.int _)⟩
      | _ => exact h.elim
/-! ### isinstance(x, T), T a built-in class -/
def tyN : Ty → String
  | .int => "int"
  | .bool => "bool"
  | .tuple => "tuple"
  | .list => "list"
  | .str => "str"
def dTy : D → String
  | .non => "NoneType"
  | .bl _ => "bool"
  | .int _ => "int"
  | .str _ => "str"
  | .lst _ => "list"
  | .scr _ => "list"
  | .tup _ => "tuple"
  | .ins _ _ => "object"
  | .exn _ _ => "object"
theorem kit_isTy (t : Ty) (d : D) (h : plainD d = true) : kitB (dTy d) (tyN t) = some (isTy t d) := by
  cases d <;> cases t <;> first | (cases h; done) | (simp only [dTy, tyN, isTy]; decide +kernel)
theorem Rep.tyX {B H : Hp} (s : Ex B H) {v : V} {d : D} (r : Rep K B v d) (h : plainD d = true) : TyX K H v (.type (dTy d)) := by
  cases r with
  | non => exact .base .non
  | bl b => exact .base (.bl b)
  | int i => exact .base (.int i)
  | str x => exact .base (.str x)
  | lst hp rs => exact .base (.lst (s _ _ hp))
  | scr hp rs =>
    rcases s.sl hp with (q | ⟨o, q⟩) | ⟨o, its, n, hk, hc, _⟩
    · exact .base (.lst q)
    · exact .base (.frz q)
    · exact .kList hk hc
  | tup hp rs =>
    rcases s.st hp with (q | ⟨o, q⟩) | ⟨o, its, n, hk, hc, _⟩
    · exact .base (.tup q)
    · exact .fTuple q
    · exact .kTuple hk hc
  | ins _ _ => cases h
  | exn => cases h
end
end Fz
set_option Elab.async false
set_option linter.all false
set_option maxRecDepth 100000
set_option maxHeartbeats 4000000
/-! Functionalization: calls of built-ins, of the text's own defs, methods, classes. -/
namespace Fz
open PySem PySem.Spec PyProof.Rows L2

section
variable {X : Cx} {K : Fr} {W : WX} {w w' : List Ow} {k : Ow} {e a b : Expr} {es : List Expr} {da : Env → Res (List D)} {r : List V → Hp → VK → Prop} {f : List D → Res D} {x id T : Str} {p pos : Pos}
theorem rdE_cb (hd : CallD K r f k) : ∀ σ H Q, rdE K w W (dcall f da) k σ H Q → tCB r (rdA K w W da) σ H Q := fun σ H Q ⟨B, env, fp, R, h⟩ =>
  rdA_then R h fun ds vs H1 B1 _ g1 R1 r1 h1 => hd W vs ds B1 H1 σ Q R1.s r1 h1
theorem e_callB {id : String} (hc : CallR X (.builtin id) r) (hd : CallD K r f k) (hm : X.mg x = none) (hv : bootBuiltins x = some (.builtin id)) (ha : PA X (e :: es) (rdA K w W da)) (hg : Gl X x := by rfl) (hn : x ≠ "__name__" := by decide) (hdb : (x == ("__debug__" : Str)) = false := by decide)
    (he : starEach (e :: es) X.env = (false, eval e X.env) :: starEach es X.env := by rfl) (hpl : (backTo pos (starEach es X.env)).any (·.1) = false := by rfl) : PE X (.Call (.Name x p) (e :: es) [] pos) (rdE K w W (dcall f da) k) :=
  PE_weak (pe_callB hc hg hm hv ha hn hdb he hpl) (rdE_cb hd)
theorem e_callT {T : String} (hc : CallR X (.type T) r) (hd : CallD K r f k) (hm : X.mg x = none) (hv : bootBuiltins x = some (.type T)) (ha : PA X (e :: es) (rdA K w W da)) (hg : Gl X x := by rfl) (hn : x ≠ "__name__" := by decide) (hdb : (x == ("__debug__" : Str)) = false := by decide)
    (he : starEach (e :: es) X.env = (false, eval e X.env) :: starEach es X.env := by rfl) (hpl : (backTo pos (starEach es X.env)).any (·.1) = false := by rfl) : PE X (.Call (.Name x p) (e :: es) [] pos) (rdE K w W (dcall f da) k) :=
  PE_weak (pe_callTy hc hg hm hv ha hn hdb he hpl) (rdE_cb hd)
theorem e_callM {id : String} (hc : CallR X (.builtin id) r) (hd : CallD K r f k) (hm : X.mg x = some (.builtin id)) (ha : PA X (e :: es) (rdA K w W da)) (hg : Gl X x := by rfl) (hdb : (x == ("__debug__" : Str)) = false := by decide)
    (he : starEach (e :: es) X.env = (false, eval e X.env) :: starEach es X.env := by rfl) (hpl : (backTo pos (starEach es X.env)).any (·.1) = false := by rfl) : PE X (.Call (.Name x p) (e :: es) [] pos) (rdE K w W (dcall f da) k) :=
  PE_weak (pe_callBfun hc hg hm ha hdb he hpl) (rdE_cb hd)
/-- isinstance(x, T), T a built-in class -/
theorem tyN_boot (t : Ty) {n : Str} (h : bootBuiltins n = some (.type (tyN t))) (hm : X.mg n = none) (hg : Gl X n) (hn : n ≠ "__name__" := by decide) (hd : (n == ("__debug__" : Str)) = false := by decide) : PE X (.Name n p) (tC (.ty (tyN t))) := pe_bltn hg hm h rfl hn hd
theorem e_isi (t : Ty) {n : Str} {d : Env → Res D} {p2 : Pos} (hb : bootBuiltins n = some (.type (tyN t))) (hm : X.mg n = none) (hmi : X.mg "isinstance" = none) (ha : PE X a (rdE K w W d .z)) (hg : Gl X n := by rfl) (hgi : Gl X "isinstance" := by rfl) (hn : n ≠ "__name__" := by decide) (hdb : (n == ("__debug__" : Str)) = false := by decide)
    (he : starEach (a :: [.Name n p2]) X.env = (false, eval a X.env) :: starEach [.Name n p2] X.env := by rfl) (he2 : starEach (.Name n p2 :: []) X.env = (false, eval (.Name n p2) X.env) :: starEach [] X.env := by rfl) (hpl : (backTo pos (starEach [.Name n p2] X.env)).any (·.1) = false := by rfl) (hK : X.K = K := by rfl) :
    PE X (.Call (.Name "isinstance" p) [a, .Name n p2] [] pos) (rdE K w W (d1 (fun v => bIsi t [v]) d) .z) := by
  subst hK
  refine PE_weak (pe_callB call_isi hgi hmi boot_isinstance (pa_cons ha (pa_cons (tyN_boot t hb hm hg hn hdb) pa_nil he2) he) (by decide) (by decide) he hpl) fun σ H Q ⟨B, env, fp, R, h⟩ => rdE_then R h fun d v H1 B1 _ g1 R1 r1 h1 => ?_
  obtain ⟨hp, h1⟩ := AfE.iff (show AfE X.K W .z B1 σ H1 Q (if plainD d = true then _ else _) from h1)
  exact ⟨v, .ty (tyN t), _, _, _, rfl, .ty _, r1.tyX R1.s hp, kit_ty (kit_isTy t d hp), AfE.val R1.s h1 (.bl _)⟩
end

/-! ### a def's promise -/
def spD (K : Fr) (n : Nat) (f : List D → Res D) (k : Ow) : Sp := fun vs H Q E => ∃ B ds, Ex B H ∧ Reps K B vs ds ∧ ds.length = n ∧ AfE K (fun cls d _ H' => E cls d H') k B [] H Q (f ds)
/-- a def by its name -/
structure Fn (P : Program) (wd : World) (K : Fr) (mg : Str → Option Value) (base : Heap) (kl : Nat) (x : Str) (n : Nat) (dvs : List D) (f : List D → Res D) (k : Ow) : Prop where
  ex : ∃ fa fd ps dV us, mg x = some (.ref fa) ∧ PySem.W.keepIn K (.ref fa) = true ∧ Binds K fd ps us ∧ Vals dV us ∧ (∀ B, Reps K B dV dvs) ∧ FnOk P wd K mg base (L2.CX P wd) kl fa fd ps (spD K n f k)
theorem AfE.sl {K : Fr} {W : WX} {k : Ow} {B H : Hp} {σ : L2.St} {Q : VK} : ∀ {r : Res D}, AfE K W k B σ H Q r → AfE K (fun cls d _ H' => W cls d σ H') k B [] H Q r
  | .ok _, h => h
  | .exc _ _, h => h
  | .bad, h => h
section
variable {X : Cx} {K : Fr} {W : WX} {w w' : List Ow} {k : Ow} {e a b : Expr} {es : List Expr} {da : Env → Res (List D)} {f : List D → Res D} {x : Str} {p pos apos : Pos} {kl n : Nat} {dvs : List D}
def withD (n : Nat) (dvs : List D) (f : List D → Res D) : List D → Res D := fun ds => if (ds ++ dvs).length = n then f (ds ++ dvs) else .bad
theorem e_call (F : Fn X.prog X.w X.K X.mg X.base kl x n dvs f k) (hr : Room kl X.A) (tk : Takes X W) (ha : PA X (e :: es) (rdA K w W da)) (hK : X.K = K := by rfl) (hg : Gl X x := by rfl) (hdb : (x == ("__debug__" : Str)) = false := by decide)
    (he : starEach (e :: es) X.env = (false, eval e X.env) :: starEach es X.env := by rfl) (hpl : (backTo pos (starEach es X.env)).any (·.1) = false := by rfl) : PE X (.Call (.Name x p) (e :: es) [] pos) (rdE K w W (dcall (withD n dvs f) da) k) := by
  subst hK
  obtain ⟨fa, fd, ps, dV, us, hm, hk, hb, hv, hr', F⟩ := F.ex
  refine PE_weak (pe_callSD (E := WE W) F hr hg hm hk hb hv (fun σ => passAt tk σ) ha hdb he hpl) fun σ H Q ⟨B, env, fp, R, h⟩ => rdA_then R h fun ds vs H1 B1 _ g1 R1 r1 h1 => ?_
  obtain ⟨hl, h1⟩ := AfE.iff h1
  exact ⟨B1, ds ++ dvs, R1.s, r1.append (hr' B1), hl, AfE.sl h1⟩

/-! ### methods -/
structure Mt (P : Program) (wd : World) (K : Fr) (mg : Str → Option Value) (base : Heap) (kl : Nat) (c m : Str) (n : Nat) (dvs : List D) (f : List D → Res D) (k : Ow) : Prop where
  ex : ∃ fa fd ps dV us, Cls K (He.ga K c) ∧ Meth K (He.ga K c) m fa ∧ Binds K fd ps us ∧ Vals dV us ∧ (∀ B, Reps K B dV dvs) ∧ FnOk P wd K mg base (L2.CX P wd) kl fa fd ps (spD K n f k)
def methK (c m : Str) (g : D → Res D) : D → Res D
  | .ins c' fs => if c' = c ∧ fs.lookup m = none then g (.ins c' fs) else .bad
  | _ => .bad
def dmeth (c m : Str) (n : Nat) (dvs : List D) (f : List D → Res D) (a : Env → Res D) (da : Env → Res (List D)) : Env → Res D := fun env => (a env).bind (methK c m fun o => (da env).bind fun ds => withD n dvs f (o :: ds))
variable {o : Expr} {a : Env → Res D} {c m : Str}
theorem AfE.me {B H : Hp} {σ : L2.St} {Q : VK} {g : D → Res D} {v : V} {d : D} (r : Rep K B v d) (h : AfE K W k B σ H Q (methK c m g d)) :
    ∃ x dx fvs fs, v = .ref x ∧ d = .ins c fs ∧ B x = some (.ins (He.ga K c) dx fvs) ∧ RepF K B fvs fs ∧ fvs.lookup m = none ∧ AfE K W k B σ H Q (g (.ins c fs)) := by
  cases r with
  | @ins x dx c' fvs fs hx rf =>
    obtain ⟨⟨e1, e2⟩, h2⟩ := AfE.iff (show AfE K W k B σ H Q (if c' = c ∧ fs.lookup m = none then g (.ins c' fs) else .bad) from h)
    cases e1
    exact ⟨x, dx, fvs, fs, rfl, rfl, hx, rf, rf.lookup_none e2, h2⟩
  | _ => exact h.elim
def tMethS (C : Addr) (m : Str) (sp : Sp) (dvs : List V) (E : L2.St → XK) (ta : TE) (t : TA) : TE := fun σ H Q => ta σ H fun x H1 => ∃ a dx fs, x = .ref a ∧ H1 a = some (.ins C dx fs) ∧ fs.lookup m = none ∧ t σ H1 fun vs H2 => sp (x :: (vs ++ dvs)) H2 Q (E σ)
theorem pe_methSD {CX : CXT} {C f : Addr} {fd : FuncData} {ps : List Str} {sp : Sp} {dV : List V} {us : List Value} {E : L2.St → XK} {ta : TE} {t : TA} {pl : Sem Bool} (he : PE X o ta) (c : Cls X.K C) (hm : Meth X.K C m f) (F : FnOk X.prog X.w X.K X.mg X.base CX kl f fd ps sp)
    (hr : Room kl X.A) (hb : Binds X.K fd ps us) (hd : Vals dV us) (hx : ∀ σ, PassesAt CX X σ (E σ)) (ha : PA X (e :: es) t) (hst : starEach (e :: es) X.env = (false, eval e X.env) :: starEach es X.env) (hpl : (backTo pos (starEach es X.env)).any (·.1) = false)
    (ht : eval (.Call (.Attribute o m apos) (e :: es) [] pos) X.env = (do
      let ov ← eval o X.env
      standAt apos.atName
      let (f, first) ← holding [ov] (getMethod ov m pl)
      callWith pos f first (backTo pos (starEach (e :: es) X.env)) (backToKw pos (keywordEach [] X.env)))) : PE X (.Call (.Attribute o m apos) (e :: es) [] pos) (tMethS C m sp dV E ta t) :=
  ⟨fun pins s σ H Q I h => PySem.W.methodCall_KW (pl := pl) (thn (he.run pins s σ H _ I h) fun u s1 ⟨x, H1, I1, rx, a, dx, fs, ex, ea, l, q⟩ => by
    subst ex
    obtain rfl : u = Value.ref a := rx
    exact getmeth_ok I1 ea c hm l (PySem.W.callWith_K (first := [.ref a]) (h₀ := X.base) I.ok.mod.kin hm.kp (thn (ha.run pos pins s1 σ H1 _ I1 q) fun us s2 ⟨vs, H2, I2, r, q2⟩ => ⟨I2.kIn, run_fnSD (us := .ref a :: us) (vs := .ref a :: vs) F hr hb hd (hx σ) I2 (.cons rfl r) q2⟩) hst hpl)) ht⟩
theorem pe_methSD0 {CX : CXT} {C f : Addr} {fd : FuncData} {ps : List Str} {sp : Sp} {dV : List V} {us : List Value} {E : L2.St → XK} {ta : TE} {pl : Sem Bool} (he : PE X o ta) (c : Cls X.K C) (hm : Meth X.K C m f) (F : FnOk X.prog X.w X.K X.mg X.base CX kl f fd ps sp)
    (hr : Room kl X.A) (hb : Binds X.K fd ps us) (hd : Vals dV us) (hx : ∀ σ, PassesAt CX X σ (E σ))
    (ht : eval (.Call (.Attribute o m apos) [] [] pos) X.env = (do
      let ov ← eval o X.env
      standAt apos.atName
      let (f, first) ← holding [ov] (getMethod ov m pl)
      callWith pos f first (backTo pos (starEach [] X.env)) (backToKw pos (keywordEach [] X.env)))) : PE X (.Call (.Attribute o m apos) [] [] pos) (tMethS C m sp dV E ta tNil) :=
  ⟨fun pins s σ H Q I h => PySem.W.methodCall_KW (pl := pl) (thn (he.run pins s σ H _ I h) fun u s1 ⟨x, H1, I1, rx, a, dx, fs, ex, ea, l, q⟩ => by
    subst ex
    obtain rfl : u = Value.ref a := rx
    exact getmeth_ok I1 ea c hm l (PySem.W.callWith_K0 (first := [.ref a]) I1.kIn hm.kp (run_fnSD (us := [.ref a]) (vs := [.ref a]) F hr hb hd (hx σ) I1 (.cons rfl .nil) q))) ht⟩
theorem rdE_meth {sp : Sp} {dV : List V} {us : List Value} (hsp : sp = spD K n f k) (hr' : ∀ B, Reps K B dV dvs) : ∀ σ H Q, rdE K w W (dmeth c m n dvs f a da) k σ H Q → tMethS (He.ga K c) m sp dV (WE W) (rdE K w W a .z) (rdA K w W da) σ H Q := fun σ H Q ⟨B, env, fp, R, h⟩ => rdE_then R h fun d v H1 B1 _ g1 R1 r1 h1 => by
  obtain ⟨x, dx, fvs, fs, e1, e2, hx, rf, hl, h1⟩ := AfE.me r1 h1
  refine ⟨x, dx, fvs, e1, R1.s _ _ hx, hl, rdA_then R1 h1 fun ds vs H2 B2 _ g2 R2 r2 h2 => ?_⟩
  obtain ⟨hn, h2⟩ := AfE.iff h2
  rw [hsp]
  rw [e2] at r1
  exact ⟨B2, _, R2.s, .cons (r1.mono g2.b) (r2.append (hr' B2)), hn, AfE.sl h2⟩
theorem e_meth {pl : Sem Bool} (F : Mt X.prog X.w X.K X.mg X.base kl c m n dvs f k) (hr : Room kl X.A) (tk : Takes X W) (ho : PE X o (rdE K w W a .z)) (ha : PA X (e :: es) (rdA K w W da)) (hK : X.K = K := by rfl)
    (hst : starEach (e :: es) X.env = (false, eval e X.env) :: starEach es X.env := by rfl) (hpl : (backTo pos (starEach es X.env)).any (·.1) = false := by rfl)
    (ht : eval (.Call (.Attribute o m apos) (e :: es) [] pos) X.env = (do
      let ov ← eval o X.env
      standAt apos.atName
      let (f, first) ← holding [ov] (getMethod ov m pl)
      callWith pos f first (backTo pos (starEach (e :: es) X.env)) (backToKw pos (keywordEach [] X.env))) := by rfl) : PE X (.Call (.Attribute o m apos) (e :: es) [] pos) (rdE K w W (dmeth c m n dvs f a da) k) := by
  subst hK
  obtain ⟨fa, fd, ps, dV, us, hc, hm, hb, hv, hr', F⟩ := F.ex
  exact PE_weak (pe_methSD (E := WE W) ho hc hm F hr hb hv (fun σ => passAt tk σ) ha hst hpl ht) (rdE_meth (us := us) rfl hr')
theorem e_meth0 {pl : Sem Bool} (F : Mt X.prog X.w X.K X.mg X.base kl c m n dvs f k) (hr : Room kl X.A) (tk : Takes X W) (ho : PE X o (rdE K w W a .z)) (hK : X.K = K := by rfl)
    (ht : eval (.Call (.Attribute o m apos) [] [] pos) X.env = (do
      let ov ← eval o X.env
      standAt apos.atName
      let (f, first) ← holding [ov] (getMethod ov m pl)
      callWith pos f first (backTo pos (starEach [] X.env)) (backToKw pos (keywordEach [] X.env))) := by rfl) : PE X (.Call (.Attribute o m apos) [] [] pos) (rdE K w W (dmeth c m n dvs f a dnil) k) := by
  subst hK
  obtain ⟨fa, fd, ps, dV, us, hc, hm, hb, hv, hr', F⟩ := F.ex
  refine PE_weak (pe_methSD0 (E := WE W) ho hc hm F hr hb hv (fun σ => passAt tk σ) ht) fun σ H Q ⟨B, env, fp, R, h⟩ => rdE_then R h fun d v H1 B1 _ g1 R1 r1 h1 => ?_
  obtain ⟨x, dx, fvs, fs, e1, e2, hx, rf, hl, h1⟩ := AfE.me r1 h1
  refine ⟨x, dx, fvs, e1, R1.s _ _ hx, hl, ?_⟩
  obtain ⟨hn, h2⟩ := AfE.iff (show AfE X.K W k B1 σ H1 Q (if (.ins c fs :: ([] ++ dvs) : List D).length = n then _ else _) from h1)
  rw [e2] at r1
  exact ⟨B1, _, R1.s, .cons r1 (hr' B1), hn, AfE.sl h2⟩

/-! ### classes made -/
structure GrX (x : Addr) (B H B' H' : Hp) : Prop where
  b : Ex B B'
  h : ∀ a o, a ≠ x → H a = some o → H' a = some o
  s : Ex B' H'
  f : ∀ a, a ≠ x → H a ≠ none → B' a = B a
def AfI (K : Fr) (W : WX) (x : Addr) (c : Str) (B : Hp) (σ : L2.St) (H : Hp) (Q : VK) : Res (List (Str × D)) → Prop
  | .ok fs => ∀ H' B' dx fvs, GrX x B H B' H' → B' x = none → H' x = some (.ins (He.ga K c) dx fvs) → RepF K B' fvs fs → Q .non H'
  | .exc e gs => ∀ H' B' dct, GrX x B H B' H' → ExcRep K B' H' dct gs → W (.ref (He.ga K e)) dct σ H'
  | .bad => False
/-- __init__'s promise -/
def mkD (c : Str) (n : Nat) (dvs : List D) (f : List D → Res (List (Str × D))) : List D → Res D := fun ds => if (ds ++ dvs).length = n then (f (ds ++ dvs)).bind fun fs => .ok (.ins c fs) else .bad
def spI (K : Fr) (c : Str) (n : Nat) (f : List D → Res (List (Str × D))) : Sp := fun vs H Q E => ∃ B ds x dx us, vs = .ref x :: us ∧ H x = some (.ins (He.ga K c) dx []) ∧ B x = none ∧ Ex B H ∧ Reps K B us ds ∧ ds.length = n ∧ AfI K (fun cls d _ H' => E cls d H') x c B [] H Q (f ds)
structure Mc (P : Program) (wd : World) (K : Fr) (mg : Str → Option Value) (base : Heap) (kl : Nat) (c : Str) (n : Nat) (dvs : List D) (f : List D → Res (List (Str × D))) : Prop where
  ex : ∃ fa fd ps dV us, mg c = some (.ref (He.ga K c)) ∧ Mk K (He.ga K c) fa ∧ Binds K fd ps us ∧ Vals dV us ∧ (∀ B, Reps K B dV dvs) ∧ FnOk P wd K mg base (L2.CX P wd) kl fa fd ps (spI K c n f)
def tMakeS (C : Addr) (sp : Sp) (dvs : List V) (E : L2.St → XK) (t : TA) : TE := fun σ H Q => t σ H fun vs H1 => ∀ x dx, H1 x = none → H1 dx = none → dx ≠ x → sp (.ref x :: (vs ++ dvs)) (upd (upd H1 dx (.own x)) x (.ins C dx [])) (fun v H2 => v = .non ∧ Q (.ref x) H2) (E σ)
theorem pe_makeSD {CX : CXT} {C f : Addr} {fd : FuncData} {ps : List Str} {sp : Sp} {dV : List V} {us : List Value} {E : L2.St → XK} {t : TA} (M : L2.Mk X.K C f) (F : FnOk X.prog X.w X.K X.mg X.base CX kl f fd ps sp) (hr : Room (kl + 1) X.A) (hg : Gl X x) (hm : X.mg x = some (.ref C))
    (hb : Binds X.K fd ps us) (hd : Vals dV us) (hx : ∀ σ, PassesAt CX X σ (E σ)) (ha : PA X (e :: es) t) (hdb : (x == ("__debug__" : Str)) = false) (he : starEach (e :: es) X.env = (false, eval e X.env) :: starEach es X.env) (hpl : (backTo pos (starEach es X.env)).any (·.1) = false) :
    PE X (.Call (.Name x p) (e :: es) [] pos) (tMakeS C sp dV E t) := ⟨fun pins s σ H Q I h => wpAny_Call_Name_kw (ld_glob I hg hm (PySem.W.callWith_K (h₀ := X.base) I.ok.mod.kin M.kp (thn (ha.run pos pins s σ H _ I h) fun ws s1 ⟨vs, H1, I1, r, q⟩ => ⟨I1.kIn, by
    have hq := q (s1.heap.objs.size + 1) s1.heap.objs.size (I1.hok.fresh (Nat.le_succ _)) (I1.hok.fresh (Nat.le_refl _)) (Nat.ne_of_lt (Nat.lt_succ_self _))
    have I2 := Inv.made (C := C) I1
    have r2 : Vals (V.ref (s1.heap.objs.size + 1) :: (vs ++ dV)) (Value.ref (s1.heap.objs.size + 1) :: (ws ++ us)) := .cons rfl (r.append hd)
    have hl : (Value.ref (s1.heap.objs.size + 1) :: ws ++ us).length = ps.length := (F.len _ _ _ _ hq ▸ r2.length).symm
    refine wpAny_call (make_map (f := f) I1.kIn M.makes M.init (beq_iff_eq.mp M.fn) (codeAny_mono (F.run _ X.stack _ _ ⟨Value.ref (s1.heap.objs.size + 1) :: ws, []⟩ (Value.ref (s1.heap.objs.size + 1) :: (ws ++ us)) _ _ (E σ) (hr.make C ws [])
      (I2.env0.make C ws []) (hb _ (Value.ref (s1.heap.objs.size + 1) :: ws) I2.kIn hl) r2 hq) fun rr s' hq' => ?_))
    cases rr with
    | error e => exact hx σ pins _ _ e s' I2 hq'
    | ok fl =>
      cases fl with
      | ret u =>
        obtain ⟨v, H', I3, rv, ev, q3⟩ := I2.after hq'
        subst ev
        exact ⟨rv, ⟨V.ref (s1.heap.objs.size + 1), H', I3, rfl, q3⟩⟩
      | next => exact False.elim hq'
      | brk => exact False.elim hq'
      | cont => exact False.elim hq'⟩) he hpl) hdb)⟩
/-- the class's instances, made: f gives the fields -/
theorem e_make {f : List D → Res (List (Str × D))} (F : Mc X.prog X.w X.K X.mg X.base kl c n dvs f) (hr : Room (kl + 1) X.A) (tk : Takes X W) (ha : PA X (e :: es) (rdA K w W da)) (hK : X.K = K := by rfl) (hg : Gl X c := by rfl) (hdb : (c == ("__debug__" : Str)) = false := by decide)
    (he : starEach (e :: es) X.env = (false, eval e X.env) :: starEach es X.env := by rfl) (hpl : (backTo pos (starEach es X.env)).any (·.1) = false := by rfl) : PE X (.Call (.Name c p) (e :: es) [] pos) (rdE K w W (dcall (mkD c n dvs f) da) .i) := by
  subst hK
  obtain ⟨fa, fd, ps, dV, us, hm, M, hb, hv, hr', F⟩ := F.ex
  refine PE_weak (pe_makeSD (E := WE W) M F hr hg hm hb hv (fun σ => passAt tk σ) ha hdb he hpl) fun σ H Q ⟨B, env, fp, R, h⟩ => rdA_then R h fun ds vs H1 B1 _ g1 R1 r1 h1 x dx hx hdx ne => ?_
  obtain ⟨hl, h1⟩ := AfE.iff h1
  have bx : B1 x = none := R1.s.back hx
  have old : ∀ a o, H1 a = some o → (upd (upd H1 dx (.own x)) x (.ins (He.ga X.K c) dx [])) a = some o := fun a o ea => by
    rw [upd_ne (ne_of_none ea hx), upd_ne (ne_of_none ea hdx)]; exact ea
  have hl' : ∀ a, H1 a ≠ none → (upd (upd H1 dx (.own x)) x (.ins (He.ga X.K c) dx [])) a ≠ none := fun a ha z => ha (by
    cases q : H1 a with
    | none => rfl
    | some o => rw [old a o q] at z; cases z)
  have key : Reps X.K B1 (vs ++ dV) (ds ++ dvs) := r1.append (hr' B1)
  refine ⟨B1, ds ++ dvs, x, dx, vs ++ dV, rfl, upd_same, bx, fun a o ea => old a o (R1.s a o ea), key, hl, ?_⟩
  have grow : ∀ {H' B' : Hp}, GrX x B1 (upd (upd H1 dx (.own x)) x (.ins (He.ga X.K c) dx [])) B' H' → Gr B1 H1 B' H' := fun {H' B'} g => ⟨g.b, fun a o ea => g.h a o (ne_of_none ea hx) (old a o ea), g.s, fun a ha => g.f a (fun z => ha (by rw [z]; exact hx)) (hl' a ha)⟩
  cases e : f (ds ++ dvs) with
  | ok fs =>
    rw [e] at h1
    exact fun H' B' dx' fvs g bx' hx' rf => ⟨rfl, h1 (.ref x) H' B' [x] (grow g) ⟨x, dx', fvs, c, fs, rfl, rfl, hx', rf, rfl⟩ (by simp) fun a ha => by
      have q : a = x := by simpa using ha
      subst q
      exact ⟨hx, bx'⟩⟩
  | exc e gs => rw [e] at h1; exact fun H' B' dct g r => h1 H' B' dct (grow g) r
  | bad => rw [e] at h1; exact h1.elim
end
end Fz
set_option Elab.async false
set_option linter.all false
set_option maxRecDepth 100000
set_option maxHeartbeats 4000000
/-! Functionalization: what loops walk. -/
namespace Fz
open PySem PySem.Spec PyProof.Rows L2

/-! ### a list or a tuple, told by a truth -/
def SqA (K : Fr) (H : Hp) (a : Addr) (b : Bool) (xs : List V) : Prop := if b then SqL K H a xs else SqT K H a xs
def IsIt (h : Heap) (it a : Addr) (b : Bool) (i : Nat) : Prop := if b then h.IsListIter it a i else h.IsTupleIter it a i
def IsSq (h : Heap) (a : Addr) (b : Bool) (its : Array Value) : Prop := if b then h.IsList a its else h.IsTuple a its
theorem SqA.mono {K : Fr} {H H' : Hp} {a : Addr} {b : Bool} {xs : List V} (e : Ex H H') (h : SqA K H a b xs) : SqA K H' a b xs := by
  cases b with
  | true => exact e.sl (show SqL K H a xs from h)
  | false => exact e.st (show SqT K H a xs from h)
section
variable {X : Cx} {pins : List (Addr × Obj)} {σ : L2.St} {H : Hp} {s : Shared} {a : Addr} {b : Bool} {xs ys : List V}
theorem Inv_sq (I : Inv X pins σ H s) (h : SqA X.K H a b xs) : ∃ its : List Value, Vals xs its ∧ IsSq s.heap a b its.toArray ∧ xs.length ≤ sizeLine := by
  cases b with
  | true =>
    obtain ⟨its, rv, p, z⟩ := I.list (show SqL X.K H a xs from h)
    exact ⟨its, rv, p.isList, z⟩
  | false =>
    obtain ⟨its, rv, p, z⟩ := I.tuple (show SqT X.K H a xs from h)
    exact ⟨its, rv, p, z⟩
theorem Inv_sqInj (I : Inv X pins σ H s) (h : SqA X.K H a b xs) (h' : SqA X.K H a b ys) : xs = ys := by
  cases b with
  | true => exact I.list_inj (show SqL X.K H a xs from h) (show SqL X.K H a ys from h')
  | false => exact I.tuple_inj (show SqT X.K H a xs from h) (show SqT X.K H a ys from h')
end
theorem IsSq.lt {h : Heap} {a : Addr} {b : Bool} {its : Array Value} (x : IsSq h a b its) : a < h.objs.size := by
  cases b with
  | true => obtain ⟨_, e, _⟩ := (show h.IsList a its from x); exact Heap.lt_size e
  | false => obtain ⟨_, e, _⟩ := (show h.IsTuple a its from x); exact Heap.lt_size e
theorem IsIt.obj {h : Heap} {it a : Addr} {b : Bool} {i : Nat} (x : IsIt h it a b i) : ∃ o, h.get? it = some o ∧ ∀ v, o.data ≠ .cell v := by
  cases b with
  | true => obtain ⟨o, e, _, d⟩ := (show h.IsListIter it a i from x); exact ⟨o, e, fun v q => by rw [d] at q; cases q⟩
  | false => obtain ⟨o, e, _, d⟩ := (show h.IsTupleIter it a i from x); exact ⟨o, e, fun v q => by rw [d] at q; cases q⟩
theorem IsIt.at' {h h' : Heap} {it a : Addr} {b : Bool} {i : Nat} (x : IsIt h it a b i) (k : ∀ o, h.get? it = some o → h'.get? it = some o) : IsIt h' it a b i := by
  cases b with
  | true => exact (show h.IsListIter it a i from x).at k
  | false => exact (show h.IsTupleIter it a i from x).at k
theorem draws_sq {prog : Program} {w : World} {A : Around} (hh : A.handled = none) (it l : Addr) (b : Bool) (hne : l ≠ it) (items : Array Value) :
    Draws prog w A it [it, l] items.size (fun i v => items[i]? = some v) (fun i h => IsIt h it l b i ∧ IsSq h l b items) := by
  cases b with
  | true => exact Draws.list hh it l hne items
  | false => exact Draws.tuple hh it l hne items
def itObj (l : Addr) (b : Bool) : Obj := { cls := .type (if b then "list_iterator" else "tuple_iterator"), data := .fields #[.ref l, .int 0 0] }
theorem begins_sq (l : Addr) (b : Bool) (items : Array Value) : Begins (.ref l) (itObj l b) fun h => IsSq h l b items := by
  cases b with
  | true => exact begins_list l items
  | false => exact begins_tuple l items
theorem IsIt.new {h : Heap} {it l : Addr} {b : Bool} (e : h.get? it = some (itObj l b)) : IsIt h it l b 0 := by
  cases b with
  | true => exact ⟨_, e, rfl, rfl⟩
  | false => exact ⟨_, e, rfl, rfl⟩
set_option maxHeartbeats 1000000 in
theorem meets_enum1 {v : Value} {o : Obj} {H : Heap → Prop} (B : Begins v o H) :
    Meets (Builtin.«enumerate.__new__» ⟨[.type "enumerate", v], []⟩) (fun _ R s => H s.heap ∧
      R (.ok (.ret (.ref (s.heap.push o).objs.size))) { s with heap := (s.heap.push o).push { cls := .type "enumerate", data := .fields #[.none, .bool false, .ref s.heap.objs.size, rawInt 0, .none, .none] } }) :=
  .of_wp fun prog w A R s h => by
    obtain ⟨hp, g, d, tk, os⟩ := s; obtain ⟨h1, h⟩ := h
    have hsub := sub_enumerate
    have q1 : ∀ {A' : Around} {E : Value → Shared → Prop} {Q : Value → Shared → Prop}, Q (.ref hp.objs.size) ⟨hp.push o, g, d, tk, os⟩ → wpAny (model prog w) A' (pyIter v) Q E ⟨hp, g, d, tk, os⟩ :=
      fun q => B.iter prog w _ _ ⟨hp, g, d, tk, os⟩ _ h1 q
    wp_walk using q1
    refine wpAny_stack_any fun st => wpAny_pure ?_
    split
    · rename_i c _ _ _ _ _
      cases (c == Value.type "enumerate")
      · wp_walk using q1
        exact ⟨_, rfl, h⟩
      · wp_walk using q1
        exact ⟨_, rfl, h⟩
    · wp_walk using q1
      exact ⟨_, rfl, h⟩
theorem call_enum1 {prog : Program} {w : World} {A : Around} {E : Value → Shared → Prop} {s : Shared} {v : Value} {o : Obj} {H : Heap → Prop} {Q : Value → Shared → Prop} (B : Begins v o H) (h1 : H s.heap)
    (h : ∀ h', IsEnum h' (s.heap.objs.size + 1) s.heap.objs.size 0 .none → h'.get? s.heap.objs.size = some o → h'.objs.size = s.heap.objs.size + 2 →
      (∀ b o, s.heap.get? b = some o → h'.get? b = some o) → Q (.ref (s.heap.objs.size + 1)) { s with heap := h' }) :
    wpAny (model prog w) A (call (.type "enumerate") [v]) Q E s := by
  refine callType_new F.called_enumerate (by decide) (F.typeCall_enumerate_1 _) (F.newCall_enumerate_1 _) (fun obj => F.args_object_init_2 obj _) F.entry_enumerate_new (meets_enum1 B) ⟨h1, ?_⟩
  have hz : (s.heap.push o).objs.size = s.heap.objs.size + 1 := Heap.size_push ..
  show _ ∧ _
  rw [hz]
  have he : IsEnum ((s.heap.push o).push { cls := .type "enumerate", data := .fields #[.none, .bool false, .ref s.heap.objs.size, rawInt 0, .none, .none] }) (s.heap.objs.size + 1) s.heap.objs.size 0 .none := by
    have q := Heap.get?_push_size (s.heap.push o) (o := { cls := .type "enumerate", data := .fields #[.none, .bool false, .ref s.heap.objs.size, rawInt 0, .none, .none] }) rfl
    rw [hz] at q; exact q
  exact ⟨⟨_, he, rfl⟩, h _ he (Heap.get?_push_of_some _ (Heap.get?_push_size _ B.free)) (by rw [Heap.size_push, hz]) fun b o x => Heap.get?_push_of_some _ (Heap.get?_push_of_some _ x)⟩

/-! ### enumerate, zip over any of the two -/
def ItE (K : Fr) (a : Addr) (b : Bool) : It :=
  ⟨fun i H => ∃ xs x, SqA K H a b xs ∧ xs[i]? = some x, fun i H v H' => ∃ T x, v = .ref T ∧ H T = none ∧ H' = upd H T (.tup [.int (i : Nat), x]) ∧ ∀ xs, SqA K H a b xs → xs[i]? = some x, fun i H => ∃ xs, SqA K H a b xs ∧ xs.length = i⟩
theorem turnE {P : Program} {w : World} {K : Fr} {elts : List Expr} {kk : Nat} {tpos : Pos} (a : Addr) (b : Bool) (e it : Addr) :
    Turn P w K (.Tuple elts kk tpos) (ItE K a b) [e, it] e (fun i h => (∃ old, IsEnum h e it ((0 : Int) + (i : Int)) old) ∧ IsIt h it a b i ∧ e ≠ it ∧ a ≠ it ∧ a ≠ e) where
  mem := by simp
  obj := fun i h st c hc => by
    obtain ⟨⟨old, he⟩, hi, _⟩ := st
    have q : c = e ∨ c = it := by simpa using hc
    rcases q with q | q
    · rw [q]; exact ⟨_, he, fun v z => nomatch z⟩
    · rw [q]; exact hi.obj
  keep := fun i h h' st k => let ⟨⟨old, he⟩, hi, hne⟩ := st; ⟨⟨old, k e (by simp) _ he⟩, hi.at' fun o q => k it (by simp) o q, hne⟩
  item := by
    intro X hP hw hK hc i pins s σ H E I hf st hg
    subst hP hw hK
    obtain ⟨⟨old, he⟩, hit, ne1, ne2, ne3⟩ := st
    obtain ⟨xs, x, hq, hx⟩ := hg
    obtain ⟨its, rv, p, hz⟩ := Inv_sq I hq
    obtain ⟨u, hu, ru⟩ := rv.get hx
    have G := GoesN.enumFrom (prog := X.prog) (w := X.w) (A := X.A) (elts := elts) (x1 := kk) (pos := tpos) 0 (draws_sq (prog := X.prog) (w := X.w) (A := X.A.in1) (I.ok.hd hc) it a b ne2 its.toArray) e ne1 (by simp; exact ⟨ne1, Ne.symm ne3⟩) (by simp)
    have hlt : i < its.toArray.size := by
      have := (List.getElem?_eq_some_iff.mp hu).1
      simpa using this
    refine G.goes i s _ _ hlt ⟨⟨old, he⟩, hit, p⟩ fun v h' tk hY st' hk _ => ?_
    obtain ⟨T, t, x', ev, hT, hx', hT'⟩ := hY
    obtain ⟨⟨old', he'⟩, hit', _⟩ := st'
    have ex : x' = u := by
      have q : its.toArray[i]? = some x' := hx'
      have q2 : its[i]? = some x' := by simpa using q
      rw [hu] at q2; exact (Option.some.inj q2).symm
    subst ex
    have e0 : (0 : Int) + (i : Int) = ((i : Nat) : Int) := Int.zero_add _
    have hn : H T = none := I.hok.fresh hT
    have new : ObjOk X.prog X.w (upd H T (.tup [.int (i : Nat), x])) h' T (.tup [.int (i : Nat), x]) :=
      ⟨by show 2 ≤ sizeLine; decide, [.int ((0 : Int) + (i : Int)) t, x'], .cons ⟨_, by rw [e0]⟩ (.cons ru .nil), hT'⟩
    have I1 : Inv X pins σ (upd H T (.tup [.int (i : Nat), x])) { s with heap := h', toks := tk } := I.turnedNew (ch := [e, it]) (fun c o hb q => hk c o hb q) hf hT new
    refine ⟨.ref T, _, I1, ev, ⟨T, x, rfl, hn, rfl, fun ys hy => by rw [Inv_sqInj I hy hq]; exact hx⟩, ⟨⟨old', he'⟩, hit', ne1, ne2, ne3⟩, fun c hcm => ?_⟩
    have hlt' : c < s.heap.objs.size := by
      have q : c = e ∨ c = it := by simpa using hcm
      rcases q with q | q
      · rw [q]; exact Heap.lt_size he
      · rw [q]; obtain ⟨_, z, _⟩ := hit.obj; exact Heap.lt_size z
    rw [upd_ne (Nat.ne_of_lt (Nat.lt_of_lt_of_le hlt' hT))]
    exact (hf c hcm).1
  done := by
    intro X hP hw hK hc i pins s σ H E I hf st hg
    subst hP hw hK
    obtain ⟨⟨old, he⟩, hit, ne1, ne2, ne3⟩ := st
    obtain ⟨xs, hq, hx⟩ := hg
    obtain ⟨its, rv, p, hz⟩ := Inv_sq I hq
    have hl := rv.length
    have G := GoesN.enumFrom (prog := X.prog) (w := X.w) (A := X.A) (elts := elts) (x1 := kk) (pos := tpos) 0 (draws_sq (prog := X.prog) (w := X.w) (A := X.A.in1) (I.ok.hd hc) it a b ne2 its.toArray) e ne1 (by simp; exact ⟨ne1, Ne.symm ne3⟩) (by simp)
    have hlt : i = its.toArray.size := by rw [List.size_toArray]; omega
    subst hlt
    exact wpAny_mono (G.stops s _ E ⟨⟨old, he⟩, hit, p⟩ fun h' tk hk _ => I.turnedL (ch := [e, it]) (fun c o hb q => hk c o hb q) hf) (fun r s1 h => h) fun _ _ z => z
  self := fun A i s Q E st h => let ⟨⟨_, he⟩, _⟩ := st; wpAny_pyIter_enum he h
def ItZ (K : Fr) (a : Addr) (b : Bool) (a2 : Addr) (b2 : Bool) : It :=
  ⟨fun i H => ∃ xs ys x y, SqA K H a b xs ∧ SqA K H a2 b2 ys ∧ xs[i]? = some x ∧ ys[i]? = some y,
   fun i H v H' => ∃ T x y, v = .ref T ∧ H T = none ∧ H' = upd H T (.tup [x, y]) ∧ (∀ xs, SqA K H a b xs → xs[i]? = some x) ∧ ∀ ys, SqA K H a2 b2 ys → ys[i]? = some y,
   fun i H => ∃ xs ys, SqA K H a b xs ∧ SqA K H a2 b2 ys ∧ min xs.length ys.length = i⟩
theorem turnZ {P : Program} {w : World} {K : Fr} {elts : List Expr} {kk : Nat} {tpos : Pos} (a : Addr) (b : Bool) (a2 : Addr) (b2 : Bool) {z TI TO i1 i2 : Addr} (S : ZipSep2 z TI TO i1 i2 [i1, a] [i2, a2]) (na : a ≠ i1) (na2 : a2 ≠ i2) :
    Turn P w K (.Tuple elts kk tpos) (ItZ K a b a2 b2) [z, TI, TO, i1, i2] z (fun i h => IsZip h z TI TO .none ∧ IsTupOf2 h TI (.ref i1) (.ref i2) ∧ (∃ x y, IsTupOf2 h TO x y) ∧ IsIt h i1 a b i ∧ IsIt h i2 a2 b2 i) where
  mem := by simp
  obj := fun i h st c hc => by
    obtain ⟨hz, hTI, ⟨x, y, hTO⟩, h1, h2⟩ := st
    have q : c = z ∨ c = TI ∨ c = TO ∨ c = i1 ∨ c = i2 := by simpa using hc
    rcases q with q | q | q | q | q
    · rw [q]; exact ⟨_, hz, fun v z => nomatch z⟩
    · rw [q]; exact ⟨_, hTI, fun v z => nomatch z⟩
    · rw [q]; exact ⟨_, hTO, fun v z => nomatch z⟩
    · rw [q]; exact h1.obj
    · rw [q]; exact h2.obj
  keep := fun i h h' st k => by
    obtain ⟨hz, hTI, ⟨x, y, hTO⟩, h1, h2⟩ := st
    exact ⟨k z (by simp) _ hz, k TI (by simp) _ hTI, ⟨x, y, k TO (by simp) _ hTO⟩, h1.at' fun o q => k i1 (by simp) o q, h2.at' fun o q => k i2 (by simp) o q⟩
  item := by
    intro X hP hw hK hc i pins s σ H E I hf st hg
    subst hP hw hK
    obtain ⟨hz, hTI, hTO, h1, h2⟩ := st
    obtain ⟨xs, ys, x, y, hq, hq2, hx, hy⟩ := hg
    obtain ⟨its, rv, p, _⟩ := Inv_sq I hq
    obtain ⟨its2, rv2, p2, _⟩ := Inv_sq I hq2
    obtain ⟨u, hu, ru⟩ := rv.get hx
    obtain ⟨u2, hu2, ru2⟩ := rv2.get hy
    have G := GoesN.zip2 (prog := X.prog) (w := X.w) (A := X.A) (elts := elts) (x1 := kk) (pos := tpos) S (draws_sq (prog := X.prog) (w := X.w) (A := X.A.in1) (I.ok.hd hc) i1 a b na its.toArray) (draws_sq (prog := X.prog) (w := X.w) (A := X.A.in1) (I.ok.hd hc) i2 a2 b2 na2 its2.toArray)
    have hlt : i < min its.toArray.size its2.toArray.size := by
      have q1 := (List.getElem?_eq_some_iff.mp hu).1
      have q2 := (List.getElem?_eq_some_iff.mp hu2).1
      simp only [List.size_toArray]
      omega
    refine G.goes i s _ _ hlt ⟨hz, hTI, hTO, ⟨h1, p⟩, h2, p2⟩ fun v h' tk hY st' hk _ => ?_
    obtain ⟨T, x', y', ev, hT, hx', hy', hT'⟩ := hY
    obtain ⟨hz', hTI', hTO', ⟨h1', _⟩, h2', _⟩ := st'
    have ex : x' = u := by
      have q : its.toArray[i]? = some x' := hx'
      have q2 : its[i]? = some x' := by simpa using q
      rw [hu] at q2; exact (Option.some.inj q2).symm
    have ey : y' = u2 := by
      have q : its2.toArray[i]? = some y' := hy'
      have q2 : its2[i]? = some y' := by simpa using q
      rw [hu2] at q2; exact (Option.some.inj q2).symm
    subst ex ey
    have hn : H T = none := I.hok.fresh hT
    have new : ObjOk X.prog X.w (upd H T (.tup [x, y])) h' T (.tup [x, y]) := ⟨by show 2 ≤ sizeLine; decide, [x', y'], .cons ru (.cons ru2 .nil), hT'⟩
    have I1 : Inv X pins σ (upd H T (.tup [x, y])) { s with heap := h', toks := tk } := I.turnedNew (ch := [z, TI, TO, i1, i2]) (fun c o hb q => hk c o (fun m => hb (by
      have m' : c = z ∨ c = TO ∨ c = i1 ∨ c = i2 := by simpa using m
      rcases m' with m | m | m | m <;> simp [m])) q) hf hT new
    refine ⟨.ref T, _, I1, ev, ⟨T, x, y, rfl, hn, rfl, fun l hl => by rw [Inv_sqInj I hl hq]; exact hx, fun l hl => by rw [Inv_sqInj I hl hq2]; exact hy⟩, ⟨hz', hTI', hTO', h1', h2'⟩, fun c hcm => ?_⟩
    have hlt' : c < s.heap.objs.size := by
      obtain ⟨x0, y0, hTO⟩ := hTO
      have q : c = z ∨ c = TI ∨ c = TO ∨ c = i1 ∨ c = i2 := by simpa using hcm
      rcases q with q | q | q | q | q
      · rw [q]; exact Heap.lt_size hz
      · rw [q]; exact Heap.lt_size hTI
      · rw [q]; exact Heap.lt_size hTO
      · rw [q]; obtain ⟨_, e, _⟩ := h1.obj; exact Heap.lt_size e
      · rw [q]; obtain ⟨_, e, _⟩ := h2.obj; exact Heap.lt_size e
    rw [upd_ne (Nat.ne_of_lt (Nat.lt_of_lt_of_le hlt' hT))]
    exact (hf c hcm).1
  done := by
    intro X hP hw hK hc i pins s σ H E I hf st hg
    subst hP hw hK
    obtain ⟨hz, hTI, hTO, h1, h2⟩ := st
    obtain ⟨xs, ys, hq, hq2, hx⟩ := hg
    obtain ⟨its, rv, p, _⟩ := Inv_sq I hq
    obtain ⟨its2, rv2, p2, _⟩ := Inv_sq I hq2
    have hl := rv.length
    have hl2 := rv2.length
    have G := GoesN.zip2 (prog := X.prog) (w := X.w) (A := X.A) (elts := elts) (x1 := kk) (pos := tpos) S (draws_sq (prog := X.prog) (w := X.w) (A := X.A.in1) (I.ok.hd hc) i1 a b na its.toArray) (draws_sq (prog := X.prog) (w := X.w) (A := X.A.in1) (I.ok.hd hc) i2 a2 b2 na2 its2.toArray)
    have hlt : i = min its.toArray.size its2.toArray.size := by rw [List.size_toArray, List.size_toArray]; omega
    subst hlt
    exact wpAny_mono (G.stops s _ E ⟨hz, hTI, hTO, ⟨h1, p⟩, h2, p2⟩ fun h' tk hk _ => I.turnedL (ch := [z, TI, TO, i1, i2]) (fun c o hb q => hk c o (fun m => hb (by
      have m' : c = z ∨ c = TO ∨ c = i1 ∨ c = i2 := by simpa using m
      rcases m' with m | m | m | m <;> simp [m])) q) hf) (fun r s1 h => h) fun _ _ z => z
  self := fun A i s Q E st h => wpAny_pyIter_zip st.1 h
section
variable {X : Cx}
def iEnumA (K : Fr) (ta : TA) : TI := fun σ H R => ta σ H fun vs H1 => ∃ a b xs, vs = [.ref a] ∧ SqA K H1 a b xs ∧ R (ItE K a b) H1
theorem pi_enumA {e : Expr} {ta : TA} {p pos tpos : Pos} {elts : List Expr} {kk : Nat} (hg : Gl X "enumerate") (hm : X.mg "enumerate" = none) (ha : PA X [e] ta) (hs : starEach [e] X.env = [(false, eval e X.env)] := by rfl) :
    PI X (.Tuple elts kk tpos) (.Call (.Name "enumerate" p) [e] [] pos) (iEnumA X.K ta) := ⟨fun pins s σ H R I h =>
  Call_ (ld_blt I hg hm boot_enumerate (PyProof.Rows.callWith_type1 (thn (ha.run pos pins s σ H _ I h) fun us s1 ⟨vs, H1, I1, r1, q1⟩ => by
    obtain ⟨a, b, xs, ex, hq, q⟩ := q1
    subst ex
    obtain ⟨u, rfl, ru⟩ := vals1 r1
    obtain rfl : u = Value.ref a := ru
    obtain ⟨its, rv, p', _⟩ := Inv_sq I1 hq
    refine call_enum1 (begins_sq a b its.toArray) p' fun h' he hit hsz hk => wpAny_pyIter_enum he ?_
    have hl := p'.lt
    refine ⟨s1.heap.objs.size + 1, [s1.heap.objs.size + 1, s1.heap.objs.size], _, _, H1, rfl, I1.kept (t' := s1.toks) hk, turnE a b (s1.heap.objs.size + 1) s1.heap.objs.size, ⟨⟨.none, he⟩, IsIt.new hit, Nat.succ_ne_self _, Nat.ne_of_lt hl, Nat.ne_of_lt (Nat.lt_succ_of_lt hl)⟩, fun c hc => ?_, q⟩
    have e' : c = s1.heap.objs.size + 1 ∨ c = s1.heap.objs.size := by simpa using hc
    have hle : s1.heap.objs.size ≤ c := by rcases e' with z | z <;> rw [z] <;> first | exact Nat.le_add_right _ _ | exact Nat.le_refl _
    exact I1.fpOk hle (I1.hok.fresh hle)) hs rfl))⟩
def iZipM (K : Fr) (ta : TA) : TI := fun σ H R => ta σ H fun vs H1 => ∃ a b a2 b2 xs ys, vs = [.ref a, .ref a2] ∧ SqA K H1 a b xs ∧ SqA K H1 a2 b2 ys ∧ R (ItZ K a b a2 b2) H1
theorem pi_zipM {e e2 : Expr} {ta : TA} {p pos tpos : Pos} {elts : List Expr} {kk : Nat} (hg : Gl X "zip") (hm : X.mg "zip" = none) (ha : PA X [e, e2] ta)
    (hs : starEach [e, e2] X.env = (false, eval e X.env) :: starEach [e2] X.env := by rfl) (hpl : (backTo pos (starEach [e2] X.env)).any (·.1) = false := by rfl) :
    PI X (.Tuple elts kk tpos) (.Call (.Name "zip" p) [e, e2] [] pos) (iZipM X.K ta) := ⟨fun pins s σ H R I h =>
  Call_ (ld_blt I hg hm PyProof.Rows.boot_zip (PyProof.Rows.callWith_type1 (thn (ha.run pos pins s σ H _ I h) fun us s1 ⟨vs, H1, I1, r1, q1⟩ => by
    obtain ⟨a, b, a2, b2, xs, ys, ex, hq, hq2, q⟩ := q1
    subst ex
    cases r1 with
    | cons r rr =>
      obtain ⟨u2, rfl, ru2⟩ := vals1 rr
      cases r
      obtain rfl : u2 = Value.ref a2 := ru2
      obtain ⟨its, rv, p1, _⟩ := Inv_sq I1 hq
      obtain ⟨its2, rv2, p2, _⟩ := Inv_sq I1 hq2
      refine zip_begins2 (begins_sq a b its.toArray) (begins_sq a2 b2 its2.toArray) p1 p2 fun h' hz hTI hTO h1 h2 hsz hk => wpAny_pyIter_zip hz ?_
      have l1 := p1.lt
      have l2 := p2.lt
      refine ⟨s1.heap.objs.size + 4, [s1.heap.objs.size + 4, s1.heap.objs.size + 2, s1.heap.objs.size + 3, s1.heap.objs.size, s1.heap.objs.size + 1], _, _, H1, rfl, I1.kept (t' := s1.toks) hk,
        turnZ a b a2 b2 (zip_sep2 (N := s1.heap.objs.size) (fp1 := [a]) (fp2 := [a2]) (fun c hc => by
          have z : c = a := by simpa using hc
          rw [z]; exact l1) fun c hc => by
          have z : c = a2 := by simpa using hc
          rw [z]; exact l2) (Nat.ne_of_lt l1) (Nat.ne_of_lt (Nat.lt_succ_of_lt l2)), ⟨hz, hTI, ⟨_, _, hTO⟩, IsIt.new h1, IsIt.new h2⟩, fun c hc => ?_, q⟩
      have e' : c = s1.heap.objs.size + 4 ∨ c = s1.heap.objs.size + 2 ∨ c = s1.heap.objs.size + 3 ∨ c = s1.heap.objs.size ∨ c = s1.heap.objs.size + 1 := by simpa using hc
      have hle : s1.heap.objs.size ≤ c := by rcases e' with z | z | z | z | z <;> rw [z] <;> first | exact Nat.le_add_right _ _ | exact Nat.le_refl _
      exact I1.fpOk hle (I1.hok.fresh hle)) hs hpl))⟩
end
end Fz
set_option Elab.async false
set_option linter.all false
set_option maxRecDepth 100000
set_option maxHeartbeats 4000000
/-! Functionalization: what is walked, by data; targets; comprehensions. -/
namespace Fz
open PySem PySem.Spec PyProof.Rows L2

/-! ### what is walked -/
structure Yl (K : Fr) (B : Hp) (J : It) (ds : List D) : Prop where
  go : ∀ i H, Ex B H → i < ds.length → J.go i H
  yld : ∀ i d H v H' B', Ex B B' → Ex B' H → ds[i]? = some d → J.yld i H v H' → ∃ B2, Gr B' H B2 H' ∧ Rep K B2 v d
  stop : ∀ H, Ex B H → J.stop ds.length H
def AfY (K : Fr) (W : WX) (B : Hp) (σ : L2.St) (H : Hp) (R : It → Hp → Prop) : Res (List D) → Prop
  | .ok ds => ∀ J H' B', Gr B H B' H' → Yl K B' J ds → R J H'
  | .exc c fs => ∀ H' B' dct, Gr B H B' H' → ExcRep K B' H' dct fs → W (.ref (He.ga K c)) dct σ H'
  | .bad => False
def rdI (K : Fr) (w : List Ow) (W : WX) (di : Env → Res (List D)) : TI := fun σ H R => ∃ B env fp, Rel K w B H σ env fp ∧ AfY K W B σ H R (di env)
theorem PI_weak {X : Cx} {tg e : Expr} {t t' : TI} (h : PI X tg e t) (hw : ∀ σ H R, t' σ H R → t σ H R) : PI X tg e t' := ⟨fun pins s σ H R I q => h.run pins s σ H R I (hw σ H R q)⟩
theorem PI_or {X : Cx} {tg e : Expr} {t t' : TI} (h : PI X tg e t) (h' : PI X tg e t') : PI X tg e (fun σ H R => t σ H R ∨ t' σ H R) := ⟨fun pins s σ H R I q => q.elim (h.run pins s σ H R I) (h'.run pins s σ H R I)⟩
section
variable {K : Fr} {W : WX} {w : List Ow}
theorem AfY.gr {B H B1 H1 : Hp} {σ : L2.St} {R : It → Hp → Prop} (g : Gr B H B1 H1) : ∀ {r : Res (List D)}, AfY K W B σ H R r → AfY K W B1 σ H1 R r
  | .ok d, h => fun J H' B' g2 y => h J H' B' (g.tr g2) y
  | .exc c fs, h => fun H' B' dct g2 r => h H' B' dct (g.tr g2) r
  | .bad, h => h
theorem AfY.val {B H : Hp} {σ : L2.St} {R : It → Hp → Prop} {ds : List D} {J : It} (s : Ex B H) (h : AfY K W B σ H R (.ok ds)) (y : Yl K B J ds) : R J H := h J H B (Gr.rf s) y
theorem AfY.iff {B H : Hp} {σ : L2.St} {R : It → Hp → Prop} {c : Prop} [Decidable c] {r : Res (List D)} (h : AfY K W B σ H R (if c then r else .bad)) : c ∧ AfY K W B σ H R r := by
  by_cases q : c
  · rw [if_pos q] at h; exact ⟨q, h⟩
  · rw [if_neg q] at h; exact h.elim
/-- first a value, then the walk -/
theorem rdE_thenY {a : Env → Res D} {σ : L2.St} {H B : Hp} {env : Env} {fp : Nat → List Addr} {Q : VK} {R2 : It → Hp → Prop} {f : D → Res (List D)} (R : Rel K w B H σ env fp) (h : AfY K W B σ H R2 ((a env).bind f))
    (go : ∀ d v H1 B1, a env = .ok d → Gr B H B1 H1 → Rel K w B1 H1 σ env fp → Rep K B1 v d → AfY K W B1 σ H1 R2 (f d) → Q v H1) : rdE K w W a .z σ H Q := by
  refine ⟨B, env, fp, R, ?_⟩
  cases e : a env with
  | ok d =>
    rw [e] at h
    intro v H1 B1 fs g r nd hf
    exact go d v H1 B1 e g (R.gr g) r.1 (AfY.gr g h)
  | exc c fs => rw [e] at h; exact h
  | bad => rw [e] at h; exact h
theorem rdA_thenY {a : Env → Res (List D)} {σ : L2.St} {H B : Hp} {env : Env} {fp : Nat → List Addr} {Q : List V → Hp → Prop} {R2 : It → Hp → Prop} {f : List D → Res (List D)} (R : Rel K w B H σ env fp) (h : AfY K W B σ H R2 ((a env).bind f))
    (go : ∀ ds vs H1 B1, a env = .ok ds → Gr B H B1 H1 → Rel K w B1 H1 σ env fp → Reps K B1 vs ds → AfY K W B1 σ H1 R2 (f ds) → Q vs H1) : rdA K w W a σ H Q := by
  refine ⟨B, env, fp, R, ?_⟩
  cases e : a env with
  | ok ds =>
    rw [e] at h
    intro vs H1 B1 g r
    exact go ds vs H1 B1 e g (R.gr g) r (AfY.gr g h)
  | exc c fs => rw [e] at h; exact h
  | bad => rw [e] at h; exact h
variable {B : Hp}
theorem Yl.list {a : Addr} {vs : List V} {ds : List D} (h : SqL K B a vs) (r : Reps K B vs ds) : Yl K B (Itl K a) ds where
  go := fun i H e hi => by
    obtain ⟨v, hv, _⟩ := r.get (i := i) (d := ds[i]) (List.getElem?_eq_getElem hi)
    exact ⟨vs, v, e.sl h, hv⟩
  yld := fun i d H v H' B' e1 e2 hd ⟨eh, hv⟩ => by
    subst eh
    obtain ⟨u, hu, ru⟩ := r.get hd
    have q := hv vs (e2.sl (e1.sl h))
    rw [hu] at q; cases q
    exact ⟨B', Gr.rf e2, ru.mono e1⟩
  stop := fun H e => ⟨vs, e.sl h, by rw [r.length]; exact Nat.le_refl _⟩
theorem Yl.tup {a : Addr} {vs : List V} {ds : List D} (h : SqT K B a vs) (r : Reps K B vs ds) : Yl K B (Itt K a) ds where
  go := fun i H e hi => by
    obtain ⟨v, hv, _⟩ := r.get (i := i) (d := ds[i]) (List.getElem?_eq_getElem hi)
    exact ⟨vs, v, e.st h, hv⟩
  yld := fun i d H v H' B' e1 e2 hd ⟨eh, hv⟩ => by
    subst eh
    obtain ⟨u, hu, ru⟩ := r.get hd
    have q := hv vs (e2.st (e1.st h))
    rw [hu] at q; cases q
    exact ⟨B', Gr.rf e2, ru.mono e1⟩
  stop := fun H e => ⟨vs, e.st h, by rw [r.length]; exact Nat.le_refl _⟩
def chD (x : Str) : List D := x.cps.toList.map fun c => D.str ⟨#[c]⟩
theorem Yl.str {x : Str} : Yl K B (Its x) (chD x) where
  go := fun i H e hi => by
    have hi' : i < x.cps.size := by simpa [chD] using hi
    exact hi'
  yld := fun i d H v H' B' e1 e2 hd ⟨eh, c, hc, hv⟩ => by
    subst eh hv
    refine ⟨B', Gr.rf e2, ?_⟩
    have q : some (D.str ⟨#[c]⟩) = some d := by
      rw [← hd, chD, List.getElem?_map, Array.getElem?_toList, hc]
      rfl
    cases q
    exact .str _
  stop := fun H e => by
    show x.cps.size ≤ (chD x).length
    simp [chD]
def rngD (lo : Int) (n : Nat) : List D := (List.range n).map fun (i : Nat) => D.int (lo + (i : Int))
theorem rngD_length (lo : Int) (n : Nat) : (rngD lo n).length = n := by simp [rngD]
theorem rngD_get {lo : Int} {n i : Nat} (h : i < n) : (rngD lo n)[i]? = some (.int (lo + (i : Int))) := by simp [rngD, h]
theorem Yl.range {lo : Int} {n : Nat} : Yl K B (Itr lo n) (rngD lo n) where
  go := fun i H e hi => by rw [rngD_length] at hi; exact hi
  yld := fun i d H v H' B' e1 e2 hd ⟨eh, hv⟩ => by
    subst eh hv
    have hi : i < n := by rw [← rngD_length lo n]; exact (List.getElem?_eq_some_iff.mp hd).1
    rw [rngD_get hi] at hd; cases hd
    exact ⟨B', Gr.rf e2, .int _⟩
  stop := fun H e => by rw [rngD_length]; exact Nat.le_refl _
def rngC (lo c : Int) (n : Nat) : List D := (List.range n).map fun (i : Nat) => D.int (lo + (i : Int) * c)
theorem rngC_length (lo c : Int) (n : Nat) : (rngC lo c n).length = n := by simp [rngC]
theorem rngC_get {lo c : Int} {n i : Nat} (h : i < n) : (rngC lo c n)[i]? = some (.int (lo + (i : Int) * c)) := by simp [rngC, h]
theorem Yl.rangeC {lo c : Int} {n : Nat} : Yl K B (Itc lo c n) (rngC lo c n) where
  go := fun i H e hi => by rw [rngC_length] at hi; exact hi
  yld := fun i d H v H' B' e1 e2 hd ⟨eh, hv⟩ => by
    subst eh hv
    have hi : i < n := by rw [← rngC_length lo c n]; exact (List.getElem?_eq_some_iff.mp hd).1
    rw [rngC_get hi] at hd; cases hd
    exact ⟨B', Gr.rf e2, .int _⟩
  stop := fun H e => by rw [rngC_length]; exact Nat.le_refl _
theorem SqA_of {a : Addr} {vs : List V} (h : SqL K B a vs ∨ SqT K B a vs) : ∃ b, SqA K B a b vs := h.elim (fun h => ⟨true, h⟩) fun h => ⟨false, h⟩
def enumD : Nat → List D → List D
  | _, [] => []
  | i, d :: r => .tup [.int (i : Nat), d] :: enumD (i + 1) r
theorem enumD_length : ∀ (k : Nat) (ds : List D), (enumD k ds).length = ds.length
  | _, [] => rfl
  | k, _ :: r => congrArg (· + 1) (enumD_length (k + 1) r)
theorem enumD_get : ∀ {k : Nat} {ds : List D} {i : Nat}, (enumD k ds)[i]? = (ds[i]?).map fun d => .tup [.int ((k + i : Nat) : Int), d]
  | k, [], i => by simp [enumD]
  | k, d :: r, 0 => by simp [enumD]
  | k, d :: r, i + 1 => by
    have e : k + 1 + i = k + (i + 1) := by omega
    simp only [enumD, List.getElem?_cons_succ, enumD_get, e]
theorem Yl.enum {a : Addr} {b : Bool} {vs : List V} {ds : List D} (h : SqA K B a b vs) (r : Reps K B vs ds) : Yl K B (ItE K a b) (enumD 0 ds) where
  go := fun i H e hi => by
    rw [enumD_length] at hi
    obtain ⟨v, hv, _⟩ := r.get (i := i) (d := ds[i]) (List.getElem?_eq_getElem hi)
    exact ⟨vs, v, h.mono e, hv⟩
  yld := fun i d H v H' B' e1 e2 hd ⟨T, x, ev, hT, eh, hv⟩ => by
    subst ev eh
    rw [enumD_get] at hd
    obtain ⟨d0, hd0, ed⟩ := Option.map_eq_some_iff.mp hd
    subst ed
    obtain ⟨u, hu, ru⟩ := r.get hd0
    have q := hv vs (h.mono (e1.tr e2))
    rw [hu] at q; cases q
    refine ⟨_, Gr.new e2 hT, .tup (SqT.of upd_same) (.cons ?_ (.cons ((ru.mono e1).mono (Ex.new (e2.back hT))) .nil))⟩
    rw [Nat.zero_add]
    exact .int _
  stop := fun H e => ⟨vs, h.mono e, by rw [enumD_length]; exact r.length⟩
def zipD : List D → List D → List D
  | d :: r, e :: s => .tup [d, e] :: zipD r s
  | _, _ => []
theorem zipD_length : ∀ (ds es : List D), (zipD ds es).length = min ds.length es.length
  | [], es => by simp [zipD]
  | _ :: _, [] => by simp [zipD]
  | d :: r, e :: s => by simp [zipD, zipD_length r s]
theorem zipD_get : ∀ {ds es : List D} {i : Nat} {d : D}, (zipD ds es)[i]? = some d → ∃ x y, ds[i]? = some x ∧ es[i]? = some y ∧ d = .tup [x, y]
  | [], es, i, d, h => by simp [zipD] at h
  | _ :: _, [], i, d, h => by simp [zipD] at h
  | a :: r, e :: s, 0, d, h => by
    simp [zipD] at h
    exact ⟨a, e, rfl, rfl, h.symm⟩
  | a :: r, e :: s, i + 1, d, h => by
    simp only [zipD, List.getElem?_cons_succ] at h
    simpa using zipD_get h
theorem Yl.zip {a a2 : Addr} {b b2 : Bool} {vs us : List V} {ds es : List D} (h : SqA K B a b vs) (r : Reps K B vs ds) (h2 : SqA K B a2 b2 us) (r2 : Reps K B us es) : Yl K B (ItZ K a b a2 b2) (zipD ds es) where
  go := fun i H e hi => by
    rw [zipD_length] at hi
    have i1 : i < ds.length := by omega
    have i2 : i < es.length := by omega
    obtain ⟨v, hv, _⟩ := r.get (i := i) (d := ds[i]) (List.getElem?_eq_getElem i1)
    obtain ⟨u, hu, _⟩ := r2.get (i := i) (d := es[i]) (List.getElem?_eq_getElem i2)
    exact ⟨vs, us, v, u, h.mono e, h2.mono e, hv, hu⟩
  yld := fun i d H v H' B' e1 e2 hd ⟨T, x, y, ev, hT, eh, hv, hu⟩ => by
    subst ev eh
    obtain ⟨d1, d2, g1, g2, ed⟩ := zipD_get hd
    subst ed
    obtain ⟨u1, hu1, ru1⟩ := r.get g1
    obtain ⟨u2, hu2, ru2⟩ := r2.get g2
    have q := hv vs (h.mono (e1.tr e2))
    rw [hu1] at q; cases q
    have q := hu us (h2.mono (e1.tr e2))
    rw [hu2] at q; cases q
    have ex : Ex B (upd B' T (.tup [x, y])) := e1.tr (Ex.new (e2.back hT))
    exact ⟨_, Gr.new e2 hT, .tup (SqT.of upd_same) (.cons (ru1.mono ex) (.cons (ru2.mono ex) .nil))⟩
  stop := fun H e => ⟨vs, us, h.mono e, h2.mono e, by rw [zipD_length, r.length, r2.length]⟩
theorem Yl.revL {a : Addr} {vs : List V} {ds : List D} (h : SqL K B a vs) (r : Reps K B vs ds) : Yl K B (Itv K a vs.length) ds.reverse where
  go := fun i H e hi => by
    rw [List.length_reverse, ← r.length] at hi
    have hj : vs.length - 1 - i < vs.length := by omega
    exact ⟨hi, vs, vs[vs.length - 1 - i], e.sl h, List.getElem?_eq_getElem hj⟩
  yld := fun i d H v H' B' e1 e2 hd ⟨eh, hv⟩ => by
    subst eh
    have hi : i < ds.length := by
      have q := (List.getElem?_eq_some_iff.mp hd).1
      simpa using q
    rw [List.getElem?_reverse hi] at hd
    obtain ⟨u, hu, ru⟩ := r.get hd
    have q := hv vs (e2.sl (e1.sl h))
    rw [r.length] at q
    rw [hu] at q; cases q
    exact ⟨B', Gr.rf e2, ru.mono e1⟩
  stop := fun H e => by
    show vs.length ≤ ds.reverse.length
    rw [List.length_reverse, r.length]; exact Nat.le_refl _
theorem Yl.revT {a : Addr} {vs : List V} {ds : List D} (h : SqT K B a vs) (r : Reps K B vs ds) : Yl K B (RT.ItvT K a vs.length) ds.reverse where
  go := fun i H e hi => by
    rw [List.length_reverse, ← r.length] at hi
    have hj : vs.length - 1 - i < vs.length := by omega
    exact ⟨hi, vs, vs[vs.length - 1 - i], e.st h, List.getElem?_eq_getElem hj⟩
  yld := fun i d H v H' B' e1 e2 hd ⟨eh, hv⟩ => by
    subst eh
    have hi : i < ds.length := by
      have q := (List.getElem?_eq_some_iff.mp hd).1
      simpa using q
    rw [List.getElem?_reverse hi] at hd
    obtain ⟨u, hu, ru⟩ := r.get hd
    have q := hv vs (e2.st (e1.st h))
    rw [r.length] at q
    rw [hu] at q; cases q
    exact ⟨B', Gr.rf e2, ru.mono e1⟩
  stop := fun H e => by
    show vs.length ≤ ds.reverse.length
    rw [List.length_reverse, r.length]; exact Nat.le_refl _
end

/-! ### the rules -/
def itD : D → Res (List D)
  | .lst ds => .ok ds
  | .scr ds => .ok ds
  | .tup ds => .ok ds
  | .str x => .ok (chD x)
  | _ => .bad
def smallI (i : Int) : Prop := -(2 ^ 62) ≤ i ∧ i < 2 ^ 62
instance (i : Int) : Decidable (smallI i) := by unfold smallI; infer_instance
def rng1D : List D → Res (List D)
  | [.int j] => if smallI j then .ok (rngD 0 j.toNat) else .bad
  | _ => .bad
def rng2D : List D → Res (List D)
  | [.int i, .int j] => if smallI i ∧ smallI j then .ok (rngD i (j - i).toNat) else .bad
  | _ => .bad
def rng3D : List D → Res (List D)
  | [.int i, .int j, .int c] => if c = -1 ∧ smallI i ∧ smallI j then .ok (rngC i (-1) (i - j).toNat) else .bad
  | _ => .bad
def enmD : List D → Res (List D)
  | [d] => match seq? d with | some ds => .ok (enumD 0 ds) | none => .bad
  | _ => .bad
def zp2D : List D → Res (List D)
  | [d, e] => match seq? d, seq? e with | some ds, some es => .ok (zipD ds es) | _, _ => .bad
  | _ => .bad
def revD (d : D) : Res (List D) := match seq? d with | some ds => .ok ds.reverse | none => .bad
def iSeq (f : D → Res (List D)) (a : Env → Res D) : Env → Res (List D) := fun env => (a env).bind f
def iArg (f : List D → Res (List D)) (a : Env → Res (List D)) : Env → Res (List D) := fun env => (a env).bind f
section
variable {X : Cx} {K : Fr} {W : WX} {w : List Ow} {e e1 e2 tg : Expr} {da : Env → Res D} {aa : Env → Res (List D)} {p pos tpos : Pos} {elts : List Expr} {kk : Nat}
theorem AfY.sq {B H : Hp} {σ : L2.St} {R : It → Hp → Prop} {o : Option (List D)} {g : List D → Res (List D)} (h : AfY K W B σ H R (match o with | some ds => g ds | none => .bad)) : ∃ ds, o = some ds ∧ AfY K W B σ H R (g ds) := by
  cases o with
  | some ds => exact ⟨ds, rfl, h⟩
  | none => exact h.elim
theorem i_seq (ha : PE X e (rdE K w W da .z)) (hK : X.K = K := by rfl) : PI X tg e (rdI K w W (iSeq itD da)) := by
  subst hK
  refine PI_weak (PI_or (pi_list ha) (PI_or (pi_tup ha) (pi_str ha))) fun σ H R ⟨B, env, fp, Rl, h⟩ => ?_
  have h : AfY X.K W B σ H R ((da env).bind itD) := h
  by_cases c1 : ∃ ds, da env = .ok (.tup ds)
  · refine .inr (.inl (rdE_thenY Rl h fun d v H1 B1 ed g1 R1 r1 h1 => ?_))
    obtain ⟨ds, q⟩ := c1
    rw [q] at ed; cases ed
    cases r1 with
    | tup hp rs => exact ⟨_, rfl, ⟨_, R1.s.st hp⟩, AfY.val R1.s h1 (Yl.tup hp rs)⟩
  · by_cases c2 : ∃ x, da env = .ok (.str x)
    · refine .inr (.inr (rdE_thenY Rl h fun d v H1 B1 ed g1 R1 r1 h1 => ?_))
      obtain ⟨ds, q⟩ := c2
      rw [q] at ed; cases ed
      cases r1 with
      | str x => exact ⟨_, rfl, AfY.val R1.s h1 Yl.str⟩
    · refine .inl (rdE_thenY Rl h fun d v H1 B1 ed g1 R1 r1 h1 => ?_)
      cases r1 with
      | lst hp rs => exact ⟨_, rfl, ⟨_, SqL.of (R1.s _ _ hp)⟩, AfY.val R1.s h1 (Yl.list (SqL.of hp) rs)⟩
      | scr hp rs => exact ⟨_, rfl, ⟨_, R1.s.sl hp⟩, AfY.val R1.s h1 (Yl.list hp rs)⟩
      | tup hp rs => exact absurd ⟨_, ed⟩ c1
      | str x => exact absurd ⟨_, ed⟩ c2
      | _ => exact h1.elim
theorem i_range1 (hm : X.mg "range" = none) (ha : PA X [e] (rdA K w W aa)) (hg : Gl X "range" := by rfl) (hs : starEach [e] X.env = [(false, eval e X.env)] := by rfl) : PI X tg (.Call (.Name "range" p) [e] [] pos) (rdI K w W (iArg rng1D aa)) :=
  PI_weak (pi_range1 hg hm ha hs) fun σ H R ⟨B, env, fp, Rl, h⟩ => rdA_thenY Rl h fun ds vs H1 B1 ed g1 R1 r1 h1 => by
    cases r1 with
    | nil => exact h1.elim
    | cons r rs =>
      cases rs with
      | cons _ _ => cases r <;> exact h1.elim
      | nil =>
        cases r with
        | int j =>
          obtain ⟨hz, h1⟩ := AfY.iff (show AfY K W B1 σ H1 R (if smallI j then _ else _) from h1)
          exact ⟨j, rfl, hz.1, hz.2, AfY.val R1.s h1 Yl.range⟩
        | _ => exact h1.elim
theorem i_range2 (hm : X.mg "range" = none) (ha : PA X [e, e1] (rdA K w W aa)) (hg : Gl X "range" := by rfl) (hs : starEach [e, e1] X.env = [(false, eval e X.env), (false, eval e1 X.env)] := by rfl) (hs2 : starEach [e1] X.env = [(false, eval e1 X.env)] := by rfl) :
    PI X tg (.Call (.Name "range" p) [e, e1] [] pos) (rdI K w W (iArg rng2D aa)) :=
  PI_weak (pi_range2 hg hm ha hs hs2) fun σ H R ⟨B, env, fp, Rl, h⟩ => rdA_thenY Rl h fun ds vs H1 B1 ed g1 R1 r1 h1 => by
    cases r1 with
    | nil => exact h1.elim
    | cons r rs =>
      cases rs with
      | nil => cases r <;> exact h1.elim
      | cons r2 rs =>
        cases rs with
        | cons _ _ => cases r <;> first | exact h1.elim | (cases r2 <;> exact h1.elim)
        | nil =>
          cases r with
          | int i =>
            cases r2 with
            | int j =>
              obtain ⟨hz, h1⟩ := AfY.iff (show AfY K W B1 σ H1 R (if smallI i ∧ smallI j then _ else _) from h1)
              exact ⟨i, j, rfl, ⟨hz.1.1, hz.1.2, hz.2.1, hz.2.2⟩, AfY.val R1.s h1 Yl.range⟩
            | _ => exact h1.elim
          | _ => exact h1.elim
theorem i_range3 (hm : X.mg "range" = none) (ha : PA X [e, e1, e2] (rdA K w W aa)) (hg : Gl X "range" := by rfl) (hs : starEach [e, e1, e2] X.env = (false, eval e X.env) :: starEach [e1, e2] X.env := by rfl) (hpl : (backTo pos (starEach [e1, e2] X.env)).any (·.1) = false := by rfl) :
    PI X tg (.Call (.Name "range" p) [e, e1, e2] [] pos) (rdI K w W (iArg rng3D aa)) :=
  PI_weak (pi_range3 hg hm ha hs hpl) fun σ H R ⟨B, env, fp, Rl, h⟩ => rdA_thenY Rl h fun ds vs H1 B1 ed g1 R1 r1 h1 => by
    have h1 : AfY K W B1 σ H1 R (rng3D ds) := h1
    unfold rng3D at h1
    split at h1
    · rename_i i j c
      obtain ⟨⟨hc, hi, hj⟩, h2⟩ := AfY.iff h1
      cases r1 with
      | cons r1 r2 =>
        cases r2 with
        | cons r2 r3 =>
          cases r3 with
          | cons r3 r4 =>
            cases r4
            rw [r1.intI, r2.intI, r3.intI]
            subst hc
            exact ⟨_, _, -1, _, rfl, RgC.neg hi.1 hi.2 hj.1 hj.2, AfY.val R1.s h2 Yl.rangeC⟩
    · exact h1.elim
theorem i_enum (hm : X.mg "enumerate" = none) (ha : PA X [e] (rdA K w W aa)) (hg : Gl X "enumerate" := by rfl) (hs : starEach [e] X.env = [(false, eval e X.env)] := by rfl) (hK : X.K = K := by rfl) : PI X (.Tuple elts kk tpos) (.Call (.Name "enumerate" p) [e] [] pos) (rdI K w W (iArg enmD aa)) := by
  subst hK
  refine PI_weak (pi_enumA hg hm ha hs) fun σ H R ⟨B, env, fp, Rl, h⟩ => rdA_thenY Rl h fun ds vs H1 B1 ed g1 R1 r1 h1 => ?_
  cases r1 with
  | nil => exact h1.elim
  | cons r rs =>
    cases rs with
    | cons _ _ => exact h1.elim
    | nil =>
      rename_i v d
      obtain ⟨ds, hd, h1⟩ := AfY.sq (show AfY X.K W B1 σ H1 R (match seq? d with | some ds => .ok (enumD 0 ds) | none => .bad) from h1)
      obtain ⟨p, vs, rfl, hp, rs⟩ := r.seq (Ex.rfl' _) hd
      obtain ⟨b, hb⟩ := SqA_of hp
      exact ⟨p, b, vs, rfl, hb.mono R1.s, AfY.val R1.s h1 (Yl.enum hb rs)⟩
theorem i_zip (hm : X.mg "zip" = none) (ha : PA X [e, e1] (rdA K w W aa)) (hg : Gl X "zip" := by rfl) (hs : starEach [e, e1] X.env = (false, eval e X.env) :: starEach [e1] X.env := by rfl) (hpl : (backTo pos (starEach [e1] X.env)).any (·.1) = false := by rfl) (hK : X.K = K := by rfl) :
    PI X (.Tuple elts kk tpos) (.Call (.Name "zip" p) [e, e1] [] pos) (rdI K w W (iArg zp2D aa)) := by
  subst hK
  refine PI_weak (pi_zipM hg hm ha hs hpl) fun σ H R ⟨B, env, fp, Rl, h⟩ => rdA_thenY Rl h fun ds vs H1 B1 ed g1 R1 r1 h1 => ?_
  have h1 : AfY X.K W B1 σ H1 R (zp2D ds) := h1
  unfold zp2D at h1
  split at h1
  · rename_i d d2
    split at h1
    · rename_i xs ys hx hy
      cases r1 with
      | cons r1 r2 =>
        cases r2 with
        | cons r2 r3 =>
          cases r3
          obtain ⟨p, vs, rfl, hp, rs⟩ := r1.seq (Ex.rfl' _) hx
          obtain ⟨b, hb⟩ := SqA_of hp
          obtain ⟨p2, vs2, rfl, hp2, rs2⟩ := r2.seq (Ex.rfl' _) hy
          obtain ⟨b2, hb2⟩ := SqA_of hp2
          exact ⟨p, b, p2, b2, vs, vs2, rfl, hb.mono R1.s, hb2.mono R1.s, AfY.val R1.s h1 (Yl.zip hb rs hb2 rs2)⟩
    · exact h1.elim
  · exact h1.elim
theorem i_rev (hm : X.mg "reversed" = none) (ha : PE X e (rdE K w W da .z)) (hg : Gl X "reversed" := by rfl) (hs : starEach [e] X.env = (false, eval e X.env) :: starEach [] X.env := by rfl) (hK : X.K = K := by rfl) : PI X tg (.Call (.Name "reversed" p) [e] [] pos) (rdI K w W (iSeq revD da)) := by
  subst hK
  refine PI_weak (RT.pi_revA hg hm ha hs) fun σ H R ⟨B, env, fp, Rl, h⟩ => rdE_thenY Rl h fun d v H1 B1 ed g1 R1 r1 h1 => ?_
  obtain ⟨ds, hd, h1⟩ := AfY.sq (show AfY X.K W B1 σ H1 R (match seq? d with | some ds => .ok ds.reverse | none => .bad) from h1)
  obtain ⟨p, vs, rfl, hp, rs⟩ := r1.seq (Ex.rfl' _) hd
  rcases hp with hp | hp
  · exact ⟨p, vs, rfl, .inl ⟨R1.s.sl hp, AfY.val R1.s h1 (Yl.revL hp rs)⟩⟩
  · exact ⟨p, vs, rfl, .inr ⟨R1.s.st hp, AfY.val R1.s h1 (Yl.revT hp rs)⟩⟩
/-- tuple(reversed(a list)) -/
def tupRevD : D → Res D
  | .lst ds => .ok (.tup ds.reverse)
  | .scr ds => .ok (.tup ds.reverse)
  | _ => .bad
theorem e_tupRev {p2 pos2 : Pos} (hm : X.mg "tuple" = none) (hm2 : X.mg "reversed" = none) (ha : PE X e (rdE K w W da .z)) (hc : X.calm = true := by rfl) (hg : Gl X "tuple" := by rfl) (hg2 : Gl X "reversed" := by rfl) (hs : starEach [e] X.env = (false, eval e X.env) :: starEach [] X.env := by rfl)
    (hs2 : starEach [.Call (.Name "reversed" p2) [e] [] pos2] X.env = (false, eval (.Call (.Name "reversed" p2) [e] [] pos2) X.env) :: starEach [] X.env := by rfl) (hK : X.K = K := by rfl) :
    PE X (.Call (.Name "tuple" p) [.Call (.Name "reversed" p2) [e] [] pos2] [] pos) (rdE K w W (d1 tupRevD da) .z) := by
  subst hK
  refine PE_weak (RT.pe_tupRev hc hg hm hg2 hm2 ha hs hs2) fun σ H Q ⟨B, env, fp, R, h⟩ => rdE_then R h fun d v H1 B1 _ g1 R1 r1 h1 => ?_
  cases r1 with
  | lst hp rs => exact ⟨_, _, rfl, SqL.of (R1.s _ _ hp), fun q hq => AfE.newB R1.s h1 hq (.tup (SqT.of upd_same) (rs.reverse.mono (Ex.new (R1.s.back hq))))⟩
  | scr hp rs => exact ⟨_, _, rfl, R1.s.sl hp, fun q hq => AfE.newB R1.s h1 hq (.tup (SqT.of upd_same) (rs.reverse.mono (Ex.new (R1.s.back hq))))⟩
  | _ => exact h1.elim
end
end Fz
set_option Elab.async false
set_option linter.all false
set_option maxRecDepth 100000
set_option maxHeartbeats 4000000
/-! Functionalization: targets, comprehensions. -/
namespace Fz
open PySem PySem.Spec PyProof.Rows L2

/-! ### targets -/
def SameOff (vs : List Nat) (σ σ' : L2.St) : Prop := σ'.length = σ.length ∧ ∀ j, j ∉ vs → σ'[j]? = σ[j]?
theorem SameOff.rf (vs : List Nat) (σ : L2.St) : SameOff vs σ σ := ⟨rfl, fun _ _ => rfl⟩
theorem SameOff.tr {vs : List Nat} {σ τ ρ : L2.St} (a : SameOff vs σ τ) (b : SameOff vs τ ρ) : SameOff vs σ ρ := ⟨b.1.trans a.1, fun j h => (b.2 j h).trans (a.2 j h)⟩
theorem SameOff.set {vs : List Nat} {σ : L2.St} {i : Nat} {o : Option V} (h : i ∈ vs) : SameOff vs σ (σ.set i o) := ⟨List.length_set, fun j hj => List.getElem?_set_ne fun e => hj (by rw [← e]; exact h)⟩
def tgN (i : Nat) : D → Env → Option Env := fun d env => if i < env.length then some (env.set i (some d)) else none
def tgL : List Nat → List D → Env → Option Env
  | [], [], env => some env
  | i :: r, d :: ds, env => if i < env.length then tgL r ds (env.set i (some d)) else none
  | _, _, _ => none
def tgT (is : List Nat) : D → Env → Option Env := fun d env => match d with
  | .tup ds => tgL is ds env
  | _ => none
def Sub (fp' fp : Nat → List Addr) : Prop := ∀ i, ∀ a ∈ fp' i, a ∈ fp i
theorem Sub.tr {f g h : Nat → List Addr} (a : Sub f g) (b : Sub g h) : Sub f h := fun i x hx => b i x (a i x hx)
def rdG (K : Fr) (w : List Ow) (vs : List Nat) (tg : D → Env → Option Env) : TG := fun v σ H Q => ∃ B env fp d, Rel K w B H σ env fp ∧ Rep K B v d ∧ ∃ env', tg d env = some env' ∧ ∀ σ' fp', Rel K w B H σ' env' fp' → Sub fp' fp → SameOff vs σ σ' → Q σ' H
def rdGs (K : Fr) (w : List Ow) (vs is : List Nat) : TGs := fun us σ H Q => ∃ B env fp ds, Rel K w B H σ env fp ∧ Reps K B us ds ∧ ∃ env', tgL is ds env = some env' ∧ ∀ σ' fp', Rel K w B H σ' env' fp' → Sub fp' fp → SameOff vs σ σ' → Q σ' H
theorem PG_weak {X : Cx} {tg : Expr} {t t' : TG} (h : PG X tg t) (hw : ∀ v σ H Q, t' v σ H Q → t v σ H Q) : PG X tg t' := ⟨fun pins s σ H v u Q I r q => h.run pins s σ H v u Q I r (hw v σ H Q q)⟩
theorem PGs_weak {X : Cx} {tg : List Expr} {t t' : TGs} (h : PGs X tg t) (hw : ∀ v σ H Q, t' v σ H Q → t v σ H Q) : PGs X tg t' := ⟨fun pins s σ H v u Q I r q => h.run pins s σ H v u Q I r (hw v σ H Q q)⟩
section
variable {K : Fr} {w : List Ow} {B H : Hp} {σ : L2.St} {env : Env} {fp : Nat → List Addr}
/-- a slot is given a frozen value -/
theorem Rel.setz {i : Nat} {v : V} {d : D} (R : Rel K w B H σ env fp) (hi : i < env.length) (r : Rep K B v d) (hw : w.getD i .z = .z) : Rel K w B H (σ.set i (some v)) (env.set i (some d)) (fun j => if j = i then [] else fp j) :=
  R.set hi (k := .z) (f := []) ⟨r, rfl⟩ List.nodup_nil (fun a ha => by cases ha) (fun j _ a ha => by cases ha) fun j => by
    by_cases q : j = i
    · rw [if_pos q, q]; exact hw
    · rw [if_neg q]
theorem Sub.if {i : Nat} {fp : Nat → List Addr} : Sub (fun j => if j = i then [] else fp j) fp := fun j a ha => by
  dsimp only at ha
  split at ha
  · cases ha
  · exact ha
end
section
variable {X : Cx} {K : Fr} {w : List Ow} {vs is : List Nat} {pos : Pos}
theorem g_name (i : Nat) {x : Str} (hw : w.getD i .z = .z := by rfl) (hm : i ∈ vs := by decide) (hN : X.N.Nodup := by decide) (hi : X.N[i]? = some x := by rfl) (hx : Loc X.env.scope x := by first | exact Or.inl rfl | exact Or.inr rfl) (hf : X.fn x = true ∨ X.env.scope.names.lookup x = some .local := by first | exact .inl rfl | exact .inr rfl) : PG X (.Name x pos) (rdG K w vs (tgN i)) :=
  PG_weak (pg_name hN hi hx hf) fun v σ H Q ⟨B, env, fp, d, R, r, env', e, h⟩ => by
    unfold tgN at e
    split at e
    · cases e
      exact h _ _ (R.setz (by assumption) r hw) Sub.if (SameOff.set hm)
    · cases e
theorem gs_nil : PGs X [] (rdGs K w vs []) := PGs_weak pgs_nil fun us σ H Q ⟨B, env, fp, ds, R, r, env', e, h⟩ => by
  cases r with
  | nil => cases e; exact ⟨rfl, h σ fp R (fun _ _ h => h) (SameOff.rf _ _)⟩
  | cons _ _ => cases e
theorem gs_cons {i : Nat} {e : Expr} {es : List Expr} (h1 : PG X e (rdG K w vs (tgN i))) (h2 : PGs X es (rdGs K w vs is)) (hs : (assignEach (e :: es) X.env).map (·.2) = assign e X.env :: (assignEach es X.env).map (·.2) := by rfl) : PGs X (e :: es) (rdGs K w vs (i :: is)) :=
  PGs_weak (pgs_cons h1 h2 hs) fun us σ H Q ⟨B, env, fp, ds, R, r, env', e, h⟩ => by
    cases r with
    | nil => cases e
    | @cons v d us ds r rs =>
      by_cases q : i < env.length
      · have e' : tgL is ds (env.set i (some d)) = some env' := by rw [← e]; exact (if_pos q).symm
        refine ⟨v, us, rfl, B, env, fp, d, R, r, _, if_pos q, fun σ1 fp1 R1 s1 o1 => ⟨B, _, fp1, ds, R1, rs, env', e', fun σ2 fp2 R2 s2 o2 => h σ2 fp2 R2 (s2.tr s1) (o1.tr o2)⟩⟩
      · have e' : (none : Option Env) = some env' := by rw [← e]; exact (if_neg q).symm
        cases e'
theorem tgL_len : ∀ {is : List Nat} {ds : List D} {env env' : Env}, tgL is ds env = some env' → ds.length = is.length
  | [], [], _, _, _ => rfl
  | i :: r, d :: ds, env, env', h => by
    unfold tgL at h
    split at h
    · exact congrArg (· + 1) (tgL_len h)
    · cases h
  | [], _ :: _, _, _, h => by cases h
  | _ :: _, [], _, _, h => by cases h
theorem g_tup {es : List Expr} {k : Nat} (h : PGs X es (rdGs K w vs is)) (hc : X.calm = true := by rfl) (hn : (assignEach es X.env).length = is.length := by rfl) (hst : (assignEach es X.env).findIdx? (·.1) = none := by rfl) (hK : X.K = K := by rfl) : PG X (.Tuple es k pos) (rdG K w vs (tgT is)) := by
  subst hK
  refine PG_weak (pg_tup hc h hn hst) fun v σ H Q ⟨B, env, fp, d, R, r, env', e, h⟩ => ?_
  unfold tgT at e
  split at e
  · cases r with
    | tup hp rs => exact ⟨_, _, rfl, R.s.st hp, by rw [rs.length]; exact tgL_len e, B, env, fp, _, R, rs, env', e, h⟩
  · cases e
end

/-! ### the slots of a comprehension -/
def wipeE (env : Env) : List Nat → Env
  | [] => env
  | v :: vs => (wipeE env vs).set v none
def wipeW (w : List Ow) : List Nat → List Ow
  | [] => w
  | v :: vs => (wipeW w vs).set v .z
theorem getD_setz (w : List Ow) (i j : Nat) : (w.set i .z).getD j .z = if j = i then .z else w.getD j .z := by
  by_cases q : j = i
  · subst q
    rw [if_pos rfl, List.getD_eq_getElem?_getD]
    by_cases h : j < w.length
    · rw [List.getElem?_set_self h] <;> rfl
    · rw [List.getElem?_eq_none (by rw [List.length_set]; omega)] <;> rfl
  · rw [if_neg q, List.getD_eq_getElem?_getD, List.getElem?_set_ne (Ne.symm q), List.getD_eq_getElem?_getD]
section
variable {K : Fr} {w : List Ow} {B H : Hp} {σ : L2.St} {env : Env} {fp : Nat → List Addr}
theorem Rel.unset (R : Rel K w B H σ env fp) (i : Nat) : Rel K (w.set i .z) B H (σ.set i none) (env.set i none) (fun j => if j = i then [] else fp j) where
  s := R.s
  len := by rw [List.length_set, List.length_set]; exact R.len
  sl := fun j d e => by
    by_cases q : j = i
    · subst q
      by_cases h : j < env.length
      · rw [List.getElem?_set_self h] at e; cases e
      · rw [List.getElem?_eq_none (by rw [List.length_set]; omega)] at e; cases e
    · rw [List.getElem?_set_ne (Ne.symm q)] at e ⊢
      obtain ⟨v, h1, h2⟩ := R.sl j d e
      refine ⟨v, h1, ?_⟩
      rw [getD_setz, if_neg q]
      simpa [q] using h2
  nn := fun j hj => by
    by_cases q : j = i
    · rw [if_pos q]
    · rw [if_neg q]
      exact R.nn j fun e he => hj e (by rw [List.getElem?_set_ne (Ne.symm q)]; exact he)
  nd := fun j => by
    by_cases q : j = i
    · rw [if_pos q]; exact List.nodup_nil
    · rw [if_neg q]; exact R.nd j
  dj := fun j l hjl a ha => by
    by_cases q : j = i
    · rw [if_pos q] at ha; cases ha
    · rw [if_neg q] at ha
      by_cases q2 : l = i
      · rw [if_pos q2]; simp
      · rw [if_neg q2]; exact R.dj j l hjl a ha
  bn := fun j a ha => by
    by_cases q : j = i
    · rw [if_pos q] at ha; cases ha
    · rw [if_neg q] at ha; exact R.bn j a ha
theorem Rel.wipe (R : Rel K w B H σ env fp) : ∀ vs : List Nat, ∃ fp', Rel K (wipeW w vs) B H (L2.wipe σ vs) (wipeE env vs) fp' ∧ Sub fp' fp
  | [] => ⟨fp, R, fun _ _ h => h⟩
  | v :: vs => by
    obtain ⟨fp', R', s⟩ := R.wipe vs
    exact ⟨_, R'.unset v, Sub.tr Sub.if s⟩
theorem wipe_in {i : Nat} : ∀ {vs : List Nat}, i ∈ vs → i < σ.length → (L2.wipe σ vs)[i]? = some none
  | v :: vs, h, hl => by
    unfold L2.wipe
    by_cases q : v = i
    · subst q
      exact List.getElem?_set_self (by rw [wipe_length]; exact hl)
    · rw [List.getElem?_set_ne q]
      exact wipe_in ((List.mem_cons.mp h).resolve_left (Ne.symm q)) hl
theorem SameOff.wipe {vs : List Nat} {σ2 : L2.St} (h : SameOff vs (L2.wipe σ vs) σ2) : L2.wipe σ2 vs = L2.wipe σ vs := by
  have hl : σ2.length = σ.length := h.1.trans (wipe_length σ vs)
  apply List.ext_getElem?
  intro j
  by_cases q : j ∈ vs
  · by_cases hj : j < σ.length
    · rw [wipe_in q hj, wipe_in q (by rw [hl]; exact hj)]
    · rw [List.getElem?_eq_none (by rw [wipe_length]; omega), List.getElem?_eq_none (by rw [wipe_length]; omega)]
  · rw [wipe_out q]
    exact h.2 j q
end

/-! ### comprehensions -/
def WF : WX := fun _ _ _ _ => False
def lcGo (tg : D → Env → Option Env) (tt : Env → Res Bool) (de : Env → Res D) (env : Env) : List D → Res (List D)
  | [] => .ok []
  | d :: r => match tg d env with
    | none => .bad
    | some e1 => match tt e1 with
      | .ok true => (match de e1 with
        | .ok x => (lcGo tg tt de env r).bind fun xs => .ok (x :: xs)
        | _ => .bad)
      | .ok false => lcGo tg tt de env r
      | _ => .bad
def endLc : Res (List D) → Res D
  | .ok xs => if xs.length ≤ 16777216 then .ok (.lst xs) else .bad
  | _ => .bad
def dLc (vs : List Nat) (di : Env → Res (List D)) (tg : D → Env → Option Env) (tt : Env → Res Bool) (de : Env → Res D) : Env → Res D := fun env => (di env).bind fun ds => endLc (lcGo tg tt de (wipeE env vs) ds)
def dYes : Env → Res Bool := fun _ => .ok true
theorem ROs.snoc {R : V → D → List Addr → Prop} {v : V} {d : D} {f : List Addr} (h : R v d f) : ∀ {vs : List V} {ds : List D} {fs : List Addr}, ROs R vs ds fs → ROs R (vs ++ [v]) (ds ++ [d]) (fs ++ f)
  | _, _, _, .nil => by
    have q := ROs.cons h (ROs.nil (R := R))
    rw [List.append_nil] at q
    exact q
  | _, _, _, .cons (f := g) (fs := gs) r t => by
    have q := ROs.cons r (ROs.snoc h t)
    rw [← List.append_assoc] at q
    exact q
theorem endLc_ok {r : Res (List D)} {d : D} (h : endLc r = .ok d) : ∃ xs, r = .ok xs ∧ xs.length ≤ 16777216 ∧ d = .lst xs := by
  cases r with
  | ok xs =>
    have h' : (if xs.length ≤ 16777216 then Res.ok (D.lst xs) else .bad) = .ok d := h
    split at h'
    · cases h'; exact ⟨xs, rfl, by assumption, rfl⟩
    · cases h'
  | exc c fs => cases h
  | bad => cases h
theorem endLc_cases (r : Res (List D)) : (∃ xs, r = .ok xs ∧ xs.length ≤ 16777216 ∧ endLc r = .ok (.lst xs)) ∨ endLc r = .bad := by
  cases r with
  | ok xs =>
    by_cases q : xs.length ≤ 16777216
    · exact .inl ⟨xs, rfl, q, if_pos q⟩
    · exact .inr (if_neg q)
  | exc c fs => exact .inr rfl
  | bad => exact .inr rfl
theorem ROs.onD {K : Fr} {B B' H H' : Hp} {ke : Ow} (eb : Ex B B') : ∀ {vs : List V} {ds : List D} {fs : List Addr}, (∀ a ∈ fs, ∀ o, H a = some o → H' a = some o) → ROs (RepO K B H ke) vs ds fs → ROs (RepO K B' H' ke) vs ds fs
  | _, _, _, _, .nil => .nil
  | _, _, _, hf, .cons r t => .cons (r.on eb ke fun a ha => hf a (List.mem_append_left _ ha)) (ROs.onD eb (fun a ha => hf a (List.mem_append_right _ ha)) t)
theorem ROs.mem {K : Fr} {B H : Hp} {ke : Ow} : ∀ {vs : List V} {ds : List D} {fs : List Addr}, ROs (RepO K B H ke) vs ds fs → ∀ a ∈ fs, H a ≠ none
  | _, _, _, .nil, a, ha => by cases ha
  | _, _, _, .cons r t, a, ha => by
    rcases List.mem_append.mp ha with q | q
    · exact r.mem _ a q
    · exact t.mem a q
/-- a list in the making: at L, over (B1, H1) -/
structure Mkg (K : Fr) (ke : Ow) (L : Addr) (B1 H1 B H : Hp) (acc : List V) (xs : List D) (fs : List Addr) : Prop where
  b : Ex B1 B
  h : Ex H1 H
  s : Ex B H
  f : ∀ a, H1 a ≠ none → B a = B1 a
  l : H L = some (.lst acc)
  ln : B L = none
  r : ROs (RepO K B H ke) acc xs fs
  nd : fs.Nodup
  nl : L ∉ fs
  fr : ∀ a ∈ fs, H1 a = none ∧ B a = none
theorem Mkg.start {K : Fr} {ke : Ow} {L : Addr} {B1 H1 : Hp} (s : Ex B1 H1) (hL : H1 L = none) : Mkg K ke L B1 H1 B1 (upd H1 L (.lst [])) [] [] [] :=
  ⟨Ex.rfl' _, Ex.new hL, s.tr (Ex.new hL), fun _ _ => rfl, upd_same, s.back hL, .nil, List.nodup_nil, by simp, fun a ha => by cases ha⟩
theorem Mkg.gr {K : Fr} {ke : Ow} {L : Addr} {B1 H1 B H B' H' : Hp} {acc : List V} {xs : List D} {fs : List Addr} (M : Mkg K ke L B1 H1 B H acc xs fs) (g : Gr B H B' H') : Mkg K ke L B1 H1 B' H' acc xs fs where
  b := M.b.tr g.b
  h := M.h.tr g.h
  s := g.s
  f := fun a ha => (g.f a (M.h.live ha)).trans (M.f a ha)
  l := g.h _ _ M.l
  ln := (g.f L (by rw [M.l]; simp)).trans M.ln
  r := M.r.onD g.b fun a _ o e => g.h a o e
  nd := M.nd
  nl := M.nl
  fr := fun a ha => ⟨(M.fr a ha).1, (g.f a (M.r.mem a ha)).trans (M.fr a ha).2⟩
theorem Mkg.add {K : Fr} {ke : Ow} {L : Addr} {B1 H1 B H B' H' : Hp} {acc : List V} {xs : List D} {fs f : List Addr} {v : V} {d : D} (M : Mkg K ke L B1 H1 B H acc xs fs) (g : Gr B H B' H') (r : RepO K B' H' ke v d f) (nd : f.Nodup) (hf : ∀ a ∈ f, H a = none ∧ B' a = none) (hL : H1 L = none) :
    Mkg K ke L B1 H1 B' (upd H' L (.lst (acc ++ [v]))) (acc ++ [v]) (xs ++ [d]) (fs ++ f) := by
  have M' := M.gr g
  have nL : L ∉ f := fun h => by
    have q := (hf L h).1
    rw [M.l] at q; cases q
  have off : ∀ {a : Addr}, a ≠ L → (upd H' L (.lst (acc ++ [v]))) a = H' a := fun h => upd_ne h
  refine ⟨M'.b, fun a o e => ?_, fun a o e => ?_, M'.f, upd_same, M'.ln, ?_, ?_, ?_, fun a ha => ?_⟩
  · have q : a ≠ L := fun z => by rw [z, hL] at e; cases e
    rw [off q]; exact M'.h a o e
  · have q : a ≠ L := fun z => by rw [z, M'.ln] at e; cases e
    rw [off q]; exact M'.s a o e
  · refine ROs.snoc (r.on (Ex.rfl' _) ke fun a ha o e => ?_) (M'.r.onD (Ex.rfl' _) fun a ha o e => ?_)
    · rw [off fun z => nL (z ▸ ha)]; exact e
    · rw [off fun z => M.nl (z ▸ ha)]; exact e
  · refine List.nodup_append.mpr ⟨M.nd, nd, fun a ha b hb e => ?_⟩
    subst e
    exact (M.r.mem a ha) (hf a hb).1
  · intro h
    rcases List.mem_append.mp h with q | q
    · exact M.nl q
    · exact nL q
  · rcases List.mem_append.mp ha with q | q
    · exact M'.fr a q
    · exact ⟨M.h.back (hf a q).1, (hf a q).2⟩
section
variable {X : Cx} {K : Fr} {W : WX} {w : List Ow} {ke : Ow} {vs : List Nat}
theorem ts_nil : PTs X [] (rdT K w W dYes) := ⟨fun pins s σ H Q I ⟨B, env, fp, R, h⟩ => pts_nil.run pins s σ H Q I (h H B (Gr.rf R.s))⟩
theorem ts_one {c : Expr} {t : Env → Res Bool} (h : PT X c (rdT K w W t)) : PTs X [c] (rdT K w W t) := pts_one h
/-- one turn -/
theorem lc_turn {B1 H1 B H : Hp} {L : Addr} {tg : D → Env → Option Env} {tt : Env → Res Bool} {de : Env → Res D} {env : Env} {fp : Nat → List Addr} {σ : L2.St} {acc : List V} {xs rest all : List D} {fs : List Addr} {d : D} {ds : List D} {J : It} {i : Nat} {x : V} {H' : Hp} {Nx : Hp → Prop}
    (R : Rel K (wipeW w vs) B1 H1 (L2.wipe σ vs) env fp) (hL : H1 L = none) (M : Mkg K ke L B1 H1 B H acc xs fs) (Y : Yl K B1 J ds) (hd : ds[i]? = some d) (go : lcGo tg tt de env (d :: rest) = .ok all) (hz : xs.length + all.length ≤ 16777216) (y : J.yld i H x H')
    (nx : ∀ B H acc' xs' fs' all', Mkg K ke L B1 H1 B H acc' xs' fs' → lcGo tg tt de env rest = .ok all' → xs' ++ all' = xs ++ all → Nx H) :
    rdG K (wipeW w vs) vs tg x (L2.wipe σ vs) H' fun σ2 H2 => L2.wipe σ2 vs = L2.wipe σ vs ∧ rdT K (wipeW w vs) WF tt σ2 H2 fun b H3 =>
      if b = true then rdE K (wipeW w vs) WF de ke σ2 H3 fun y H4 => ∃ acc, H4 L = some (.lst acc) ∧ acc.length < sizeLine ∧ Nx (upd H4 L (.lst (acc ++ [y]))) else Nx H3 := by
  obtain ⟨B2, g2, r2⟩ := Y.yld i d H x H' B M.b M.s hd y
  have M2 := M.gr g2
  have hR : ∀ {B' H' : Hp}, Mkg K ke L B1 H1 B' H' acc xs fs → Gr B1 H1 B' H' := fun m => ⟨m.b, m.h, m.s, m.f⟩
  have R2 : Rel K (wipeW w vs) B2 H' (L2.wipe σ vs) env fp := R.gr (hR M2)
  unfold lcGo at go
  cases et : tg d env with
  | none => rw [et] at go; cases go
  | some e1 =>
    rw [et] at go
    dsimp only at go
    refine ⟨B2, env, fp, d, R2, r2, e1, et, fun σ2 fp2 R3 s3 o3 => ⟨SameOff.wipe o3, B2, e1, fp2, R3, ?_⟩⟩
    cases eb : tt e1 with
    | ok b =>
      intro H3 B3 g3
      cases b with
      | true =>
        rw [if_pos rfl]
        rw [eb] at go
        refine ⟨B3, e1, fp2, R3.gr g3, ?_⟩
        cases ex : de e1 with
        | ok v =>
          dsimp only at go
          rw [ex] at go
          dsimp only at go
          intro u H4 B4 f g4 r4 nd4 hf4
          cases el : lcGo tg tt de env rest with
          | ok ys =>
            rw [el] at go
            cases go
            have M3 := M2.gr g3
            refine ⟨acc, (M3.gr g4).l, ?_, nx _ _ _ _ _ ys (M3.add g4 r4 nd4 hf4 hL) el (by simp)⟩
            have q : acc.length = xs.length := M.r.length
            rw [sizeLine_eq, q]
            simp at hz
            omega
          | exc c fs => rw [el] at go; cases go
          | bad => rw [el] at go; cases go
        | exc c fs => dsimp only at go; rw [ex] at go; cases go
        | bad => dsimp only at go; rw [ex] at go; cases go
      | false =>
        rw [if_neg Bool.false_ne_true]
        rw [eb] at go
        exact nx _ _ _ _ _ all (M2.gr g3) go rfl
    | exc c fs => rw [eb] at go; cases go
    | bad => rw [eb] at go; cases go
theorem rdE_lc {di : Env → Res (List D)} {tg : D → Env → Option Env} {tt : Env → Res Bool} {de : Env → Res D} : ∀ σ H Q, rdE K w W (dLc vs di tg tt de) (.l ke) σ H Q →
    tLc (rdI K w W di) (rdG K (wipeW w vs) vs tg) (rdT K (wipeW w vs) WF tt) (rdE K (wipeW w vs) WF de ke) vs σ H Q := fun σ H Q ⟨B, env, fp, R, h⟩ => by
  refine ⟨B, env, fp, R, ?_⟩
  have h : AfE K W (.l ke) B σ H Q ((di env).bind fun ds => endLc (lcGo tg tt de (wipeE env vs) ds)) := h
  cases ed : di env with
  | exc c fs => rw [ed] at h; exact h
  | bad => rw [ed] at h; exact h
  | ok ds =>
    rw [ed] at h
    have h : AfE K W (.l ke) B σ H Q (endLc (lcGo tg tt de (wipeE env vs) ds)) := h
    intro J H1 B1 g1 Y L hL
    rcases endLc_cases (lcGo tg tt de (wipeE env vs) ds) with ⟨all, el, hz, ee⟩ | ee
    · rw [ee] at h
      obtain ⟨fp', R', _⟩ := (R.gr g1).wipe vs
      refine ⟨fun i m H => m = ds.length - i ∧ i ≤ ds.length ∧ ∃ B acc xs fs rest, Mkg K ke L B1 H1 B H acc xs fs ∧ lcGo tg tt de (wipeE env vs) (ds.drop i) = .ok rest ∧ xs ++ rest = all, ⟨ds.length, rfl, Nat.zero_le _, B1, [], [], [], all, Mkg.start g1.s hL, el, rfl⟩, ?_⟩
      rintro i m H2 ⟨rfl, hi, B2, acc, xs, fs, rest, M, er, ea⟩
      by_cases hlt : i < ds.length
      · refine .inr ⟨Y.go i H2 (M.b.tr M.s) hlt, fun H3 => i + 1 ≤ ds.length ∧ ∃ B acc xs fs rest, Mkg K ke L B1 H1 B H3 acc xs fs ∧ lcGo tg tt de (wipeE env vs) (ds.drop (i + 1)) = .ok rest ∧ xs ++ rest = all, fun H' n => ⟨ds.length - (i + 1), by omega, rfl, n.1, n.2⟩, fun x H' y => ?_⟩
        rw [List.drop_eq_getElem_cons hlt] at er
        refine lc_turn R' hL M Y (List.getElem?_eq_getElem hlt) er ?_ y fun B4 H4 acc' xs' fs' all' M' e' ea' => ⟨hlt, B4, acc', xs', fs', all', M', e', ea'.trans ea⟩
        rw [← List.length_append, ea]; exact hz
      · have e : i = ds.length := by omega
        subst e
        refine .inl ⟨Y.stop H2 (M.b.tr M.s), ?_⟩
        rw [List.drop_length] at er
        cases er
        rw [List.append_nil] at ea
        subst ea
        refine h (.ref L) H2 B2 (L :: fs) ⟨g1.b.tr M.b, g1.h.tr M.h, M.s, fun a ha => (M.f a (g1.h.live ha)).trans (g1.f a ha)⟩ ⟨L, acc, xs, fs, rfl, rfl, M.l, M.r, rfl⟩ (List.nodup_cons.mpr ⟨M.nl, M.nd⟩) fun a ha => ?_
        rcases List.mem_cons.mp ha with q | q
        · rw [q]; exact ⟨g1.h.back hL, M.ln⟩
        · exact ⟨g1.h.back (M.fr a q).1, (M.fr a q).2⟩
    · rw [ee] at h; exact h.elim
theorem e_lc {elt tg iter : Expr} {ifs : List Expr} {scope : Scope} {pos : Pos} {di : Env → Res (List D)} {dg : D → Env → Option Env} {tt : Env → Res Bool} {de : Env → Res D} (own : List (Str × Nat)) (hi : PI X tg iter (rdI K w W di))
    (hg : ∀ (s : Shared) (H : Hp) (C : Addr) (cl : List (Str × Addr)) (fp : List Addr), PG (X.blk s H scope (compEnvC scope cl C X.env) fp) tg (rdG K (wipeW w (own.map (·.2))) (own.map (·.2)) dg))
    (ht : ∀ (s : Shared) (H : Hp) (C : Addr) (cl : List (Str × Addr)) (fp : List Addr), PTs (X.blk s H scope (compEnvC scope cl C X.env) fp) ifs (rdT K (wipeW w (own.map (·.2))) WF tt))
    (he : ∀ (s : Shared) (H : Hp) (C : Addr) (cl : List (Str × Addr)) (fp : List Addr), PE (X.blk s H scope (compEnvC scope cl C X.env) fp) elt (rdE K (wipeW w (own.map (·.2))) WF de ke))
    (ok : blkC X.N X.env.scope scope own = true := by decide +kernel) (hc : X.calm = true := by rfl) (hN : X.N.Nodup := by decide) (hs : ∀ x, foldedSetIterable iter X.env x = pure x := by intro _; rfl) :
    PE X (.ListComp elt [⟨tg, iter, ifs, 0⟩] scope pos) (rdE K w W (dLc (own.map (·.2)) di dg tt de) (.l ke)) := PE_weak (pe_lc hc hN hi (blkOk_by ok) hg ht he hs) rdE_lc
end
end Fz
set_option Elab.async false
set_option linter.all false
set_option maxRecDepth 100000
set_option maxHeartbeats 4000000
/-! Functionalization: statements. -/
namespace Fz
open PySem PySem.Spec PyProof.Rows L2

/-! ### the frame's state -/
section
variable {K : Fr} {w w' : List Ow} {B0 H0 B H B' H' : Hp} {σ : L2.St} {env : Env} {W : WX} {s : Ws} {D : Ends}
theorem SRel.gr (S : SRel K w B0 H0 B H σ env) (g : Gr B H B' H') : SRel K w B0 H0 B' H' σ env := by
  obtain ⟨fp, R, h1, h2, h3, h4⟩ := S
  exact ⟨fp, R.gr g, h1.tr g.b, h2.tr g.h, fun a ha => (g.f a (h2.live ha)).trans (h3 a ha), h4⟩
theorem SRel.freeze (S : SRel K w B0 H0 B H σ env) (hw : ∀ j, w'.getD j .z = w.getD j .z ∨ w'.getD j .z = .z) : ∃ B', SRel K w' B0 H0 B' H σ env ∧ Ex B B' := by
  obtain ⟨fp, R, h1, h2, h3, h4⟩ := S
  obtain ⟨fs, fp', R', k1, k2⟩ := R.freeze hw
  have hb : ∀ a ∈ fs, B a = none := fun a ha => let ⟨i, _, hi⟩ := k1 a ha; R.bn i a hi
  refine ⟨_, ⟨fp', R', h1.tr (addB_ex hb), h2, fun a ha => ?_, fun i a ha => h4 i a (k2 i a ha)⟩, addB_ex hb⟩
  rw [addB_out]
  · exact h3 a ha
  · intro m
    obtain ⟨i, _, hi⟩ := k1 a m
    exact ha (h4 i a hi)
theorem SRel.fz (S : SRel K w B0 H0 B H σ env) (hw : fzB w w' = true) : ∃ B', SRel K w' B0 H0 B' H σ env ∧ Ex B B' := S.freeze (fzB_ok hw)
theorem SRel.fz0 (S : SRel K w B0 H0 B H σ env) : ∃ B', SRel K [] B0 H0 B' H σ env ∧ Ex B B' := S.freeze fun j => .inr rfl
theorem SRel.set {k : Ow} {i : Nat} {v : V} {d : Fz.D} {f : List Addr} (S : SRel K w B0 H0 B H σ env) (g : Gr B H B' H') (r : RepO K B' H' k v d f) (nd : f.Nodup) (hf : ∀ a ∈ f, H a = none ∧ B' a = none) (hi : i < env.length) (hl : i < w.length) :
    SRel K (w.set i k) B0 H0 B' H' (σ.set i (some v)) (env.set i (some d)) := by
  obtain ⟨fp, R, h1, h2, h3, h4⟩ := S
  refine ⟨_, (R.gr g).set hi r nd (fun a ha => (hf a ha).2) (fun j _ a ha m => R.live j a m (hf a ha).1) fun j => ?_, h1.tr g.b, h2.tr g.h, fun a ha => (g.f a (h2.live ha)).trans (h3 a ha), fun j a ha => ?_⟩
  · by_cases q : j = i
    · subst q
      rw [if_pos rfl, List.getD_eq_getElem?_getD, List.getElem?_set_self hl] <;> rfl
    · rw [if_neg q, List.getD_eq_getElem?_getD, List.getElem?_set_ne (Ne.symm q), List.getD_eq_getElem?_getD]
  · by_cases q : j = i
    · rw [if_pos q] at ha; exact h2.back (hf a ha).1
    · rw [if_neg q] at ha; exact h4 j a ha
/-- what a turn of a loop may not touch: all but the frame's own things -/
theorem SRel.rebase (S : SRel K w B0 H0 B H σ env) : ∃ H1, SRel K w B H1 B H σ env ∧ Ex H0 H1 ∧ ∀ a, H0 a ≠ none → B a = B0 a := by
  obtain ⟨fp, R, h1, h2, h3, h4⟩ := S
  refine ⟨fun a => open Classical in if ∃ i, a ∈ fp i then none else H a, ⟨fp, R, Ex.rfl' _, fun a o e => ?_, fun _ _ => rfl, fun i a ha => if_pos ⟨i, ha⟩⟩, fun a o e => ?_, h3⟩
  · dsimp only at e
    split at e
    · cases e
    · exact e
  · dsimp only
    rw [if_neg]
    · exact h2 a o e
    · rintro ⟨i, hi⟩
      rw [h4 i a hi] at e; cases e
theorem SRel.ofBase {H1 B2 H2 : Hp} {σ2 : L2.St} {env2 : Env} (b : Ex B0 B) (e : Ex H0 H1) (f : ∀ a, H0 a ≠ none → B a = B0 a) (S : SRel K w B H1 B2 H2 σ2 env2) : SRel K w B0 H0 B2 H2 σ2 env2 ∧ Ex B B2 := by
  obtain ⟨fp, R, h1, h2, h3, h4⟩ := S
  exact ⟨⟨fp, R, b.tr h1, e.tr h2, fun a ha => (h3 a (e.live ha)).trans (f a ha), fun i a ha => e.back (h4 i a ha)⟩, h1⟩
theorem AfS.base {H1 : Hp} (b : Ex B0 B) (e : Ex H0 H1) (f : ∀ a, H0 a ≠ none → B a = B0 a) : ∀ {o : Out}, AfS K W s B0 H0 D o → AfS K W s B H1 D o
  | .nx env, h => fun B2 σ2 H2 S => h B2 σ2 H2 (SRel.ofBase b e f S).1
  | .bk env, h => fun B2 σ2 H2 S => h B2 σ2 H2 (SRel.ofBase b e f S).1
  | .ct env, h => fun B2 σ2 H2 S => h B2 σ2 H2 (SRel.ofBase b e f S).1
  | .ret d, h => fun B2 H2 v g h1 h2 h3 h4 r nd hf => h B2 H2 v g (b.tr h1) (e.tr h2) h3 (fun a ha => (h4 a (e.live ha)).trans (f a ha)) r nd fun a ha => ⟨e.back (hf a ha).1, (hf a ha).2⟩
  | .exc c fs env, h => fun B2 σ2 H2 dct S r => h B2 σ2 H2 dct (SRel.ofBase b e f S).1 r
  | .bad, h => h
def oBind {α : Type} (r : Res α) (env : Env) (f : α → Out) : Out := match r with
  | .ok a => f a
  | .exc c fs => .exc c fs env
  | .bad => .bad
theorem exc_out {c : Str} {fs : List (Str × Fz.D)} (S : SRel K w B0 H0 B H σ env) (h : AfS K W s B0 H0 D (.exc c fs env)) : ∀ H' B' dct, Gr B H B' H' → ExcRep K B' H' dct fs → W (.ref (He.ga K c)) dct σ H' := fun H' B' dct g r => by
  obtain ⟨B2, S2, e⟩ := (S.gr g).fz0
  exact h B2 σ H' dct S2 (r.mono e (Ex.rfl' _))
/-- first a value, then the rest of the statement -/
theorem st_E {k : Ow} {de : Env → Res Fz.D} {f : Fz.D → Out} {Q : VK} (S : SRel K w B0 H0 B H σ env) (h : AfS K W s B0 H0 D (oBind (de env) env f))
    (go : ∀ d v H1 B1 g, de env = .ok d → Gr B H B1 H1 → RepO K B1 H1 k v d g → g.Nodup → (∀ a ∈ g, H a = none ∧ B1 a = none) → AfS K W s B0 H0 D (f d) → Q v H1) : rdE K w W de k σ H Q := by
  obtain ⟨fp, R, _⟩ := id S
  refine ⟨B, env, fp, R, ?_⟩
  cases e : de env with
  | ok d =>
    rw [e] at h
    exact fun v H1 B1 g gr r nd hf => go d v H1 B1 g e gr r nd hf h
  | exc c fs => rw [e] at h; exact exc_out S h
  | bad => rw [e] at h; exact h
theorem st_T {dt : Env → Res Bool} {f : Bool → Out} {Q : Bool → Hp → Prop} (S : SRel K w B0 H0 B H σ env) (h : AfS K W s B0 H0 D (oBind (dt env) env f))
    (go : ∀ b H1 B1, dt env = .ok b → Gr B H B1 H1 → AfS K W s B0 H0 D (f b) → Q b H1) : rdT K w W dt σ H Q := by
  obtain ⟨fp, R, _⟩ := id S
  refine ⟨B, env, fp, R, ?_⟩
  cases e : dt env with
  | ok d =>
    rw [e] at h
    exact fun H1 B1 gr => go d H1 B1 e gr h
  | exc c fs => rw [e] at h; exact exc_out S h
  | bad => rw [e] at h; exact h
theorem st_Y {di : Env → Res (List Fz.D)} {f : List Fz.D → Out} {Rr : It → Hp → Prop} (S : SRel K w B0 H0 B H σ env) (h : AfS K W s B0 H0 D (oBind (di env) env f))
    (go : ∀ ds J H1 B1, di env = .ok ds → Gr B H B1 H1 → Yl K B1 J ds → AfS K W s B0 H0 D (f ds) → Rr J H1) : rdI K w W di σ H Rr := by
  obtain ⟨fp, R, _⟩ := id S
  refine ⟨B, env, fp, R, ?_⟩
  cases e : di env with
  | ok ds =>
    rw [e] at h
    exact fun J H1 B1 gr y => go ds J H1 B1 e gr y h
  | exc c fs => rw [e] at h; exact exc_out S h
  | bad => rw [e] at h; exact h
end
theorem Out.iff {c : Prop} [Decidable c] {K : Fr} {W : WX} {s : Ws} {B0 H0 : Hp} {D : Ends} {o : Out} (h : AfS K W s B0 H0 D (if c then o else .bad)) : c ∧ AfS K W s B0 H0 D o := by
  by_cases q : c
  · rw [if_pos q] at h; exact ⟨q, h⟩
  · rw [if_neg q] at h; exact h.elim

/-! ### what statements do, on data -/
def bSeq (b c : Env → Out) : Env → Out := fun env => match b env with
  | .nx e => c e
  | o => o
def sNx : Env → Out := fun env => .nx env
def sBk : Env → Out := fun env => .bk env
def sCt : Env → Out := fun env => .ct env
def sNever : Env → Out := fun _ => .bad
def sSet (i : Nat) (de : Env → Res D) : Env → Out := fun env => oBind (de env) env fun d => if i < env.length then .nx (env.set i (some d)) else .bad
def sAsg (tg : D → Env → Option Env) (de : Env → Res D) : Env → Out := fun env => oBind (de env) env fun d => match tg d env with
  | some e => .nx e
  | none => .bad
def sExpr (de : Env → Res D) : Env → Out := fun env => oBind (de env) env fun _ => .nx env
def sRet (de : Env → Res D) : Env → Out := fun env => oBind (de env) env .ret
def sRetN : Env → Out := fun _ => .ret .non
def sIf (dt : Env → Res Bool) (b c : Env → Out) : Env → Out := fun env => oBind (dt env) env fun t => if t = true then b env else c env
def sRaise (c : Str) : Env → Out := fun env => .exc c [] env
def sApp (i : Nat) (de : Env → Res D) : Env → Out := fun env => match env[i]? with
  | some (some (.lst xs)) => oBind (de env) env fun d => if xs.length < 16777216 then .nx (env.set i (some (.lst (xs ++ [d])))) else .bad
  | _ => .bad
def loopD (tg : D → Env → Option Env) (body : Env → Out) : List D → Env → Out
  | [], env => .nx env
  | d :: r, env => match tg d env with
    | none => .bad
    | some e1 => match body e1 with
      | .nx e => loopD tg body r e
      | .ct e => loopD tg body r e
      | .bk e => .nx e
      | .ret v => .ret v
      | .exc c fs e => .exc c fs e
      | .bad => .bad
def sFor (di : Env → Res (List D)) (tg : D → Env → Option Env) (body : Env → Out) : Env → Out := fun env => oBind (di env) env fun ds => loopD tg body ds env
def whileD (dt : Env → Res Bool) (body : Env → Out) : Nat → Env → Out
  | 0, _ => .bad
  | n + 1, env => oBind (dt env) env fun t => if t = true then (match body env with
      | .nx e => whileD dt body n e
      | .ct e => whileD dt body n e
      | .bk e => .nx e
      | .ret v => .ret v
      | .exc c fs e => .exc c fs e
      | .bad => .bad) else .nx env
def sWhile (fuel : Env → Nat) (dt : Env → Res Bool) (body : Env → Out) : Env → Out := fun env => whileD dt body (fuel env) env
/-- xs[ix] = v, xs a list of one's own -/
def sPut (i : Nat) (di de : Env → Res D) : Env → Out := fun env => match env[i]? with
  | some (some (.lst xs)) => oBind (de env) env fun d => oBind (di env) env fun j => (match j with
    | .int j => (match ixN xs.length j with
      | some n => .nx (env.set i (some (.lst (xs.set n d))))
      | none => .bad)
    | _ => .bad)
  | _ => .bad
/-- xs[ix][iy] = v -/
def sPut2 (i : Nat) (di dj de : Env → Res D) : Env → Out := fun env => match env[i]? with
  | some (some (.lst xs)) => oBind (de env) env fun d => oBind (di env) env fun j => (match j with
    | .int j => (match ixN xs.length j with
      | some n => (match xs[n]? with
        | some (.lst ys) => oBind (dj env) env fun j2 => (match j2 with
          | .int j2 => (match ixN ys.length j2 with
            | some m => .nx (env.set i (some (.lst (xs.set n (.lst (ys.set m d))))))
            | none => .bad)
          | _ => .bad)
        | _ => .bad)
      | none => .bad)
    | _ => .bad)
  | _ => .bad
/-- self.f = v, self in slot i -/
def sFld' (i : Nat) (cs : List Str) (f : Str) (de : Env → Res D) : Env → Out := fun env => match env[i]? with
  | some (some (.ins c fs)) => oBind (de env) env fun d => if cs.contains c = true ∧ fs.length < 1000 then .nx (env.set i (some (.ins c (putD f d fs)))) else .bad
  | _ => .bad

/-! ### their rules -/
section
variable {X : Cx} {K : Fr} {W : WX} {w w' w1 bk ct : List Ow} {k rt : Ow} {s : Ws} {st : Stmt} {rest body : List Stmt} {b b2 : Env → Out} {e c tg iter : Expr} {de dj : Env → Res D} {dt : Env → Res Bool} {di : Env → Res (List D)} {dg : D → Env → Option Env} {pos pos' : Pos}
theorem ss_nil : PSs X [] (rdS K w W sNx ⟨w, bk, ct, rt⟩) := PSs_weak pss_nil fun D σ H ⟨B0, H0, B, env, S, h⟩ => h B σ H S
theorem ss_end (hw : fzB w w' = true := by rfl) : PSs X [] (rdS K w W sNx ⟨w', bk, ct, rt⟩) := PSs_weak pss_nil fun D σ H ⟨B0, H0, B, env, S, h⟩ => let ⟨B', S', _⟩ := S.fz hw; h B' σ H S'
theorem ss_cons (h1 : PS X st (rdS K w W b ⟨w1, bk, ct, rt⟩)) (h2 : PSs X rest (rdS K w1 W b2 ⟨w', bk, ct, rt⟩)) : PSs X (st :: rest) (rdS K w W (bSeq b b2) ⟨w', bk, ct, rt⟩) := PSs_weak (pss_cons h1 h2) fun D σ H ⟨B0, H0, B, env, S, h⟩ => by
  refine ⟨B0, H0, B, env, S, ?_⟩
  unfold bSeq at h
  cases e : b env with
  | nx e1 => rw [e] at h; exact fun B1 σ1 H1 S1 => ⟨B0, H0, B1, e1, S1, h⟩
  | bk e1 => rw [e] at h; exact h
  | ct e1 => rw [e] at h; exact h
  | ret d => rw [e] at h; exact h
  | exc c fs e1 => rw [e] at h; exact h
  | bad => rw [e] at h; exact h
theorem s_fz (h : PS X st (rdS K w' W b s)) (hw : fzB w w' = true := by rfl) : PS X st (rdS K w W b s) := PS_weak h fun D σ H ⟨B0, H0, B, env, S, h⟩ => let ⟨B', S', _⟩ := S.fz hw; ⟨B0, H0, B', env, S', h⟩
theorem ss_fz (h : PSs X rest (rdS K w' W b s)) (hw : fzB w w' = true := by rfl) : PSs X rest (rdS K w W b s) := PSs_weak h fun D σ H ⟨B0, H0, B, env, S, h⟩ => let ⟨B', S', _⟩ := S.fz hw; ⟨B0, H0, B', env, S', h⟩
theorem s_never : PS X st (rdS K w W sNever s) := PS_weak ps_never fun D σ H ⟨B0, H0, B, env, S, h⟩ => h
theorem ss_never : PSs X rest (rdS K w W sNever s) := PSs_weak pss_never fun D σ H ⟨B0, H0, B, env, S, h⟩ => h
theorem s_pass : PS X (.Pass pos) (rdS K w W sNx ⟨w, bk, ct, rt⟩) := PS_weak ps_pass fun D σ H ⟨B0, H0, B, env, S, h⟩ => h B σ H S
theorem s_doc {x : Str} {j : Nat} : PS X (.Expr (.Constant (.str x) j pos) pos') (rdS K w W sNx ⟨w, bk, ct, rt⟩) := PS_weak ps_doc fun D σ H ⟨B0, H0, B, env, S, h⟩ => h B σ H S
theorem s_brk (hw : fzB w s.bk = true := by rfl) : PS X (.Break pos) (rdS K w W sBk s) := PS_weak ps_break fun D σ H ⟨B0, H0, B, env, S, h⟩ => let ⟨B', S', _⟩ := S.fz hw; h B' σ H S'
theorem s_cnt (hw : fzB w s.ct = true := by rfl) : PS X (.Continue pos) (rdS K w W sCt s) := PS_weak ps_continue fun D σ H ⟨B0, H0, B, env, S, h⟩ => let ⟨B', S', _⟩ := S.fz hw; h B' σ H S'
/-- name = value -/
theorem s_set (i : Nat) {x : Str} (he : PE X e (rdE K w W de k)) (hl : i < w.length := by exact of_decide_eq_true rfl) (hN : X.N.Nodup := by decide) (hi : X.N[i]? = some x := by rfl) (hx : Loc X.env.scope x := by first | exact Or.inl rfl | exact Or.inr rfl) (hs : swapsWith e (some (.Name x pos')) pos.line X.env = pure false := by rfl)
    (hf : X.fn x = true ∨ X.env.scope.names.lookup x = some .local := by first | exact .inl rfl | exact .inr rfl) : PS X (.Assign [.Name x pos'] e pos) (rdS K w W (sSet i de) ⟨w.set i k, bk, ct, rt⟩) :=
  PS_weak (ps_set hN hi hx he hs hf) fun D σ H ⟨B0, H0, B, env, S, h⟩ => st_E S h fun d v H1 B1 g _ gr r nd hf h1 => by
    obtain ⟨hz, h1⟩ := Out.iff h1
    exact h1 B1 _ H1 (S.set gr r nd hf hz hl)
/-- name = [..] -/
theorem s_setLc (i : Nat) {ke : Ow} {y : Str} {elt : Expr} {ifs : List Expr} {scope : Scope} {py spos : Pos} {tt : Env → Res Bool} (own : List (Str × Nat)) (hi : PI X tg iter (rdI K w W di))
    (hg : ∀ (s : Shared) (H : Hp) (C : Addr) (cl : List (Str × Addr)) (fp : List Addr), PG (X.blk s H scope (compEnvC scope cl C X.env) fp) tg (rdG K (wipeW w (own.map (·.2))) (own.map (·.2)) dg))
    (ht : ∀ (s : Shared) (H : Hp) (C : Addr) (cl : List (Str × Addr)) (fp : List Addr), PTs (X.blk s H scope (compEnvC scope cl C X.env) fp) ifs (rdT K (wipeW w (own.map (·.2))) WF tt))
    (he : ∀ (s : Shared) (H : Hp) (C : Addr) (cl : List (Str × Addr)) (fp : List Addr), PE (X.blk s H scope (compEnvC scope cl C X.env) fp) elt (rdE K (wipeW w (own.map (·.2))) WF de ke))
    (hl : i < w.length := by exact of_decide_eq_true rfl) (ok : blkC X.N X.env.scope scope own = true := by decide +kernel) (hc : X.calm = true := by rfl) (hN : X.N.Nodup := by decide) (hy : X.N[i]? = some y := by rfl) (hyl : X.env.scope.names.lookup y = some .local := by rfl)
    (hsw : swapsWith (.ListComp elt [⟨tg, iter, ifs, 0⟩] scope pos) (some (.Name y py)) spos.line X.env = pure true := by rfl) (hs : ∀ x, foldedSetIterable iter X.env x = pure x := by intro _; rfl) :
    PS X (.Assign [.Name y py] (.ListComp elt [⟨tg, iter, ifs, 0⟩] scope pos) spos) (rdS K w W (sSet i (dLc (own.map (·.2)) di dg tt de)) ⟨w.set i (.l ke), bk, ct, rt⟩) :=
  PS_weak (ps_setLc hc hN hy hyl hsw hi (blkOk_by ok) hg ht he hs) fun D σ H ⟨B0, H0, B, env, S, h⟩ => rdE_lc _ _ _ (st_E S h fun d v H1 B1 g _ gr r nd hf h1 => by
    obtain ⟨hz, h1⟩ := Out.iff h1
    exact h1 B1 _ H1 (S.set gr r nd hf hz hl))
/-- a, b = value -/
theorem s_asg {vs : List Nat} (hg : PG X tg (rdG K w vs dg)) (he : PE X e (rdE K w W de .z)) (hs : swapsWithSole [tg] e pos.line X.env = pure false := by rfl) (hw : swappedStores [tg] e X.env = pure none := by rfl) (h1 : (assignEach [tg] X.env).map (·.2) = [assign tg X.env] := by rfl) :
    PS X (.Assign [tg] e pos) (rdS K w W (sAsg dg de) ⟨w, bk, ct, rt⟩) :=
  PS_weak (ps_asg he hg hs hw h1) fun D σ H ⟨B0, H0, B, env, S, h⟩ => st_E S h fun d v H1 B1 g _ gr r nd hf h1 => by
    obtain ⟨fp, R, k1, k2, k3, k4⟩ := S.gr gr
    cases et : dg d env with
    | none => rw [et] at h1; exact h1.elim
    | some e1 =>
      rw [et] at h1
      exact ⟨B1, env, fp, d, R, r.1, e1, et, fun σ' fp' R' s' _ => h1 B1 σ' H1 ⟨fp', R', k1, k2, k3, fun i a ha => k4 i a (s' i a ha)⟩⟩
theorem s_expr (he : PE X e (rdE K w W de k)) (hs : swapsWith e none pos.line X.env = pure false := by rfl) : PS X (.Expr e pos) (rdS K w W (sExpr de) ⟨w, bk, ct, rt⟩) :=
  PS_weak (ps_expr he hs) fun D σ H ⟨B0, H0, B, env, S, h⟩ => st_E S h fun d v H1 B1 g _ gr r nd hf h1 => h1 B1 σ H1 (S.gr gr)
theorem s_ret (he : PE X e (rdE K w W de s.rt)) : PS X (.Return (some e) pos) (rdS K w W (sRet de) s) :=
  PS_weak (ps_ret he) fun D σ H ⟨B0, H0, B, env, S, h⟩ => st_E S h fun d v H1 B1 g _ gr r nd hf h1 => by
    obtain ⟨fp, R, k1, k2, k3, k4⟩ := S
    exact h1 B1 H1 v g (k1.tr gr.b) (k2.tr gr.h) gr.s (fun a ha => (gr.f a (k2.live ha)).trans (k3 a ha)) r nd fun a ha => ⟨k2.back (hf a ha).1, (hf a ha).2⟩
theorem s_retN (hz : s.rt = .z := by rfl) : PS X (.Return none pos) (rdS K w W sRetN s) :=
  PS_weak ps_retN fun D σ H ⟨B0, H0, B, env, S, h⟩ => by
    obtain ⟨fp, R, k1, k2, k3, k4⟩ := S
    have h : AfS K W s B0 H0 D (.ret .non) := h
    refine h B H .non [] k1 k2 R.s k3 ?_ List.nodup_nil fun a ha => by cases ha
    rw [hz]
    exact ⟨.non, rfl⟩
/-- return x, x a list or an instance of one's own -/
theorem s_retO (i : Nat) {x : Str} (hw : w.getD i .z = s.rt := by rfl) (hN : X.N[i]? = some x := by rfl) (hv : Vis X.env.scope x := by first | exact Or.inl rfl | exact Or.inr (Or.inl rfl) | exact Or.inr (Or.inr rfl)) (hd : (x == ("__debug__" : Str)) = false := by decide)
    (hcd : (x == ("__classdict__" : Str)) = false := by decide) : PS X (.Return (some (.Name x pos')) pos) (rdS K w W (sRet (dv i)) s) :=
  PS_weak (ps_ret (pe_var hN hv hd hcd)) fun D σ H ⟨B0, H0, B, env, S, h⟩ => by
    obtain ⟨fp, R, k1, k2, k3, k4⟩ := S
    have h : AfS K W s B0 H0 D (oBind (dv i env) env .ret) := h
    rcases dv_cases i env with ⟨d, e1, e2⟩ | e2
    · rw [e2] at h
      obtain ⟨v, h1, h2⟩ := R.sl i d e1
      rw [hw] at h2
      exact ⟨v, h1, h B H v (fp i) k1 k2 R.s k3 h2 (R.nd i) fun a ha => ⟨k4 i a ha, R.bn i a ha⟩⟩
    · rw [e2] at h; exact h.elim
theorem s_if {b1 c1 : List Stmt} {db dc : Env → Out} (ht : PT X c (rdT K w W dt)) (hb : PSs X b1 (rdS K w W db s)) (hc : PSs X c1 (rdS K w W dc s)) : PS X (.If c b1 c1 pos) (rdS K w W (sIf dt db dc) s) :=
  PS_weak (ps_if ht hb hc) fun D σ H ⟨B0, H0, B, env, S, h⟩ => st_T S h fun t H1 B1 _ gr h1 => by
    cases t with
    | true => rw [if_pos rfl]; exact ⟨B0, H0, B1, env, S.gr gr, h1⟩
    | false => rw [if_neg Bool.false_ne_true]; exact ⟨B0, H0, B1, env, S.gr gr, h1⟩
/-- raise C('..') -/
theorem s_raise {cn : Str} (he : PMk X e (fun _ H Q => Q (.ref (He.ga K cn)) none H)) (tk : Takes X W) (hc : X.calm = true := by rfl) : PS X (.Raise (some e) none pos) (rdS K w W (sRaise cn) s) :=
  PS_weak (ps_raise hc tk he) fun D σ H ⟨B0, H0, B, env, S, h⟩ => exc_out S h H B none (Gr.rf (let ⟨_, R, _⟩ := S; R.s)) (.inl ⟨rfl, rfl⟩)
/-- one turn of a loop -/
theorem turn_out {B0 H0 B3 H5 : Hp} {D : Ends} {N : L2.St → Hp → Prop} {o : Out} {f : Env → Out} (x : Ex B0 B3) (y : Ex H0 H5) (z : ∀ a, H0 a ≠ none → B3 a = B0 a) (h : AfS K W ⟨w, bk, ct, rt⟩ B0 H0 D (match o with
      | .nx e => f e
      | .ct e => f e
      | .bk e => .nx e
      | .ret v => .ret v
      | .exc c fs e => .exc c fs e
      | .bad => .bad)) (hn : ∀ e, AfS K W ⟨w, bk, ct, rt⟩ B0 H0 D (f e) → ∀ B σ H, SRel K w B3 H5 B H σ e → N σ H) : AfS K W ⟨w, w, w, rt⟩ B3 H5 { D with nx := N, ct := N, bk := D.nx } o := by
  cases o with
  | nx e => exact hn e h
  | ct e => exact hn e h
  | bk e => exact fun B σ H S => h B σ H (SRel.ofBase x y z S).1
  | ret v => exact AfS.base (W := W) x y z (s := ⟨w, bk, ct, rt⟩) (o := .ret v) h
  | exc c fs e => exact AfS.base (W := W) x y z (s := ⟨w, bk, ct, rt⟩) (o := .exc c fs e) h
  | bad => exact h
theorem s_for {vs : List Nat} (hi : PI X tg iter (rdI K w W di)) (hg : PG X tg (rdG K w vs dg)) (hb : PSs X body (rdS K w W b ⟨w, w, w, rt⟩)) (hp : PassesOwn (model X.prog X.w) X.A X.env X.xe) (hc : X.calm = true := by rfl) (hs : ∀ x, foldedSetIterable iter X.env x = pure x := by intro _; rfl) :
    PS X (.For tg iter body [] pos) (rdS K w W (sFor di dg b) ⟨w, bk, ct, rt⟩) :=
  PS_weak (ps_for hp hc hi hg hb hs) fun D σ H ⟨B0, H0, B, env, S, h⟩ => st_Y S h fun ds J H1 B1 _ gr Y h1 => by
    refine ⟨fun i m σ H => m = ds.length - i ∧ i ≤ ds.length ∧ ∃ B e, SRel K w B0 H0 B H σ e ∧ Ex B1 B ∧ AfS K W ⟨w, bk, ct, rt⟩ B0 H0 D (loopD dg b (ds.drop i) e), ⟨ds.length, rfl, Nat.zero_le _, B1, env, S.gr gr, Ex.rfl' _, h1⟩, ?_⟩
    rintro i m σ H ⟨rfl, hi, B2, e, S2, x2, h2⟩
    have s2 : Ex B2 H := let ⟨_, R, _⟩ := S2; R.s
    by_cases hlt : i < ds.length
    · refine .inr ⟨Y.go i H (x2.tr s2) hlt, fun σ' H' => i + 1 ≤ ds.length ∧ ∃ B e, SRel K w B0 H0 B H' σ' e ∧ Ex B1 B ∧ AfS K W ⟨w, bk, ct, rt⟩ B0 H0 D (loopD dg b (ds.drop (i + 1)) e), fun σ' H' n => ⟨ds.length - (i + 1), by omega, rfl, n.1, n.2⟩, fun x H3 y => ?_⟩
      obtain ⟨B3, g3, r3⟩ := Y.yld i ds[i] H x H3 B2 x2 s2 (List.getElem?_eq_getElem hlt) y
      have S3 := S2.gr g3
      obtain ⟨fp, R, k1, k2, k3, k4⟩ := id S3
      rw [List.drop_eq_getElem_cons hlt] at h2
      unfold loopD at h2
      cases et : dg ds[i] e with
      | none => rw [et] at h2; exact h2.elim
      | some e1 =>
        rw [et] at h2
        refine ⟨B3, e, fp, ds[i], R, r3, e1, et, fun σ4 fp4 R4 s4 _ => ?_⟩
        have S4 : SRel K w B0 H0 B3 H3 σ4 e1 := ⟨fp4, R4, k1, k2, k3, fun i a ha => k4 i a (s4 i a ha)⟩
        obtain ⟨H5, S5, x5, f5⟩ := S4.rebase
        exact ⟨B3, H5, B3, e1, S5, turn_out k1 x5 f5 h2 fun e2 h6 B6 σ6 H6 S6 => ⟨hlt, B6, e2, (SRel.ofBase k1 x5 f5 S6).1, (x2.tr g3.b).tr (SRel.ofBase k1 x5 f5 S6).2, h6⟩⟩
    · have ei : i = ds.length := by omega
      subst ei
      rw [List.drop_length] at h2
      exact .inl ⟨Y.stop H (x2.tr s2), h2 B2 σ H S2⟩
theorem s_while (fuel : Env → Nat) (ht : PT X c (rdT K w W dt)) (hb : PSs X body (rdS K w W b ⟨w, w, w, rt⟩)) (hp : PassesOwn (model X.prog X.w) X.A X.env X.xe) : PS X (.While c body [] pos) (rdS K w W (sWhile fuel dt b) ⟨w, bk, ct, rt⟩) :=
  PS_weak (ps_while hp ht hb) fun D σ H ⟨B0, H0, B, env, S, h⟩ => by
    refine ⟨fun m σ H => ∃ B e, SRel K w B0 H0 B H σ e ∧ AfS K W ⟨w, bk, ct, rt⟩ B0 H0 D (whileD dt b m e), ⟨fuel env, B, env, S, h⟩, ?_⟩
    rintro m σ H ⟨B2, e, S2, h2⟩
    cases m with
    | zero => exact h2.elim
    | succ n =>
      refine st_T S2 h2 fun t H3 B3 _ gr h3 => ?_
      have S3 := S2.gr gr
      cases t with
      | false =>
        rw [if_neg Bool.false_ne_true] at h3 ⊢
        exact h3 B3 σ H3 S3
      | true =>
        rw [if_pos rfl] at h3 ⊢
        exact ⟨fun σ' H' => ∃ B e, SRel K w B0 H0 B H' σ' e ∧ AfS K W ⟨w, bk, ct, rt⟩ B0 H0 D (whileD dt b n e), fun σ' H' q => ⟨n, Nat.lt_succ_self _, q⟩, B0, H0, B3, e, S3, turn_out (Ex.rfl' _) (Ex.rfl' _) (fun _ _ => rfl) h3 fun e2 h6 B6 σ6 H6 S6 => ⟨B6, e2, S6, h6⟩⟩

/-! ### lists of one's own are written -/
theorem Rel.own {B H : Hp} {σ : L2.St} {env : Env} {fp : Nat → List Addr} {i : Nat} {d : Fz.D} (R : Rel K w B H σ env fp) (hw : w.getD i .z = .l k) (e : env[i]? = some (some d)) :
    ∃ p vs ds fs, d = .lst ds ∧ σ[i]? = some (some (.ref p)) ∧ H p = some (.lst vs) ∧ ROs (RepO K B H k) vs ds fs ∧ fp i = p :: fs := by
  obtain ⟨v, h1, h2⟩ := R.sl i d e
  rw [hw] at h2
  obtain ⟨p, vs, ds, fs, e1, e2, hp, r, ef⟩ := h2
  subst e1 e2
  exact ⟨p, vs, ds, fs, rfl, h1, hp, r, ef⟩
theorem List.set_get {α : Type} {l : List α} {i : Nat} {a : α} (h : l[i]? = some a) : l.set i a = l := by
  apply List.ext_getElem?
  intro j
  by_cases q : i = j
  · subst q
    have hl := (List.getElem?_eq_some_iff.mp h).1
    rw [List.getElem?_set_self hl, h]
  · rw [List.getElem?_set_ne q]
/-- the slot's own things are written anew; what lies apart from them stays -/
theorem Rel.put {B H H' : Hp} {σ : L2.St} {env : Env} {fp : Nat → List Addr} {i : Nat} {d d' : Fz.D} {v : V} {f : List Addr} (R : Rel K w B H σ env fp) (e : env[i]? = some (some d)) (hv : σ[i]? = some (some v)) (hH : ∀ a o, a ∉ fp i → H a = some o → H' a = some o)
    (r : RepO K B H' (w.getD i .z) v d' f) (nd : f.Nodup) (hf : ∀ a ∈ f, a ∈ fp i ∨ ((∀ j, a ∉ fp j) ∧ B a = none)) : Rel K w B H' σ (env.set i (some d')) (fun j => if j = i then f else fp j) := by
  have hi := (List.getElem?_eq_some_iff.mp e).1
  refine ⟨fun a o q => ?_, by rw [List.length_set]; exact R.len, fun j d2 e2 => ?_, fun j hj => ?_, fun j => ?_, fun j l hjl a ha => ?_, fun j a ha => ?_⟩
  · refine hH a o (fun m => ?_) (R.s a o q)
    rw [R.bn i a m] at q; cases q
  · by_cases q : j = i
    · subst q
      rw [List.getElem?_set_self hi] at e2
      cases e2
      exact ⟨v, hv, by simpa using r⟩
    · rw [List.getElem?_set_ne (Ne.symm q)] at e2
      obtain ⟨u, h1, h2⟩ := R.sl j d2 e2
      refine ⟨u, h1, ?_⟩
      simp only [q, if_false]
      exact h2.on (Ex.rfl' _) _ fun a ha o => hH a o fun m => R.dj j i q a ha m
  · by_cases q : j = i
    · subst q
      exact absurd (List.getElem?_set_self hi) (hj d')
    · rw [if_neg q]
      exact R.nn j fun d2 h2 => hj d2 (by rw [List.getElem?_set_ne (Ne.symm q)]; exact h2)
  · by_cases q : j = i
    · rw [if_pos q]; exact nd
    · rw [if_neg q]; exact R.nd j
  · by_cases q : j = i
    · rw [if_pos q] at ha
      have q2 : l ≠ i := fun z => hjl (q.trans z.symm)
      rw [if_neg q2]
      intro m
      rcases hf a ha with z | z
      · exact R.dj l i q2 a m z
      · exact z.1 l m
    · rw [if_neg q] at ha
      by_cases q2 : l = i
      · rw [if_pos q2]
        intro m
        rcases hf a m with z | z
        · exact R.dj j i q a ha z
        · exact z.1 j ha
      · rw [if_neg q2]; exact R.dj j l hjl a ha
  · by_cases q : j = i
    · rw [if_pos q] at ha
      rcases hf a ha with z | z
      · exact R.bn i a z
      · exact z.2
    · rw [if_neg q] at ha; exact R.bn j a ha
theorem SRel.put {B0 H0 B H H' : Hp} {σ : L2.St} {env : Env} {i : Nat} {d d' : Fz.D} {v : V} {f : List Addr} {fp : Nat → List Addr} (R : Rel K w B H σ env fp) (k1 : Ex B0 B) (k2 : Ex H0 H) (k3 : ∀ a, H0 a ≠ none → B a = B0 a) (k4 : ∀ i, ∀ a ∈ fp i, H0 a = none) (e : env[i]? = some (some d)) (hv : σ[i]? = some (some v))
    (hH : ∀ a o, a ∉ fp i → H a = some o → H' a = some o) (r : RepO K B H' (w.getD i .z) v d' f) (nd : f.Nodup) (hf : ∀ a ∈ f, a ∈ fp i ∨ ((∀ j, a ∉ fp j) ∧ B a = none ∧ H0 a = none)) : SRel K w B0 H0 B H' σ (env.set i (some d')) := by
  refine ⟨_, R.put e hv hH r nd fun a ha => (hf a ha).imp id fun z => ⟨z.1, z.2.1⟩, k1, fun a o q => ?_, k3, fun j a ha => ?_⟩
  · exact hH a o (fun m => by rw [k4 i a m] at q; cases q) (k2 a o q)
  · by_cases q : j = i
    · rw [if_pos q] at ha
      rcases hf a ha with z | z
      · exact k4 i a z
      · exact z.2.2
    · rw [if_neg q] at ha; exact k4 j a ha
theorem ROs.split {R : V → Fz.D → List Addr → Prop} : ∀ {vs : List V} {ds : List Fz.D} {fs : List Addr} {i : Nat} {d : Fz.D}, ROs R vs ds fs → ds[i]? = some d →
    ∃ v f fs1 fs2, vs[i]? = some v ∧ R v d f ∧ fs = fs1 ++ (f ++ fs2)
  | _, _, _, i, d, .nil, e => by simp at e
  | _, _, _, 0, d, .cons r t, e => by
    simp at e; subst e
    exact ⟨_, _, [], _, rfl, r, rfl⟩
  | _, _, _, i + 1, d, .cons (f := f0) r t, e => by
    obtain ⟨v, f, fs1, fs2, h1, h2, h3⟩ := ROs.split (i := i) (d := d) t (by simpa using e)
    exact ⟨v, f, f0 ++ fs1, fs2, by simpa using h1, h2, by rw [h3, List.append_assoc]⟩
/-- the item at i is another one; all others are told by R' -/
theorem ROs.setAt {R R' : V → Fz.D → List Addr → Prop} {u : V} {e : Fz.D} {g : List Addr} (hu : R' u e g) : ∀ {vs : List V} {ds : List Fz.D} {fs : List Addr} {i : Nat} {d : Fz.D}, ROs R vs ds fs → ds[i]? = some d →
    (∀ v d f, R v d f → (∀ a ∈ f, a ∈ fs) → R' v d f) → ∃ f fs1 fs2, fs = fs1 ++ (f ++ fs2) ∧ ROs R' (vs.set i u) (ds.set i e) (fs1 ++ (g ++ fs2))
  | _, _, _, i, d, .nil, h, _ => by simp at h
  | _, _, _, 0, d, .cons (f := f0) (fs := fs0) r t, h, k => by
    have go : ∀ {vs : List V} {ds : List Fz.D} {fs : List Addr}, (∀ v d f, R v d f → (∀ a ∈ f, a ∈ fs) → R' v d f) → ROs R vs ds fs → ROs R' vs ds fs := by
      intro vs ds fs k t
      induction t with
      | nil => exact .nil
      | cons r t ih => exact .cons (k _ _ _ r fun a ha => List.mem_append_left _ ha) (ih fun v d f r hf => k v d f r fun a ha => List.mem_append_right _ (hf a ha))
    exact ⟨f0, [], fs0, rfl, ROs.cons (f := g) (fs := fs0) hu (go (fun v d f r hf => k v d f r fun a ha => List.mem_append_right _ (hf a ha)) t)⟩
  | _, _, _, i + 1, d, .cons (f := f0) r t, h, k => by
    obtain ⟨f, fs1, fs2, h1, h2⟩ := ROs.setAt hu (i := i) (d := d) t (by simpa using h) fun v d f r hf => k v d f r fun a ha => List.mem_append_right _ (hf a ha)
    refine ⟨f, f0 ++ fs1, fs2, by rw [h1, List.append_assoc], ?_⟩
    have q := ROs.cons (k _ _ _ r fun a ha => List.mem_append_left _ ha) h2
    rw [List.append_assoc]
    exact q
/-- xs.append(e), xs a list of one's own -/
theorem s_app (i : Nat) {x : Str} {apos cpos npos : Pos} (hw : w.getD i .z = .l k := by rfl) (he : PE X e (rdE K w W de k)) (hN : X.N[i]? = some x := by rfl) (hv : Vis X.env.scope x := by first | exact Or.inl rfl | exact Or.inr (Or.inl rfl) | exact Or.inr (Or.inr rfl)) (hK : X.K = K := by rfl)
    (hd : (x == ("__debug__" : Str)) = false := by decide) (hcd : (x == ("__classdict__" : Str)) = false := by decide) (hs : swapsWith (.Call (.Attribute (.Name x npos) "append" apos) [e] [] cpos) none pos.line X.env = pure false := by rfl)
    (hbase : attributeBase (.Name x npos) "append" X.env (eval (.Name x npos) X.env) = eval (.Name x npos) X.env := by rfl)
    (hfew : ((backTo cpos (starEach [e] X.env)).all (fun x => !x.1) && (backToKw cpos (keywordEach [] X.env)).all (fun x => x.1.isSome) && decide ([e].length + ([] : List Keyword).length + (if ([] : List Keyword).isEmpty then 0 else 1) < 30)) = true := by rfl)
    (hline : (apos.endLine == cpos.line) = true := by rfl) (hst : starEach [e] X.env = (false, eval e X.env) :: starEach [] X.env := by rfl) (hplain : (backTo cpos (starEach [] X.env)).any (·.1) = false := by rfl) :
    PS X (.Expr (.Call (.Attribute (.Name x npos) "append" apos) [e] [] cpos) pos) (rdS K w W (sApp i de) ⟨w, bk, ct, rt⟩) := by
  subst hK
  have ha : PA X [e] (fun σ H Q => rdE X.K w W de k σ H fun v H1 => Q [v] H1) := PA_weak (pa_cons he pa_nil hst) fun σ H Q h => h
  refine PS_weak (ps_expr (pe_bm PySem.F.plainAttrs_list PySem.F.slot_list_append PySem.F.type_list_append mt_append (pe_var hN hv hd hcd) ha hbase hfew hline hst hplain) hs) fun D σ H ⟨B0, H0, B, env, S, h⟩ => ?_
  unfold sApp at h
  split at h
  · rename_i xs e1
    obtain ⟨fp, R, k1, k2, k3, k4⟩ := id S
    obtain ⟨p, vs, ds, fs, ed, hp, hH, ro, ef⟩ := R.own hw e1
    cases ed
    refine ⟨.ref p, hp, .inl ⟨rfl, vs, SqL.of hH⟩, st_E S h fun d v H1 B1 g _ gr r nd hf h1 => ?_⟩
    obtain ⟨hz, h1⟩ := Out.iff h1
    refine ⟨p, vs, v, rfl, rfl, gr.h _ _ hH, by rw [ro.length, sizeLine_eq]; exact hz, ?_⟩
    have pn : p ∉ fs := by have q := R.nd i; rw [ef] at q; exact (List.nodup_cons.mp q).1
    have pg : p ∉ g := fun m => by have q := (hf p m).1; rw [hH] at q; cases q
    have off : ∀ {a : Addr}, a ≠ p → (upd H1 p (.lst (vs ++ [v]))) a = H1 a := fun h => upd_ne h
    refine h1 B1 σ _ (SRel.put (R.gr gr) (k1.tr gr.b) (k2.tr gr.h) (fun a ha => (gr.f a (k2.live ha)).trans (k3 a ha)) k4 e1 hp (fun a o m q => ?_) (f := p :: (fs ++ g)) ?_ ?_ ?_)
    · rw [off (fun z => m (by rw [z, ef]; exact List.mem_cons_self))]; exact q
    · rw [hw]
      refine ⟨p, vs ++ [v], _, fs ++ g, rfl, rfl, upd_same, ROs.snoc (r.on (Ex.rfl' _) k fun a ha o q => ?_) (ro.onD gr.b fun a ha o q => ?_), rfl⟩
      · rw [off fun z => pg (z ▸ ha)]; exact q
      · rw [off fun z => pn (z ▸ ha)]; exact gr.h a o q
    · refine List.nodup_cons.mpr ⟨fun m => (List.mem_append.mp m).elim pn pg, List.nodup_append.mpr ⟨?_, nd, fun a ha b hb q => ?_⟩⟩
      · have q := R.nd i
        rw [ef] at q
        exact (List.nodup_cons.mp q).2
      · subst q
        exact ro.mem a ha (hf a hb).1
    · intro a ha
      rcases List.mem_cons.mp ha with q | q
      · exact .inl (by rw [q, ef]; exact List.mem_cons_self)
      · rcases List.mem_append.mp q with q | q
        · exact .inl (by rw [ef]; exact List.mem_cons_of_mem _ q)
        · exact .inr ⟨fun j m => R.live j a m (hf a q).1, (hf a q).2, k2.back (hf a q).1⟩
  · exact h.elim
theorem ROs.len {R : V → Fz.D → List Addr → Prop} {vs : List V} {ds : List Fz.D} {fs : List Addr} (r : ROs R vs ds fs) : vs.length = ds.length := r.length
/-- xs[ix] = e -/
theorem s_put (i : Nat) {x : Str} {ix : Expr} {di : Env → Res Fz.D} {npos tpos : Pos} (hw : w.getD i .z = .l k := by rfl) (he : PE X e (rdE K w W de k)) (hx : PE X ix (rdE K w W di .z)) (hN : X.N[i]? = some x := by rfl) (hv : Vis X.env.scope x := by first | exact Or.inl rfl | exact Or.inr (Or.inl rfl) | exact Or.inr (Or.inr rfl))
    (hd : (x == ("__debug__" : Str)) = false := by decide) (hcd : (x == ("__classdict__" : Str)) = false := by decide) (hp : PlainIx ix := by exact fun _ _ => rfl) (hs : swapsWithSole [.Subscript (.Name x npos) ix tpos] e pos.line X.env = pure false := by rfl)
    (hw2 : swappedStores [.Subscript (.Name x npos) ix tpos] e X.env = pure none := by rfl) (h1 : (assignEach [.Subscript (.Name x npos) ix tpos] X.env).map (·.2) = [assign (.Subscript (.Name x npos) ix tpos) X.env] := by rfl)
    (ha : ∀ v, assign (.Subscript (.Name x npos) ix tpos) X.env v = (do
      let ov ← holding [v] (eval (.Name x npos) X.env)
      let iv ← holding [v, ov] (eval ix X.env)
      standAt tpos
      holding [v, ov, iv] (setItem ov iv v)
      release [v, ov, iv] []) := by intro _; rfl) :
    PS X (.Assign [.Subscript (.Name x npos) ix tpos] e pos) (rdS K w W (sPut i di de) ⟨w, bk, ct, rt⟩) := by
  refine PS_weak (ps_asg he (pg_sub (pe_var hN hv hd hcd) hx set_list ha) hs hw2 h1) fun D σ H ⟨B0, H0, B, env, S, h⟩ => ?_
  unfold sPut at h
  split at h
  · rename_i xs e1
    refine st_E S h fun d v H1 B1 g _ gr r nd hf h1 => ?_
    have S1 := S.gr gr
    obtain ⟨fp, R0, k1, k2, k3, k4⟩ := id S
    obtain ⟨p, vs, ds, fs, ed, hp, hH, ro, ef⟩ := R0.own hw e1
    cases ed
    refine ⟨.ref p, hp, st_E S1 h1 fun d2 v2 H2 B2 g2 ed2 gr2 r2 nd2 hf2 h2 => ?_⟩
    split at h2
    · rename_i j
      split at h2
      · rename_i n en
        have ev2 := r2.1.intI
        have g12 := gr.tr gr2
        have hn : n < xs.length := by
          unfold ixN at en
          split at en
          · split at en
            · cases en; omega
            · cases en
          · split at en
            · cases en; omega
            · cases en
        have pn : p ∉ fs := by have q := R0.nd i; rw [ef] at q; exact (List.nodup_cons.mp q).1
        have pg : p ∉ g := fun m => by have q := (hf p m).1; rw [hH] at q; cases q
        refine ⟨p, vs, j, n, rfl, ev2, g12.h _ _ hH, by rw [ro.length]; exact en, ?_⟩
        have off : ∀ {a : Addr}, a ≠ p → (upd H2 p (.lst (vs.set n v))) a = H2 a := fun h => upd_ne h
        obtain ⟨f, fs1, fs2, ea, eb⟩ := ROs.setAt (R' := RepO K B2 (upd H2 p (.lst (vs.set n v))) k) (u := v) (e := d) (g := g) ((r.mono gr2.b gr2.h).on (Ex.rfl' _) k fun a ha o q => by rw [off fun z => pg (z ▸ ha)]; exact q) ro (List.getElem?_eq_getElem hn)
          fun u d f r hs => (r.mono g12.b g12.h).on (Ex.rfl' _) k fun a ha o q => by rw [off fun z => pn (z ▸ hs a ha)]; exact q
        have nfs : fs.Nodup := by have q := R0.nd i; rw [ef] at q; exact (List.nodup_cons.mp q).2
        have sub : ∀ a ∈ fs1 ++ (g ++ fs2), a ∈ fs ∨ a ∈ g := fun a ha => by
          rw [ea]
          rcases List.mem_append.mp ha with q | q
          · exact .inl (List.mem_append_left _ q)
          · rcases List.mem_append.mp q with q | q
            · exact .inr q
            · exact .inl (List.mem_append_right _ (List.mem_append_right _ q))
        refine h2 B2 σ _ (SRel.put (R0.gr g12) (k1.tr g12.b) (k2.tr g12.h) (fun a ha => (g12.f a (k2.live ha)).trans (k3 a ha)) k4 e1 hp (fun a o m q => ?_) (f := p :: (fs1 ++ (g ++ fs2))) ?_ ?_ ?_)
        · rw [off (fun z => m (by rw [z, ef]; exact List.mem_cons_self))]; exact q
        · rw [hw]
          exact ⟨p, _, _, _, rfl, rfl, upd_same, eb, rfl⟩
        · refine List.nodup_cons.mpr ⟨fun m => (sub p m).elim pn pg, ?_⟩
          rw [ea] at nfs
          have fg : ∀ a ∈ fs, a ∉ g := fun a ha m => ro.mem a ha (hf a m).1
          rw [ea] at fg
          obtain ⟨n1, n2, n3⟩ := List.nodup_append.mp nfs
          obtain ⟨_, n4, _⟩ := List.nodup_append.mp n2
          refine List.nodup_append.mpr ⟨n1, List.nodup_append.mpr ⟨nd, n4, fun a ha b hb q => ?_⟩, fun a ha b hb q => ?_⟩
          · subst q
            exact fg a (List.mem_append_right _ (List.mem_append_right _ hb)) ha
          · subst q
            rcases List.mem_append.mp hb with q | q
            · exact fg a (List.mem_append_left _ ha) q
            · exact n3 a ha a (List.mem_append_right _ q) rfl
        · intro a ha
          rcases List.mem_cons.mp ha with q | q
          · exact .inl (by rw [q, ef]; exact List.mem_cons_self)
          · rcases sub a q with q | q
            · exact .inl (by rw [ef]; exact List.mem_cons_of_mem _ q)
            · refine .inr ⟨fun j m => R0.live j a m (hf a q).1, (gr2.f a ?_).trans (hf a q).2, k2.back (hf a q).1⟩
              exact r.mem _ a q
      · exact h2.elim
    · exact h2.elim
  · exact h.elim
end
end Fz
set_option Elab.async false
set_option linter.all false
set_option maxRecDepth 100000
set_option maxHeartbeats 4000000
/-! Functionalization: more statements: xs[i][j] = v, self.f = v, try. -/
namespace Fz
open PySem PySem.Spec PyProof.Rows L2

section
variable {X : Cx} {K : Fr} {W : WX} {w w' w1 bk ct : List Ow} {k rt : Ow} {s : Ws} {st : Stmt} {rest body : List Stmt} {b b2 : Env → Out} {e c tg iter : Expr} {de dj : Env → Res D} {dt : Env → Res Bool} {di : Env → Res (List D)} {dg : D → Env → Option Env} {pos pos' : Pos}
theorem ixN_lt {n : Nat} {i : Int} {j : Nat} (h : ixN n i = some j) : j < n := by
  unfold ixN at h
  split at h
  · split at h
    · cases h; omega
    · cases h
  · split at h
    · cases h; omega
    · cases h
theorem atI_of {α : Type} {xs : List α} {i : Int} {j : Nat} (h : ixN xs.length i = some j) : atI xs i = xs[j]? := by
  unfold atI
  rw [h] <;> rfl
theorem ROs.imp2 {R R' : V → Fz.D → List Addr → Prop} : ∀ {vs : List V} {ds : List Fz.D} {fs : List Addr}, ROs R vs ds fs → (∀ v d f, R v d f → (∀ a ∈ f, a ∈ fs) → R' v d f) → ROs R' vs ds fs
  | _, _, _, .nil, _ => .nil
  | _, _, _, .cons r t, h => .cons (h _ _ _ r fun a ha => List.mem_append_left _ ha) (t.imp2 fun v d f r hf => h v d f r fun a ha => List.mem_append_right _ (hf a ha))
/-- one item, and the others -/
theorem ROs.focus {R : V → Fz.D → List Addr → Prop} : ∀ {vs : List V} {ds : List Fz.D} {fs : List Addr} {i : Nat} {d : Fz.D}, ROs R vs ds fs → ds[i]? = some d →
    ∃ v f fs1 fs2, vs[i]? = some v ∧ R v d f ∧ fs = fs1 ++ (f ++ fs2) ∧ ∀ (R' : V → Fz.D → List Addr → Prop) u e g, R' u e g → (∀ v d f, R v d f → (∀ a ∈ f, a ∈ fs1 ++ fs2) → R' v d f) → ROs R' (vs.set i u) (ds.set i e) (fs1 ++ (g ++ fs2))
  | _, _, _, i, d, .nil, h => by simp at h
  | _, _, _, 0, d, .cons (f := f0) (fs := fs0) r t, h => by
    simp at h; subst h
    exact ⟨_, f0, [], fs0, rfl, r, rfl, fun R' u e g hu k => ROs.cons (f := g) (fs := fs0) hu (t.imp2 k)⟩
  | _, _, _, i + 1, d, .cons (f := f0) r t, h => by
    obtain ⟨v, f, fs1, fs2, h1, h2, h3, h4⟩ := ROs.focus (i := i) (d := d) t (by simpa using h)
    refine ⟨v, f, f0 ++ fs1, fs2, by simpa using h1, h2, by rw [h3, List.append_assoc], fun R' u e g hu k => ?_⟩
    have q := ROs.cons (k _ _ _ r fun a ha => List.mem_append_left _ (List.mem_append_left _ ha)) (h4 R' u e g hu fun v d f r hf => k v d f r fun a ha => by
      rw [List.append_assoc]
      exact List.mem_append_right _ (hf a ha))
    rw [List.append_assoc]
    exact q
/-- xs[ix][iy] = e -/
theorem s_put2 (i : Nat) {x : Str} {ix iy : Expr} {di dj : Env → Res Fz.D} {npos ipos tpos : Pos} (hw : w.getD i .z = .l (.l k) := by rfl) (he : PE X e (rdE K w W de k)) (hx : PE X ix (rdE K w W di .z)) (hy : PE X iy (rdE K w W dj .z)) (hN : X.N[i]? = some x := by rfl)
    (hv : Vis X.env.scope x := by first | exact Or.inl rfl | exact Or.inr (Or.inl rfl) | exact Or.inr (Or.inr rfl)) (hd : (x == ("__debug__" : Str)) = false := by decide) (hcd : (x == ("__classdict__" : Str)) = false := by decide) (hp : PlainIx ix := by exact fun _ _ => rfl)
    (ha : ∀ v, assign (.Subscript (.Subscript (.Name x npos) ix ipos) iy tpos) X.env v = (do
      let ov ← holding [v] (eval (.Subscript (.Name x npos) ix ipos) X.env)
      let iv ← holding [v, ov] (eval iy X.env)
      standAt tpos
      holding [v, ov, iv] (setItem ov iv v)
      release [v, ov, iv] []) := by intro _; rfl)
    (hs : swapsWithSole [.Subscript (.Subscript (.Name x npos) ix ipos) iy tpos] e pos.line X.env = pure false := by rfl)
    (hw2 : swappedStores [.Subscript (.Subscript (.Name x npos) ix ipos) iy tpos] e X.env = pure none := by rfl) (h1 : (assignEach [.Subscript (.Subscript (.Name x npos) ix ipos) iy tpos] X.env).map (·.2) = [assign (.Subscript (.Subscript (.Name x npos) ix ipos) iy tpos) X.env] := by rfl) (hK : X.K = K := by rfl) :
    PS X (.Assign [.Subscript (.Subscript (.Name x npos) ix ipos) iy tpos] e pos) (rdS K w W (sPut2 i di dj de) ⟨w, bk, ct, rt⟩) := by
  subst hK
  refine PS_weak (ps_asg he (pg_sub (pe_ix ix_seq (pe_var hN hv hd hcd) hx hp) hy set_list ha) hs hw2 h1) fun D σ H ⟨B0, H0, B, env, S, h⟩ => ?_
  unfold sPut2 at h
  split at h
  · rename_i xs e1
    refine st_E S h fun d v H1 B1 g _ gr r nd hf h1 => ?_
    have S1 := S.gr gr
    obtain ⟨fp, R0, k1, k2, k3, k4⟩ := id S
    obtain ⟨p, vs, ds, fs, ed, hp, hH, ro, ef⟩ := R0.own hw e1
    cases ed
    refine ⟨.ref p, hp, st_E S1 h1 fun d2 v2 H2 B2 g2 ed2 gr2 r2 nd2 hf2 h2 => ?_⟩
    split at h2
    · rename_i j
      split at h2
      · rename_i n en
        split at h2
        · rename_i ys ey
          have ev2 := r2.1.intI
          have g12 := gr.tr gr2
          have S2 := S1.gr gr2
          obtain ⟨u, f, fs1, fs2, eu, ⟨q, us, es, gs, e3, e4, hq, rq, eq⟩, ea, foc⟩ := ro.focus ey
          subst e3
          cases e4
          have hq2 := g12.h _ _ hq
          refine .inl ⟨p, vs, j, .ref q, rfl, ev2, SqL.of (g12.h _ _ hH), by rw [atI_of (by rw [ro.length]; exact en)]; exact eu, st_E S2 h2 fun d3 v3 H3 B3 g3 ed3 gr3 r3 nd3 hf3 h3 => ?_⟩
          split at h3
          · rename_i j2
            split at h3
            · rename_i m em
              have ev3 := r3.1.intI
              have g13 := g12.tr gr3
              have hm := ixN_lt em
              refine ⟨q, us, j2, m, rfl, ev3, gr3.h _ _ hq2, by rw [rq.length]; exact em, ?_⟩
              have nfs : (p :: fs).Nodup := by have z := R0.nd i; rw [ef] at z; exact z
              obtain ⟨pn, nfs⟩ := List.nodup_cons.mp nfs
              rw [ea, eq] at nfs pn
              obtain ⟨n1, n2, n3⟩ := List.nodup_append.mp nfs
              obtain ⟨n4, n5, n6⟩ := List.nodup_append.mp n2
              obtain ⟨qn, n7⟩ := List.nodup_cons.mp n4
              have qg : q ∉ g := fun z => by have y := (hf q z).1; rw [hq] at y; cases y
              have off : ∀ {a : Addr}, a ≠ q → (upd H3 q (.lst (us.set m v))) a = H3 a := fun h => upd_ne h
              -- the inner list
              obtain ⟨f0, a1, a2, eb, rb⟩ := ROs.setAt (R' := RepO X.K B3 (upd H3 q (.lst (us.set m v))) k) (u := v) (e := d) (g := g) ((r.mono (gr2.tr gr3).b (gr2.tr gr3).h).on (Ex.rfl' _) k fun a ha o z => by rw [off fun y => qg (y ▸ ha)]; exact z) rq (List.getElem?_eq_getElem hm)
                fun u d f r hs => (r.mono g13.b g13.h).on (Ex.rfl' _) k fun a ha o z => by rw [off fun y => qn (y ▸ hs a ha)]; exact z
              have r4 : RepO X.K B3 (upd H3 q (.lst (us.set m v))) (.l k) (.ref q) (.lst (ys.set m d)) (q :: (a1 ++ (g ++ a2))) := ⟨q, _, _, _, rfl, rfl, upd_same, rb, rfl⟩
              -- all lists
              have pq : p ≠ q := fun z => by
                subst z
                exact pn (List.mem_append_right _ (List.mem_append_left _ List.mem_cons_self))
              have sub1 : ∀ a ∈ a1 ++ (g ++ a2), a ∈ gs ∨ a ∈ g := fun a ha => by
                rw [eb]
                rcases List.mem_append.mp ha with z | z
                · exact .inl (List.mem_append_left _ z)
                · rcases List.mem_append.mp z with z | z
                  · exact .inr z
                  · exact .inl (List.mem_append_right _ (List.mem_append_right _ z))
              have eset : vs.set n (.ref q) = vs := List.set_get eu
              have ro4 : ROs (RepO X.K B3 (upd H3 q (.lst (us.set m v))) (.l k)) vs (xs.set n (.lst (ys.set m d))) (fs1 ++ ((q :: (a1 ++ (g ++ a2))) ++ fs2)) := by
                have z := foc (RepO X.K B3 (upd H3 q (.lst (us.set m v))) (.l k)) (.ref q) (.lst (ys.set m d)) (q :: (a1 ++ (g ++ a2))) r4 fun v d f r hs => (r.mono g13.b g13.h).on (Ex.rfl' _) _ fun a ha o z => by
                  rw [off fun y => ?_]
                  · exact z
                  · subst y
                    rcases List.mem_append.mp (hs a ha) with y | y
                    · exact n3 a y a (List.mem_append_left _ List.mem_cons_self) rfl
                    · exact n6 a List.mem_cons_self a y rfl
                rw [eset] at z
                exact z
              have live : ∀ a ∈ fs, H a ≠ none := fun a ha => ro.mem a ha
              rw [ea, eq] at live
              have ng : ∀ a ∈ g, a ∉ fs1 ++ (q :: gs ++ fs2) := fun a ha m => live a m (hf a ha).1
              have pg : p ∉ g := fun z => by have y := (hf p z).1; rw [hH] at y; cases y
              have sub2 : ∀ a ∈ fs1 ++ (q :: (a1 ++ (g ++ a2)) ++ fs2), a ∈ fs1 ++ (q :: gs ++ fs2) ∨ a ∈ g := fun a ha => by
                rcases List.mem_append.mp ha with z | z
                · exact .inl (List.mem_append_left _ z)
                · rcases List.mem_append.mp z with z | z
                  · rcases List.mem_cons.mp z with z | z
                    · exact .inl (by rw [z]; exact List.mem_append_right _ (List.mem_append_left _ List.mem_cons_self))
                    · rcases sub1 a z with z | z
                      · exact .inl (List.mem_append_right _ (List.mem_append_left _ (List.mem_cons_of_mem _ z)))
                      · exact .inr z
                  · exact .inl (List.mem_append_right _ (List.mem_append_right _ z))
              refine h3 B3 σ _ (SRel.put (R0.gr g13) (k1.tr g13.b) (k2.tr g13.h) (fun a ha => (g13.f a (k2.live ha)).trans (k3 a ha)) k4 e1 hp (fun a o m z => ?_) (f := p :: (fs1 ++ (q :: (a1 ++ (g ++ a2)) ++ fs2))) ?_ ?_ ?_)
              · rw [off (fun y => m (by rw [y, ef, ea, eq]; exact List.mem_cons_of_mem _ (List.mem_append_right _ (List.mem_append_left _ List.mem_cons_self))))]; exact z
              · rw [hw]
                refine ⟨p, vs, _, _, rfl, rfl, ?_, ro4, rfl⟩
                rw [off pq]; exact g13.h _ _ hH
              · have n8 : (a1 ++ (g ++ a2)).Nodup := by
                  rw [eb] at n7
                  obtain ⟨m1, m2, m3⟩ := List.nodup_append.mp n7
                  obtain ⟨_, m4, _⟩ := List.nodup_append.mp m2
                  have gg : ∀ a ∈ g, a ∉ gs := fun a ha m => ng a ha (List.mem_append_right _ (List.mem_append_left _ (List.mem_cons_of_mem _ m)))
                  rw [eb] at gg
                  refine List.nodup_append.mpr ⟨m1, List.nodup_append.mpr ⟨nd, m4, fun a ha b hb z => ?_⟩, fun a ha b hb z => ?_⟩
                  · subst z
                    exact gg a ha (List.mem_append_right _ (List.mem_append_right _ hb))
                  · subst z
                    rcases List.mem_append.mp hb with z | z
                    · exact gg a z (List.mem_append_left _ ha)
                    · exact m3 a ha a (List.mem_append_right _ z) rfl
                refine List.nodup_cons.mpr ⟨fun m => (sub2 p m).elim pn pg, List.nodup_append.mpr ⟨n1, List.nodup_append.mpr ⟨List.nodup_cons.mpr ⟨fun m => (sub1 q m).elim qn qg, n8⟩, n5, fun a ha b hb z => ?_⟩, fun a ha b hb z => ?_⟩⟩
                · subst z
                  rcases List.mem_cons.mp ha with z | z
                  · exact n6 a (by rw [z]; exact List.mem_cons_self) a hb rfl
                  · rcases sub1 a z with z | z
                    · exact n6 a (List.mem_cons_of_mem _ z) a hb rfl
                    · exact ng a z (List.mem_append_right _ (List.mem_append_right _ hb))
                · subst z
                  rcases List.mem_append.mp hb with z | z
                  · rcases List.mem_cons.mp z with z | z
                    · exact n3 a ha a (by rw [z]; exact List.mem_append_left _ List.mem_cons_self) rfl
                    · rcases sub1 a z with z | z
                      · exact n3 a ha a (List.mem_append_left _ (List.mem_cons_of_mem _ z)) rfl
                      · exact ng a z (List.mem_append_left _ ha)
                  · exact n3 a ha a (List.mem_append_right _ z) rfl
              · intro a ha
                rcases List.mem_cons.mp ha with z | z
                · exact .inl (by rw [z, ef]; exact List.mem_cons_self)
                · rcases sub2 a z with z | z
                  · exact .inl (by rw [ef, ea, eq]; exact List.mem_cons_of_mem _ z)
                  · refine .inr ⟨fun j m => R0.live j a m (hf a z).1, ((gr2.tr gr3).f a ?_).trans (hf a z).2, k2.back (hf a z).1⟩
                    exact r.mem _ a z
            · exact h3.elim
          · exact h3.elim
        · exact h2.elim
      · exact h2.elim
    · exact h2.elim
  · exact h.elim
theorem RepF.put {B : Hp} {f : Str} {v : V} {d : Fz.D} (h : Rep K B v d) : ∀ {vs : List (Str × V)} {ds : List (Str × Fz.D)}, RepF K B vs ds → RepF K B (putF f v vs) (putD f d ds)
  | _, _, .nil => .cons h .nil
  | _, _, .cons (f := g) r t => by
    unfold putF putD
    by_cases q : f = g
    · rw [if_pos q, if_pos q.symm]; exact .cons h t
    · rw [if_neg q, if_neg (Ne.symm q)]; exact .cons r (RepF.put h t)
theorem Rel.ownI {x : Addr} {B H : Hp} {σ : L2.St} {env : Env} {fp : Nat → List Addr} {i : Nat} {d : Fz.D} (R : Rel K w B H σ env fp) (hw : w.getD i .z = .at x) (e : env[i]? = some (some d)) :
    ∃ dx fvs c fs, d = .ins c fs ∧ σ[i]? = some (some (.ref x)) ∧ H x = some (.ins (He.ga K c) dx fvs) ∧ RepF K B fvs fs ∧ fp i = [x] := by
  obtain ⟨v, h1, h2⟩ := R.sl i d e
  rw [hw] at h2
  obtain ⟨dx, fvs, c, fs, e1, e2, hx, r, ef⟩ := h2
  subst e1 e2
  exact ⟨dx, fvs, c, fs, rfl, h1, hx, r, ef⟩
/-- self.f = e, self one's own instance at x -/
theorem s_fld (i : Nat) {x : Addr} {n f : Str} {npos : Pos} {cs : List Str} (hw : w.getD i .z = .at x := by rfl) (he : PE X e (rdE K w W de .z)) (hc : FldOk K cs f) (hN : X.N[i]? = some n := by rfl) (hv : Vis X.env.scope n := by first | exact Or.inl rfl | exact Or.inr (Or.inl rfl) | exact Or.inr (Or.inr rfl))
    (hd : (n == ("__debug__" : Str)) = false := by decide) (hcd : (n == ("__classdict__" : Str)) = false := by decide) (hs : swapsWith e (some (.Attribute (.Name n npos) f pos')) pos.line X.env = pure false := by rfl) (hK : X.K = K := by rfl) :
    PS X (.Assign [.Attribute (.Name n npos) f pos'] e pos) (rdS K w W (sFld' i cs f de) ⟨w, bk, ct, rt⟩) := by
  subst hK
  refine PS_weak (ps_fld (pe_var hN hv hd hcd) he hs) fun D σ H ⟨B0, H0, B, env, S, h⟩ => ?_
  unfold sFld' at h
  split at h
  · rename_i c fs e1
    refine st_E S h fun d v H1 B1 g ed gr r nd hf h1 => ?_
    obtain ⟨fp, R0, k1, k2, k3, k4⟩ := id S
    obtain ⟨dx, fvs, c', fs', ed', hp, hH, rf, ef⟩ := R0.ownI hw e1
    cases ed'
    obtain ⟨⟨hm, hz⟩, h1⟩ := Out.iff h1
    obtain ⟨q1, q2⟩ := hc c (by simpa using hm)
    refine ⟨.ref x, hp, x, He.ga X.K c, dx, fvs, rfl, gr.h _ _ hH, q1, q2, by rw [rf.length]; exact hz, ?_⟩
    have off : ∀ {a : Addr}, a ≠ x → (upd H1 x (.ins (He.ga X.K c) dx (putF f v fvs))) a = H1 a := fun h => upd_ne h
    refine h1 B1 σ _ (SRel.put (R0.gr gr) (k1.tr gr.b) (k2.tr gr.h) (fun a ha => (gr.f a (k2.live ha)).trans (k3 a ha)) k4 e1 hp (fun a o m q => ?_) (f := [x]) ?_ (by simp) fun a ha => .inl (by rw [ef]; exact ha))
    · rw [off (fun z => m (by rw [z, ef]; exact List.mem_cons_self))]; exact q
    · rw [hw]
      exact ⟨dx, _, c, _, rfl, rfl, upd_same, RepF.put r.1 (rf.mono gr.b), rfl⟩
  · exact h.elim
/-- self.f, self one's own instance -/
def oFldO (i : Nat) (cs : List Str) (f : Str) : Env → Res Fz.D := fun env => (dv i env).bind (oFld cs f)
theorem e_fldO (i : Nat) {x : Addr} {n f : Str} {npos : Pos} {cs : List Str} (hw : w.getD i .z = .at x := by rfl) (hc : FldOk K cs f) (hN : X.N[i]? = some n := by rfl) (hv : Vis X.env.scope n := by first | exact Or.inl rfl | exact Or.inr (Or.inl rfl) | exact Or.inr (Or.inr rfl))
    (hd : (n == ("__debug__" : Str)) = false := by decide) (hcd : (n == ("__classdict__" : Str)) = false := by decide) (hb : attributeBase (.Name n npos) f X.env (eval (.Name n npos) X.env) = eval (.Name n npos) X.env := by rfl) (hK : X.K = K := by rfl) :
    PE X (.Attribute (.Name n npos) f pos) (rdE K w W (oFldO i cs f) .z) := by
  subst hK
  refine PE_weak (pe_fld (pe_var hN hv hd hcd) hb) fun σ H Q ⟨B, env, fp, R, h⟩ => ?_
  have h : AfE X.K W .z B σ H Q ((dv i env).bind (oFld cs f)) := h
  rcases dv_cases i env with ⟨d, e1, e2⟩ | e2
  · rw [e2] at h
    obtain ⟨dx, fvs, c, fs, ed, hp, hH, rf, ef⟩ := R.ownI hw e1
    cases ed
    obtain ⟨hm, h1⟩ := AfE.iff (show AfE X.K W .z B σ H Q (if cs.contains c = true then (match fs.lookup f with | some d => .ok d | none => .bad) else .bad) from h)
    obtain ⟨d, hd, h1⟩ := AfE.opt h1
    obtain ⟨u, hu, ru⟩ := rf.lookup hd
    obtain ⟨k1, k2⟩ := hc c (by simpa using hm)
    exact ⟨.ref x, hp, x, He.ga X.K c, dx, fvs, u, rfl, hH, k1, k2, hu, AfE.val R.s h1 ru⟩
  · rw [e2] at h; exact h.elim

/-! ### try -/
def unE (i : Nat) : Out → Out
  | .nx e => .nx (e.set i none)
  | .bk e => .bk (e.set i none)
  | .ct e => .ct (e.set i none)
  | .ret d => .ret d
  | .exc _ _ _ => .bad
  | .bad => .bad
/-- try: body, except C as e: suite. sub: which class C takes; e's slot: i. An error with fields of its own is not told here -/
def sTry (sub : List (Str × Bool)) (i : Nat) (body suite : Env → Out) : Env → Out := fun env => match body env with
  | .exc c fs e => (match sub.lookup c with
    | some true => if fs = [] ∧ i < e.length then unE i (suite (e.set i (some (.exn c fs)))) else .bad
    | some false => .exc c fs e
    | none => .bad)
  | o => o
theorem lookup_mem {α : Type} {c : Str} {b : α} : ∀ {l : List (Str × α)}, l.lookup c = some b → (c, b) ∈ l
  | [], h => by cases h
  | (d, u) :: r, h => by
    unfold List.lookup at h
    cases q : c == d with
    | true =>
      rw [q] at h
      cases h
      rw [eq_of_beq q]
      exact List.mem_cons_self
    | false =>
      rw [q] at h
      exact List.mem_cons_of_mem _ (lookup_mem h)
theorem SRel.unset {B0 H0 B H : Hp} {σ : L2.St} {env : Env} (S : SRel K w B0 H0 B H σ env) (i : Nat) : SRel K (w.set i .z) B0 H0 B H (σ.set i none) (env.set i none) := by
  obtain ⟨fp, R, h1, h2, h3, h4⟩ := S
  exact ⟨_, R.unset i, h1, h2, h3, fun j a ha => by
    split at ha
    · cases ha
    · exact h4 j a ha⟩
theorem s_try {n m : Str} {np p3 : Pos} {b₀ : Stmt} {suite : List Stmt} {bs : Env → Out} (i : Nat) (z : List Ow) (sub : List (Str × Bool)) (cv : Value)
    (hb : ∀ (W : WX) (pn : List (Addr × Obj)) (xe : Value → Shared → Prop), Takes (X.tr pn xe) W → PassesOwn (model X.prog X.w) X.A X.env xe → PSs (X.tr pn xe) body (rdS K w W b ⟨w1, bk, ct, rt⟩))
    (hsu : ∀ (a C : Addr) (oe : Obj) (pn : List (Addr × Obj)), Zc (.ref C) none oe → (∃ vs, oe.data = .fields vs) → PSs (X.suite a ((a, oe) :: pn)) (b₀ :: suite) (rdS K (z.set i (.ex a C)) WF bs ⟨w1.set i (.ex a C), bk, ct, rt⟩))
    (tk : Takes X W) (hc : Names X n cv) (hsub : ∀ q ∈ sub, PySem.W.exmOne K (.ref (He.ga K q.1)) cv = some q.2) (hz : z = List.replicate z.length .z) (hl : i < z.length) (hl1 : w1.getD i .z = .z) (hbk : bk.getD i .z = .z) (hct : ct.getD i .z = .z)
    (hs : X.stack = X.env :: X.outer := by rfl) (hf : X.env.frame = some X.env.locals := by rfl) (hN : X.N.Nodup := by decide) (hi : X.N[i]? = some m := by rfl) (hln : X.env.kindOf m = some .local := by rfl) (hK : X.K = K := by rfl) :
    PS X (.Try body [.ExceptHandler (some (.Name n np)) (some m) (b₀ :: suite) p3] [] [] pos) (rdS K w W (sTry sub i b bs) ⟨w1, bk, ct, rt⟩) := by
  subst hK
  refine PS_weak (ps_try_as (ts := fun a cls d D σ H => ∃ C, cls = .ref C ∧ d = none ∧ rdS X.K (z.set i (.ex a C)) WF bs ⟨w1.set i (.ex a C), bk, ct, rt⟩ D σ H) (Wout := W) hs hf hN hi hln hc tk hb fun a oe cls d pn hzc hv => ?_) fun D σ H ⟨B0, H0, B, env, S, h⟩ => ?_
  · refine ⟨fun pins s σ H D I ⟨C, e1, e2, h⟩ => ?_⟩
    subst e1 e2
    exact (hsu a C oe pn hzc hv).run pins s σ H D I h
  · refine ⟨B0, H0, B, env, S, ?_⟩
    unfold sTry at h
    have setw : ∀ {w : List Ow}, w.getD i .z = .z → ∀ (k : Ow) (j : Nat), ((w.set i k).set i .z).getD j .z = w.getD j .z := fun {w} hw k j => by
      rw [getD_setz]
      by_cases q : j = i
      · subst q; rw [if_pos rfl, hw]
      · rw [if_neg q, List.getD_eq_getElem?_getD, List.getElem?_set_ne (Ne.symm q), List.getD_eq_getElem?_getD]
    have setz : ∀ {w : List Ow}, w.getD i .z = .z → ∀ (j : Nat), (w.set i .z).getD j .z = w.getD j .z := fun {w} hw j => by
      rw [getD_setz]
      by_cases q : j = i
      · subst q; rw [if_pos rfl, hw]
      · rw [if_neg q]
    have same : ∀ {v v' : List Ow} {B H : Hp} {σ : L2.St} {e : Env}, (∀ j, v'.getD j .z = v.getD j .z) → SRel X.K v B0 H0 B H σ e → SRel X.K v' B0 H0 B H σ e := fun {v v' B H σ e} hv ⟨fp, R, k⟩ => ⟨fp, ⟨R.s, R.len, fun i d e => let ⟨u, h1, h2⟩ := R.sl i d e; ⟨u, h1, by rw [hv]; exact h2⟩, R.nn, R.nd, R.dj, R.bn⟩, k⟩
    cases eb : b env with
    | exc c fs e =>
      rw [eb] at h
      dsimp only at h
      intro B1 σ1 H1 dct S1 xr
      cases es : sub.lookup c with
      | none => rw [es] at h; exact h.elim
      | some t =>
        rw [es] at h
        refine ⟨t, hsub (c, t) (lookup_mem es), fun et a na => ?_, fun et => ?_⟩
        · subst et
          obtain ⟨⟨ef, hle⟩, h⟩ := Out.iff h
          subst ef
          have dn : dct = none := by
            rcases xr with ⟨_, q⟩ | ⟨q, _⟩
            · exact q
            · exact absurd rfl q
          refine ⟨He.ga X.K c, rfl, dn, B0, H0, B1, e.set i (some (.exn c [])), ?_, ?_⟩
          · have S1' : SRel X.K z B0 H0 B1 H1 σ1 e := same (fun j => by
              rw [hz, List.getD_eq_getElem?_getD, List.getElem?_replicate]
              split <;> rfl) S1
            exact S1'.set (k := .ex a (He.ga X.K c)) (Gr.rf (let ⟨_, R, _⟩ := S1; R.s)) (v := .ref a) (f := []) ⟨rfl, ⟨c, [], rfl, rfl⟩, rfl⟩ List.nodup_nil (fun a ha => by cases ha) hle hl
          · cases eo : bs (e.set i (some (.exn c []))) with
            | nx e2 => rw [eo] at h; exact fun B2 σ2 H2 S2 => h B2 _ H2 (same (fun j => (setw hl1 _ j).symm) (S2.unset i))
            | bk e2 =>
              rw [eo] at h
              exact fun B2 σ2 H2 S2 => h B2 _ H2 (same (fun j => (setz hbk j).symm) (S2.unset i))
            | ct e2 =>
              rw [eo] at h
              exact fun B2 σ2 H2 S2 => h B2 _ H2 (same (fun j => (setz hct j).symm) (S2.unset i))
            | ret v => rw [eo] at h; exact h
            | exc _ _ _ => rw [eo] at h; exact h.elim
            | bad => rw [eo] at h; exact h.elim
        · subst et
          exact h B1 σ1 H1 dct S1 xr
    | nx e => rw [eb] at h; exact h
    | bk e => rw [eb] at h; exact h
    | ct e => rw [eb] at h; exact h
    | ret d => rw [eb] at h; exact h
    | bad => rw [eb] at h; exact h
/-- isinstance(e, C) in the suite that holds e -/
def dIsE (i : Nat) (sub : List (Str × Bool)) : Env → Res Fz.D := fun env => match env[i]? with
  | some (some (.exn c _)) => (match sub.lookup c with
    | some b => .ok (.bl b)
    | none => .bad)
  | _ => .bad
theorem e_isE {Y : Cx} (i : Nat) {a C : Addr} {oe : Obj} {pn : List (Addr × Obj)} {x n : Str} {p1 p2 p3 : Pos} {cv : Addr} (sub : List (Str × Bool)) (hw : w.getD i .z = .ex a C := by rfl) (hz : Zc (.ref C) none oe) (hf : ∃ vs, oe.data = .fields vs) (hX : X = Y.suite a ((a, oe) :: pn))
    (hm : X.mg "isinstance" = none) (hc : X.mg n = some (.ref cv)) (hE : ∀ q ∈ sub, ExcC K (He.ga K q.1)) (hsub : ∀ q ∈ sub, PySem.W.kitOne K (.ref (He.ga K q.1)) (.ref cv) = some q.2)
    (hN : X.N[i]? = some x := by rfl) (hv : Vis X.env.scope x := by first | exact Or.inl rfl | exact Or.inr (Or.inl rfl) | exact Or.inr (Or.inr rfl)) (hgc : Gl X n := by rfl) (hgi : Gl X "isinstance" := by rfl) (hd : (x == ("__debug__" : Str)) = false := by decide) (hcd : (x == ("__classdict__" : Str)) = false := by decide) (hdc : (n == ("__debug__" : Str)) = false := by decide)
    (he : starEach (.Name x p1 :: [.Name n p2]) X.env = (false, eval (.Name x p1) X.env) :: starEach [.Name n p2] X.env := by rfl) (he2 : starEach (.Name n p2 :: []) X.env = (false, eval (.Name n p2) X.env) :: starEach [] X.env := by rfl) (hpl : (backTo pos (starEach [.Name n p2] X.env)).any (·.1) = false := by rfl) (hK : X.K = K := by rfl) :
    PE X (.Call (.Name "isinstance" p3) [.Name x p1, .Name n p2] [] pos) (rdE K w W (dIsE i sub) .z) := by
  subst hK
  have key : ∀ D : Addr, C = D → ExcC X.K D → CallR X (.builtin "isinstance") (rIsE X.K D a) := fun D e hD => by
    subst e hX
    exact call_isE hD hz hf
  refine ⟨fun pins s σ H Q I ⟨B, env, fp, R, h⟩ => ?_⟩
  unfold dIsE at h
  split at h
  · rename_i c gs e1
    cases es : sub.lookup c with
    | none => rw [es] at h; exact h.elim
    | some b =>
      rw [es] at h
      obtain ⟨v, h1, h2⟩ := R.sl i _ e1
      rw [hw] at h2
      obtain ⟨ev, ⟨c', fs', e2, eC⟩, _⟩ := h2
      cases e2
      subst ev
      have hm' := lookup_mem es
      exact (pe_callB (key _ eC (hE _ hm')) hgi hm boot_isinstance (pa_cons (pe_var hN hv hd hcd) (pa_cons (pe_glob (v := .ref cv) hgc hc rfl hdc) pa_nil he2) he) (by decide) (by decide) he hpl).run pins s σ H Q I
        ⟨.ref a, h1, .ref cv, .ref cv, b, rfl, fun u hu => hu, hsub _ hm', AfE.val R.s h (.bl b)⟩
  · exact h.elim
end
end Fz
set_option Elab.async false
set_option linter.all false
set_option maxRecDepth 100000
set_option maxHeartbeats 4000000
/-! Functionalization: ==, is None, slices, xs * k. -/
namespace Fz
open PySem PySem.Spec PyProof.Rows L2

section
variable {X : Cx} {K : Fr} {W : WX} {w : List Ow} {k : Ow} {e e1 e2 : Expr} {da db dc' : Env → Res D} {pos p2 : Pos}
def rEqA (K : Fr) : R2 := fun x y H Q => rEq x y H Q ∨ rEqD K x y H Q
def rNeA (K : Fr) : R2 := fun x y H Q => rNe x y H Q ∨ rNeD K x y H Q
theorem op_eqA (hu : X.A.units + 64 < cLine) : OpR X (compareOp .Eq) (rEqA X.K) := OpR.or op_eq (op_eqD hu)
theorem op_neA (hu : X.A.units + 64 < cLine) : OpR X (compareOp .NotEq) (rNeA X.K) := OpR.or op_ne (op_neD hu)
theorem eqD_some {x y : D} {b : Bool} (h : eqD x y = some b) : ∃ p q, x.py = some p ∧ y.py = some q ∧ SeqAt.shaped p = true ∧ SeqAt.shaped q = true ∧ PyData.eqv p q = b := by
  unfold eqD at h
  split at h
  · rename_i p q h1 h2
    split at h
    · rename_i h3
      cases h
      exact ⟨p, q, h1, h2, h3.1, h3.2, rfl⟩
    · cases h
  · cases h
theorem AfE.opB {B H : Hp} {σ : L2.St} {Q : VK} {o : Option Bool} {g : Bool → D} (h : AfE K W k B σ H Q (match o with | some b => .ok (g b) | none => .bad)) : ∃ b, o = some b ∧ AfE K W k B σ H Q (.ok (g b)) := by
  cases o with
  | some d => exact ⟨d, rfl, h⟩
  | none => exact h.elim
theorem cEq_cases (x y : D) : (∃ i j, x = .int i ∧ y = .int j) ∨ (∃ i j, x = .str i ∧ y = .str j) ∨ (∃ i j, x = .bl i ∧ y = .bl j) ∨
    (cEq x y = (match eqD x y with | some b => .ok (.bl b) | none => .bad) ∧ cNe x y = (match eqD x y with | some b => .ok (.bl (!b)) | none => .bad)) := by
  cases x with
  | int i =>
    cases y with
    | int j => exact .inl ⟨i, j, rfl, rfl⟩
    | _ => exact .inr (.inr (.inr ⟨rfl, rfl⟩))
  | str i =>
    cases y with
    | str j => exact .inr (.inl ⟨i, j, rfl, rfl⟩)
    | _ => exact .inr (.inr (.inr ⟨rfl, rfl⟩))
  | bl i =>
    cases y with
    | bl j => exact .inr (.inr (.inl ⟨i, j, rfl, rfl⟩))
    | _ => exact .inr (.inr (.inr ⟨rfl, rfl⟩))
  | _ => exact .inr (.inr (.inr ⟨rfl, rfl⟩))
theorem dec_int {i j : Int} : decide (V.int i = V.int j) = decide (i = j) := by simp
theorem dec_str {i j : Str} : decide (V.str i = V.str j) = decide (i = j) := by simp
theorem dec_bl {i j : Bool} : decide (V.bl i = V.bl j) = decide (i = j) := by simp
theorem od_eq : OpD K (rEqA K) cEq .z := by
  intro W x y a b B H σ Q s rx ry h
  rcases cEq_cases a b with ⟨i, j, e1, e2⟩ | ⟨i, j, e1, e2⟩ | ⟨i, j, e1, e2⟩ | ⟨e, _⟩
  · subst e1 e2
    cases rx; cases ry
    exact .inl ⟨rfl, by rw [dec_int]; exact AfE.val s h (.bl _)⟩
  · subst e1 e2
    cases rx; cases ry
    exact .inl ⟨rfl, by rw [dec_str]; exact AfE.val s h (.bl _)⟩
  · subst e1 e2
    cases rx; cases ry
    exact .inl ⟨rfl, by rw [dec_bl]; exact AfE.val s h (.bl _)⟩
  · rw [e] at h
    obtain ⟨c, hc, h⟩ := AfE.opB (g := fun b => .bl b) h
    obtain ⟨p, q, h1, h2, h3, h4, h5⟩ := eqD_some hc
    exact .inr ⟨p, q, rx.dp s h1, ry.dp s h2, h3, h4, by rw [h5]; exact AfE.val s h (.bl _)⟩
theorem od_ne : OpD K (rNeA K) cNe .z := by
  intro W x y a b B H σ Q s rx ry h
  rcases cEq_cases a b with ⟨i, j, e1, e2⟩ | ⟨i, j, e1, e2⟩ | ⟨i, j, e1, e2⟩ | ⟨_, e⟩
  · subst e1 e2
    cases rx; cases ry
    exact .inl ⟨rfl, by rw [dec_int]; exact AfE.val s h (.bl _)⟩
  · subst e1 e2
    cases rx; cases ry
    exact .inl ⟨rfl, by rw [dec_str]; exact AfE.val s h (.bl _)⟩
  · subst e1 e2
    cases rx; cases ry
    exact .inl ⟨rfl, by rw [dec_bl]; exact AfE.val s h (.bl _)⟩
  · rw [e] at h
    obtain ⟨c, hc, h⟩ := AfE.opB (g := fun b => .bl (!b)) h
    obtain ⟨p, q, h1, h2, h3, h4, h5⟩ := eqD_some hc
    exact .inr ⟨p, q, rx.dp s h1, ry.dp s h2, h3, h4, by rw [h5]; exact AfE.val s h (.bl _)⟩
/-- is None -/
def oIsN (x y : D) : Res D := match y with
  | .non => (match x with
    | .non => .ok (.bl true)
    | _ => .ok (.bl false))
  | _ => .bad
def oIsnN (x y : D) : Res D := match y with
  | .non => (match x with
    | .non => .ok (.bl false)
    | _ => .ok (.bl true))
  | _ => .bad
theorem od_isN : OpD K (fun x y H Q => y = .non ∧ Q (.bl (decide (x = .non))) H) oIsN .z := by
  intro W x y a b B H σ Q s rx ry h
  cases ry with
  | non =>
    refine ⟨rfl, ?_⟩
    cases rx <;> exact AfE.val s h (.bl _)
  | _ => exact h.elim
theorem od_isnN : OpD K (fun x y H Q => y = .non ∧ Q (.bl (!decide (x = .non))) H) oIsnN .z := by
  intro W x y a b B H σ Q s rx ry h
  cases ry with
  | non =>
    refine ⟨rfl, ?_⟩
    cases rx <;> exact AfE.val s h (.bl _)
  | _ => exact h.elim
theorem Reps.flatten {B : Hp} {vs : List V} {ds : List D} (r : Reps K B vs ds) : ∀ n : Nat, Reps K B (List.flatten (List.replicate n vs)) (List.flatten (List.replicate n ds))
  | 0 => .nil
  | n + 1 => by
    rw [List.replicate_succ, List.replicate_succ, List.flatten_cons, List.flatten_cons]
    exact r.append (Reps.flatten r n)
theorem od_repL : OpD K rRep oRepL (.l .z) := by
  intro W x y a b B H σ Q s rx ry h
  cases rx with
  | @lst p xs ds hp rs =>
    cases ry with
    | int n =>
      obtain ⟨hz, h⟩ := AfE.iff (show AfE K W (.l .z) B σ H Q (if -(2 ^ 63) ≤ n ∧ n < 2 ^ 63 ∧ ds.length * n.toNat ≤ 16777216 then _ else _) from h)
      exact ⟨p, n, xs, rfl, rfl, s _ _ hp, hz.1, hz.2.1, by rw [rs.length, sizeLine_eq]; exact hz.2.2, fun t ht => AfE.newL s h ht (rs.flatten _)⟩
    | _ => exact h.elim
  | _ => exact h.elim

/-! ### slices -/
def cutD (xs : List D) (lo hi : Option Int) : List D := (xs.drop (HT.sIx xs.length 0 lo)).take (HT.sIx xs.length xs.length hi - HT.sIx xs.length 0 lo)
def sliD (x : D) (lo hi : Option Int) : Res D := match x with
  | .lst xs => .ok (.lst (cutD xs lo hi))
  | .scr xs => .ok (.lst (cutD xs lo hi))
  | .tup xs => .ok (.tup (cutD xs lo hi))
  | .str z => if z.length ≤ 16777216 then .ok (.str (cutS z lo hi)) else .bad
  | _ => .bad
def rSl (K : Fr) : V → Option Int → Option Int → Hp → VK → Prop := fun x lo hi H Q => rSlL K x lo hi H Q ∨ rSlA K x lo hi H Q ∨ rSlS x lo hi H Q
theorem sl_all : SlR X (rSl X.K) := sl_list.or (sl_tupA.or sl_str)
theorem Reps.cut {B : Hp} {vs : List V} {ds : List D} (r : Reps K B vs ds) (lo hi : Option Int) : Reps K B (cutV vs lo hi) (cutD ds lo hi) := by
  unfold cutV cutD
  rw [r.length]
  exact (r.drop _).take _
theorem cut_all {B : Hp} {vs : List V} {lo hi : Option Int} (h : HT.sIx vs.length 0 lo = 0 ∧ HT.sIx vs.length vs.length hi = vs.length) : cutV vs lo hi = vs := by
  unfold cutV
  rw [h.1, h.2, List.drop_zero, Nat.sub_zero, List.take_length]
theorem sli {B H : Hp} {σ : L2.St} {Q : VK} {x : V} {a : D} {lo hi : Option Int} (s : Ex B H) (r : Rep K B x a) (h : AfE K W .z B σ H Q (sliD a lo hi)) : rSl K x lo hi H Q := by
  cases r with
  | @lst p xs ds hp rs => exact .inl ⟨p, xs, rfl, SqL.of (s _ _ hp), fun q hq => AfE.newB s h hq (.lst upd_same ((rs.cut lo hi).mono (Ex.new (s.back hq))))⟩
  | @scr p xs ds hp rs => exact .inl ⟨p, xs, rfl, s.sl hp, fun q hq => AfE.newB s h hq (.lst upd_same ((rs.cut lo hi).mono (Ex.new (s.back hq))))⟩
  | @tup p xs ds hp rs =>
    refine .inr (.inl ⟨p, xs, rfl, s.st hp, fun hc => ?_, fun _ q hq => AfE.newB s h hq (.tup (SqT.of upd_same) ((rs.cut lo hi).mono (Ex.new (s.back hq))))⟩)
    have q := rs.cut lo hi
    rw [cut_all (B := B) hc] at q
    exact AfE.val s h (.tup hp q)
  | str z =>
    obtain ⟨hz, h⟩ := AfE.iff (show AfE K W .z B σ H Q (if z.length ≤ 16777216 then _ else _) from h)
    exact .inr (.inr ⟨z, rfl, sz hz, AfE.val s h (.str _)⟩)
  | _ => exact h.elim
def dSl (da : Env → Res D) (lo hi : Env → Res (Option Int)) : Env → Res D := fun env => (da env).bind fun x => (lo env).bind fun l => (hi env).bind fun h => sliD x l h
def pNo : Env → Res (Option Int) := fun _ => .ok none
def pAt (de : Env → Res D) : Env → Res (Option Int) := fun env => (de env).bind fun d => match d with
  | .int i => .ok (some i)
  | _ => .bad
/-- a slice's end -/
def AfO (K : Fr) (W : WX) (B : Hp) (σ : L2.St) (H : Hp) (Q : Option Int → Hp → Prop) : Res (Option Int) → Prop
  | .ok o => ∀ H' B', Gr B H B' H' → Q o H'
  | .exc c fs => ∀ H' B' dct, Gr B H B' H' → ExcRep K B' H' dct fs → W (.ref (He.ga K c)) dct σ H'
  | .bad => False
def rdO (K : Fr) (w : List Ow) (W : WX) (dt : Env → Res (Option Int)) : TO := fun σ H Q => ∃ B env fp, Rel K w B H σ env fp ∧ AfO K W B σ H Q (dt env)
theorem PO_weak {e : Option Expr} {t t' : TO} (h : PO X e t) (hw : ∀ σ H Q, t' σ H Q → t σ H Q) : PO X e t' := ⟨fun pins s σ H Q I q => h.run pins s σ H Q I (hw σ H Q q)⟩
theorem o_no : PO X none (rdO K w W pNo) := PO_weak po_none fun σ H Q ⟨B, env, fp, R, h⟩ => h H B (Gr.rf R.s)
theorem o_at (ha : PE X e (rdE K w W da .z)) : PO X (some e) (rdO K w W (pAt da)) := PO_weak (po_some ha) fun σ H Q ⟨B, env, fp, R, h⟩ => by
  refine ⟨B, env, fp, R, ?_⟩
  have h : AfO K W B σ H Q ((da env).bind fun d => match d with | .int i => .ok (some i) | _ => .bad) := h
  cases e : da env with
  | ok d =>
    rw [e] at h
    intro v H1 B1 f g r nd hf
    cases r.1 with
    | int i => exact ⟨i, rfl, h H1 B1 g⟩
    | _ => exact h.elim
  | exc c fs => rw [e] at h; exact h
  | bad => rw [e] at h; exact h
theorem rdO_then {lo : Env → Res (Option Int)} {σ : L2.St} {H B : Hp} {env : Env} {fp : Nat → List Addr} {Q : Option Int → Hp → Prop} {Q2 : VK} {f : Option Int → Res D} (R : Rel K w B H σ env fp) (h : AfE K W k B σ H Q2 ((lo env).bind f))
    (go : ∀ o H1 B1, lo env = .ok o → Gr B H B1 H1 → Rel K w B1 H1 σ env fp → AfE K W k B1 σ H1 Q2 (f o) → Q o H1) : rdO K w W lo σ H Q := by
  refine ⟨B, env, fp, R, ?_⟩
  cases e : lo env with
  | ok d =>
    rw [e] at h
    intro H1 B1 g
    exact go d H1 B1 e g (R.gr g) (AfE.gr g h)
  | exc c fs => rw [e] at h; exact h
  | bad => rw [e] at h; exact h
theorem e_slice {lo hi : Option Expr} {dl dh : Env → Res (Option Int)} (ha : PE X e (rdE K w W da .z)) (hl : PO X lo (rdO K w W dl)) (hh : PO X hi (rdO K w W dh)) (hK : X.K = K := by rfl) : PE X (.Subscript e (.Slice lo hi none p2) pos) (rdE K w W (dSl da dl dh) .z) := by
  subst hK
  exact PE_weak (pe_slice sl_all ha hl hh) fun σ H Q ⟨B, env, fp, R, h⟩ => rdE_then R h fun d v H1 B1 _ g1 R1 r1 h1 => rdO_then R1 h1 fun l H2 B2 _ g2 R2 h2 => rdO_then R2 h2 fun u H3 B3 _ g3 R3 h3 => sli R3.s (r1.mono (g2.tr g3).b) h3
end
end Fz
set_option Elab.async false
set_option linter.all false
set_option maxRecDepth 100000
set_option maxHeartbeats 4000000
/-! Lists of one's own are read for a value that holds no list. -/
namespace Fz
open PySem PySem.Spec PyProof.Rows L2

mutual
/-- no list, no exception in it -/
def D.sol : D → Bool
  | .non => true
  | .bl _ => true
  | .int _ => true
  | .str _ => true
  | .tup ds => D.sols ds
  | .ins _ fs => D.solF fs
  | _ => false
def D.sols : List D → Bool
  | [] => true
  | d :: r => D.sol d && D.sols r
def D.solF : List (Str × D) → Bool
  | [] => true
  | (_, d) :: r => D.sol d && D.solF r
end
/-- lists (of lists) alone -/
def Ow.lists : Ow → Bool
  | .z => true
  | .l k => k.lists
  | _ => false
def fzL : List Ow → List Ow → Bool
  | [], [] => true
  | a :: r, b :: s => (decide (b = a) || (decide (b = .z) && a.lists)) && fzL r s
  | _, _ => false
theorem fzL_ok : ∀ {w w' : List Ow}, fzL w w' = true → ∀ j, w'.getD j .z = w.getD j .z ∨ w'.getD j .z = .z
  | [], [], _, j => .inl rfl
  | a :: r, b :: s, h, j => by
    unfold fzL at h
    simp only [Bool.and_eq_true, Bool.or_eq_true, decide_eq_true_eq] at h
    cases j with
    | zero => exact h.1.imp id fun z => z.1
    | succ j => exact fzL_ok h.2 j
  | [], _ :: _, h, _ => by cases h
  | _ :: _, [], h, _ => by cases h
theorem fzL_lists : ∀ {w w' : List Ow}, fzL w w' = true → ∀ j, w'.getD j .z ≠ w.getD j .z → (w.getD j .z).lists = true
  | [], [], _, j, n => absurd rfl n
  | a :: r, b :: s, h, j, n => by
    unfold fzL at h
    simp only [Bool.and_eq_true, Bool.or_eq_true, decide_eq_true_eq] at h
    cases j with
    | zero => exact (h.1.resolve_left n).2
    | succ j => exact fzL_lists h.2 j n
  | [], _ :: _, h, _, _ => by cases h
  | _ :: _, [], h, _, _ => by cases h
section
variable {K : Fr}
theorem RepO.lists {B H : Hp} : ∀ (k : Ow) {v : V} {d : D} {f : List Addr}, k.lists = true → RepO K B H k v d f → ∀ a ∈ f, ∃ vs, H a = some (.lst vs)
  | .z, _, _, _, _, ⟨_, e⟩, a, ha => by subst e; cases ha
  | .l k, _, _, _, hk, ⟨p, vs, ds, fs, _, _, hp, r, ef⟩, a, ha => by
    subst ef
    rcases List.mem_cons.mp ha with q | q
    · exact ⟨vs, by rw [q]; exact hp⟩
    · have go : ∀ {vs : List V} {ds : List D} {fs : List Addr}, ROs (RepO K B H k) vs ds fs → a ∈ fs → ∃ vs, H a = some (.lst vs) := by
        intro vs ds fs r
        induction r with
        | nil => intro q; cases q
        | cons r t ih =>
          intro q
          rcases List.mem_append.mp q with q | q
          · exact RepO.lists k hk r a q
          · exact ih q
      exact go r q
  | .i, _, _, _, hk, _, _, _ => by cases hk
  | .at _, _, _, _, hk, _, _, _ => by cases hk
  | .ex _ _, _, _, _, hk, _, _, _ => by cases hk
/-- the base without what stands at fs -/
def cutB (B : Hp) (fs : List Addr) : Hp := fun a => if a ∈ fs then none else B a
mutual
theorem Rep.csol {B : Hp} {fs : List Addr} (hf : ∀ a ∈ fs, ∃ vs, B a = some (.lst vs)) : ∀ {v : V} {d : D}, d.sol = true → Rep K B v d → Rep K (cutB B fs) v d
  | _, _, _, .non => .non
  | _, _, _, .bl b => .bl b
  | _, _, _, .int i => .int i
  | _, _, _, .str x => .str x
  | _, _, h, .lst _ _ => by cases h
  | _, _, h, .scr _ _ => by cases h
  | _, _, h, .exn => by cases h
  | _, _, h, .tup (a := a) q r => by
    refine .tup ?_ (Reps.csol hf (by unfold D.sol at h; exact h) r)
    refine q.imp (fun q => ?_) id
    have ha : a ∉ fs := fun m => by
      obtain ⟨vs, e⟩ := hf a m
      rcases q with q | ⟨o, q⟩ <;> rw [e] at q <;> cases q
    rcases q with q | ⟨o, q⟩
    · exact .inl (by unfold cutB; rw [if_neg ha]; exact q)
    · exact .inr ⟨o, by unfold cutB; rw [if_neg ha]; exact q⟩
  | _, _, h, .ins (a := a) q r => by
    have ha : a ∉ fs := fun m => by
      obtain ⟨vs, e⟩ := hf a m
      rw [e] at q; cases q
    exact .ins (by unfold cutB; rw [if_neg ha]; exact q) (RepF.csol hf (by unfold D.sol at h; exact h) r)
theorem Reps.csol {B : Hp} {fs : List Addr} (hf : ∀ a ∈ fs, ∃ vs, B a = some (.lst vs)) : ∀ {vs : List V} {ds : List D}, D.sols ds = true → Reps K B vs ds → Reps K (cutB B fs) vs ds
  | _, _, _, .nil => .nil
  | _, _, h, .cons r t => by
    unfold D.sols at h
    simp only [Bool.and_eq_true] at h
    exact .cons (Rep.csol hf h.1 r) (Reps.csol hf h.2 t)
theorem RepF.csol {B : Hp} {fs : List Addr} (hf : ∀ a ∈ fs, ∃ vs, B a = some (.lst vs)) : ∀ {vs : List (Str × V)} {ds : List (Str × D)}, D.solF ds = true → RepF K B vs ds → RepF K (cutB B fs) vs ds
  | _, _, _, .nil => .nil
  | _, _, h, .cons r t => by
    unfold D.solF at h
    simp only [Bool.and_eq_true] at h
    exact .cons (Rep.csol hf h.1 r) (RepF.csol hf h.2 t)
end
theorem Gr.cut {B H B' H' : Hp} {fs : List Addr} (s : Ex B H) (hb : ∀ a ∈ fs, B a = none) (g : Gr (addB B H fs) H B' H') : Gr B H (cutB B' fs) H' where
  b := fun a o e => by
    have ha : a ∉ fs := fun m => by rw [hb a m] at e; cases e
    unfold cutB
    rw [if_neg ha]
    exact g.b a o (by rw [addB_out ha]; exact e)
  h := g.h
  s := fun a o e => by
    unfold cutB at e
    split at e
    · cases e
    · exact g.s a o e
  f := fun a ha => by
    unfold cutB
    by_cases m : a ∈ fs
    · rw [if_pos m, hb a m]
    · rw [if_neg m, g.f a ha, addB_out m]
/-- the same expression, its value without lists -/
def dsol (a : Env → Res D) : Env → Res D := fun env => match a env with
  | .ok d => if d.sol = true then .ok d else .bad
  | .exc c [] => .exc c []
  | _ => .bad
end
section
variable {X : Cx} {K : Fr} {W : WX} {w w' : List Ow} {e : Expr} {da : Env → Res D}
theorem e_sol (h : PE X e (rdE K w' W da .z)) (hw : fzL w w' = true := by rfl) : PE X e (rdE K w W (dsol da) .z) := PE_weak h fun σ H Q ⟨B, env, fp, R, h⟩ => by
  obtain ⟨fs, fp', R', k1, _⟩ := R.freeze (fzL_ok hw)
  have hb : ∀ a ∈ fs, B a = none := fun a ha => let ⟨i, _, hi⟩ := k1 a ha; R.bn i a hi
  have hl : ∀ a ∈ fs, ∃ vs, H a = some (.lst vs) := fun a ha => by
    obtain ⟨i, hi, hm⟩ := k1 a ha
    by_cases q : ∃ d, env[i]? = some (some d)
    · obtain ⟨d, eq⟩ := q
      obtain ⟨v, _, r⟩ := R.sl i d eq
      exact r.lists _ (fzL_lists hw i hi) a hm
    · rw [R.nn i fun d e => q ⟨d, e⟩] at hm; cases hm
  refine ⟨_, env, fp', R', ?_⟩
  unfold dsol at h
  cases e : da env with
  | ok d =>
    rw [e] at h
    intro v H' B' f g r nd hf
    dsimp only at h
    split at h
    · rename_i hd
      refine h v H' (cutB B' fs) [] (Gr.cut R.s hb g) ⟨r.1.csol (fun a ha => ?_) hd, rfl⟩ List.nodup_nil fun a ha => by cases ha
      obtain ⟨vs, hv⟩ := hl a ha
      exact ⟨vs, g.b a _ (by rw [addB_in ha]; exact hv)⟩
    · exact h.elim
  | exc c gs =>
    rw [e] at h
    cases gs with
    | nil =>
      intro H' B' dct g r
      refine h H' B dct (Gr.unb R.s g) ?_
      rcases r with r | ⟨r, _⟩
      · exact .inl r
      · exact absurd rfl r
    | cons _ _ => exact h.elim
  | bad => rw [e] at h; exact h.elim
end
end Fz
set_option Elab.async false
set_option linter.all false
set_option maxRecDepth 100000
set_option maxHeartbeats 4000000
/-! isinstance against own classes. -/
namespace Fz
open PySem PySem.Spec PyProof.Rows L2

/-- what isinstance asks of an instance's class -/
structure InsK (K : Fr) (c : Str) : Prop where
  cl : Cls K (He.ga K c)
  ha : PySem.W.findIn K (.ref (He.ga K c)) "__class__" = some (some (.builtin "object.__class__"))
  hn : PySem.W.specialIn K (.builtin "object.__class__") "__get__" = some (some (.builtin "getset_descriptor.__get__"))
  tk : PySem.W.takesIn K (.builtin "object.__class__") = some true
  hm : PySem.W.mroIn K (He.ga K c) (.type "object") = some true
def someB : Option Bool → Res D
  | some b => .ok (.bl b)
  | none => .bad
/-- isinstance(x, C), x an instance of a class that sub tells of -/
def isO (sub : List (Str × Bool)) : D → Res D
  | .ins c _ => someB (sub.lookup c)
  | _ => .bad
section
variable {X : Cx} {K : Fr} {W : WX} {w w' : List Ow} {a : Expr} {d : Env → Res D} {p p2 pos : Pos}
theorem e_isO (sub : List (Str × Bool)) {n : Str} {cv : Addr} (hc : X.mg n = some (.ref cv)) (hmi : X.mg "isinstance" = none) (ha : PE X a (rdE K w W d .z)) (hI : ∀ q ∈ sub, InsK K q.1) (hsub : ∀ q ∈ sub, PySem.W.kitOne K (.ref (He.ga K q.1)) (.ref cv) = some q.2)
    (hg : Gl X n := by rfl) (hgi : Gl X "isinstance" := by rfl) (hdb : (n == ("__debug__" : Str)) = false := by decide)
    (he : starEach (a :: [.Name n p2]) X.env = (false, eval a X.env) :: starEach [.Name n p2] X.env := by rfl) (he2 : starEach (.Name n p2 :: []) X.env = (false, eval (.Name n p2) X.env) :: starEach [] X.env := by rfl) (hpl : (backTo pos (starEach [.Name n p2] X.env)).any (·.1) = false := by rfl) (hK : X.K = K := by rfl) :
    PE X (.Call (.Name "isinstance" p) [a, .Name n p2] [] pos) (rdE K w W (d1 (isO sub) d) .z) := by
  subst hK
  refine PE_weak (pe_callB call_isi hgi hmi boot_isinstance (pa_cons ha (pa_cons (pe_glob (v := .ref cv) hg hc rfl hdb) pa_nil he2) he) (by decide) (by decide) he hpl) fun σ H Q ⟨B, env, fp, R, h⟩ => rdE_then R h fun d v H1 B1 _ g1 R1 r1 h1 => ?_
  cases r1 with
  | @ins _ _ c fvs fs hx rf =>
    have h1 : AfE X.K W .z B1 σ H1 Q (someB (sub.lookup c)) := h1
    cases es : sub.lookup c with
    | none => rw [es] at h1; exact h1.elim
    | some b =>
      rw [es] at h1
      have hm' := lookup_mem es
      have k := hI _ hm'
      exact ⟨_, .ref cv, _, _, b, rfl, .own cv, .base (.ins (R1.s _ _ hx) k.cl k.ha k.hn k.tk k.hm), hsub _ hm', AfE.val R1.s h1 (.bl b)⟩
  | _ => exact h1.elim
end
end Fz
set_option Elab.async false
set_option linter.all false
set_option maxRecDepth 100000
set_option maxHeartbeats 4000000
/-! Functionalization: zip of three; lcm; sorted pairs. -/
namespace Fz
open PySem PySem.Spec PyProof.Rows L2

/-! ### zip of three -/
def ItZ3 (K : Fr) (a : Addr) (b : Bool) (a2 : Addr) (b2 : Bool) (a3 : Addr) (b3 : Bool) : It :=
  ⟨fun i H => ∃ xs ys zs x y u, SqA K H a b xs ∧ SqA K H a2 b2 ys ∧ SqA K H a3 b3 zs ∧ xs[i]? = some x ∧ ys[i]? = some y ∧ zs[i]? = some u,
   fun i H v H' => ∃ T x y u, v = .ref T ∧ H T = none ∧ H' = upd H T (.tup [x, y, u]) ∧ (∀ xs, SqA K H a b xs → xs[i]? = some x) ∧ (∀ ys, SqA K H a2 b2 ys → ys[i]? = some y) ∧ ∀ zs, SqA K H a3 b3 zs → zs[i]? = some u,
   fun i H => ∃ xs ys zs, SqA K H a b xs ∧ SqA K H a2 b2 ys ∧ SqA K H a3 b3 zs ∧ min (min xs.length ys.length) zs.length = i⟩
theorem getV {its : List Value} {i : Nat} {x' u : Value} (q : its.toArray[i]? = some x') (hu : its[i]? = some u) : x' = u := by
  have q2 : its[i]? = some x' := by simpa using q
  rw [hu] at q2; exact (Option.some.inj q2).symm
theorem turnZ3 {P : Program} {w : World} {K : Fr} {elts : List Expr} {kk : Nat} {tpos : Pos} (a : Addr) (b : Bool) (a2 : Addr) (b2 : Bool) (a3 : Addr) (b3 : Bool) {z TI TO i1 i2 i3 : Addr} (S : ZipSep3 z TI TO i1 i2 i3 [i1, a] [i2, a2] [i3, a3]) (na : a ≠ i1) (na2 : a2 ≠ i2) (na3 : a3 ≠ i3) :
    Turn P w K (.Tuple elts kk tpos) (ItZ3 K a b a2 b2 a3 b3) [z, TI, TO, i1, i2, i3] z (fun i h => IsZip h z TI TO .none ∧ IsTupOf3 h TI (.ref i1) (.ref i2) (.ref i3) ∧ (∃ x y u, IsTupOf3 h TO x y u) ∧ IsIt h i1 a b i ∧ IsIt h i2 a2 b2 i ∧ IsIt h i3 a3 b3 i) where
  mem := by simp
  obj := fun i h st c hc => by
    obtain ⟨hz, hTI, ⟨x, y, u, hTO⟩, h1, h2, h3⟩ := st
    have q : c = z ∨ c = TI ∨ c = TO ∨ c = i1 ∨ c = i2 ∨ c = i3 := by simpa using hc
    rcases q with rfl | rfl | rfl | rfl | rfl | rfl
    · exact ⟨_, hz, fun v z => nomatch z⟩
    · exact ⟨_, hTI, fun v z => nomatch z⟩
    · exact ⟨_, hTO, fun v z => nomatch z⟩
    · exact h1.obj
    · exact h2.obj
    · exact h3.obj
  keep := fun i h h' st k => by
    obtain ⟨hz, hTI, ⟨x, y, u, hTO⟩, h1, h2, h3⟩ := st
    exact ⟨k z (by simp) _ hz, k TI (by simp) _ hTI, ⟨x, y, u, k TO (by simp) _ hTO⟩, h1.at' fun o q => k i1 (by simp) o q, h2.at' fun o q => k i2 (by simp) o q, h3.at' fun o q => k i3 (by simp) o q⟩
  item := by
    intro X hP hw hK hc i pins s σ H E I hf st hg
    subst hP hw hK
    obtain ⟨hz, hTI, hTO, h1, h2, h3⟩ := st
    obtain ⟨xs, ys, zs, x, y, u, hq, hq2, hq3, hx, hy, hu⟩ := hg
    obtain ⟨its, rv, p, _⟩ := Inv_sq I hq
    obtain ⟨its2, rv2, p2, _⟩ := Inv_sq I hq2
    obtain ⟨its3, rv3, p3, _⟩ := Inv_sq I hq3
    obtain ⟨u1, hu1, ru1⟩ := rv.get hx
    obtain ⟨u2, hu2, ru2⟩ := rv2.get hy
    obtain ⟨u3, hu3, ru3⟩ := rv3.get hu
    have G := GoesN.zip3 (prog := X.prog) (w := X.w) (A := X.A) (elts := elts) (x1 := kk) (pos := tpos) S (draws_sq (prog := X.prog) (w := X.w) (A := X.A.in1) (I.ok.hd hc) i1 a b na its.toArray) (draws_sq (prog := X.prog) (w := X.w) (A := X.A.in1) (I.ok.hd hc) i2 a2 b2 na2 its2.toArray)
      (draws_sq (prog := X.prog) (w := X.w) (A := X.A.in1) (I.ok.hd hc) i3 a3 b3 na3 its3.toArray)
    have hlt : i < min (min its.toArray.size its2.toArray.size) its3.toArray.size := by
      have q1 := (List.getElem?_eq_some_iff.mp hu1).1
      have q2 := (List.getElem?_eq_some_iff.mp hu2).1
      have q3 := (List.getElem?_eq_some_iff.mp hu3).1
      simp only [List.size_toArray]
      omega
    refine G.goes i s _ _ hlt ⟨hz, hTI, hTO, ⟨h1, p⟩, ⟨h2, p2⟩, h3, p3⟩ fun v h' tk hY st' hk _ => ?_
    obtain ⟨T, x', y', u', ev, hT, hx', hy', hu', hT'⟩ := hY
    obtain ⟨hz', hTI', hTO', ⟨h1', _⟩, ⟨h2', _⟩, h3', _⟩ := st'
    obtain rfl := getV hx' hu1
    obtain rfl := getV hy' hu2
    obtain rfl := getV hu' hu3
    have hn : H T = none := I.hok.fresh hT
    have new : ObjOk X.prog X.w (upd H T (.tup [x, y, u])) h' T (.tup [x, y, u]) := ⟨by show 3 ≤ sizeLine; decide, [x', y', u'], .cons ru1 (.cons ru2 (.cons ru3 .nil)), hT'⟩
    have I1 : Inv X pins σ (upd H T (.tup [x, y, u])) { s with heap := h', toks := tk } := I.turnedNew (ch := [z, TI, TO, i1, i2, i3]) (fun c o hb q => hk c o (fun m => hb (by
      have m' : c = z ∨ c = TO ∨ c = i1 ∨ c = i2 ∨ c = i3 := by simpa using m
      rcases m' with m | m | m | m | m <;> simp [m])) q) hf hT new
    refine ⟨.ref T, _, I1, ev, ⟨T, x, y, u, rfl, hn, rfl, fun l hl => by rw [Inv_sqInj I hl hq]; exact hx, fun l hl => by rw [Inv_sqInj I hl hq2]; exact hy, fun l hl => by rw [Inv_sqInj I hl hq3]; exact hu⟩, ⟨hz', hTI', hTO', h1', h2', h3'⟩, fun c hcm => ?_⟩
    have hlt' : c < s.heap.objs.size := by
      obtain ⟨x0, y0, u0, hTO⟩ := hTO
      have q : c = z ∨ c = TI ∨ c = TO ∨ c = i1 ∨ c = i2 ∨ c = i3 := by simpa using hcm
      rcases q with rfl | rfl | rfl | rfl | rfl | rfl
      · exact Heap.lt_size hz
      · exact Heap.lt_size hTI
      · exact Heap.lt_size hTO
      · obtain ⟨_, e, _⟩ := h1.obj; exact Heap.lt_size e
      · obtain ⟨_, e, _⟩ := h2.obj; exact Heap.lt_size e
      · obtain ⟨_, e, _⟩ := h3.obj; exact Heap.lt_size e
    rw [upd_ne (Nat.ne_of_lt (Nat.lt_of_lt_of_le hlt' hT))]
    exact (hf c hcm).1
  done := by
    intro X hP hw hK hc i pins s σ H E I hf st hg
    subst hP hw hK
    obtain ⟨hz, hTI, hTO, h1, h2, h3⟩ := st
    obtain ⟨xs, ys, zs, hq, hq2, hq3, hx⟩ := hg
    obtain ⟨its, rv, p, _⟩ := Inv_sq I hq
    obtain ⟨its2, rv2, p2, _⟩ := Inv_sq I hq2
    obtain ⟨its3, rv3, p3, _⟩ := Inv_sq I hq3
    have hl := rv.length
    have hl2 := rv2.length
    have hl3 := rv3.length
    have G := GoesN.zip3 (prog := X.prog) (w := X.w) (A := X.A) (elts := elts) (x1 := kk) (pos := tpos) S (draws_sq (prog := X.prog) (w := X.w) (A := X.A.in1) (I.ok.hd hc) i1 a b na its.toArray) (draws_sq (prog := X.prog) (w := X.w) (A := X.A.in1) (I.ok.hd hc) i2 a2 b2 na2 its2.toArray)
      (draws_sq (prog := X.prog) (w := X.w) (A := X.A.in1) (I.ok.hd hc) i3 a3 b3 na3 its3.toArray)
    have hlt : i = min (min its.toArray.size its2.toArray.size) its3.toArray.size := by simp only [List.size_toArray]; omega
    subst hlt
    exact wpAny_mono (G.stops s _ E ⟨hz, hTI, hTO, ⟨h1, p⟩, ⟨h2, p2⟩, h3, p3⟩ fun h' tk hk _ => I.turnedL (ch := [z, TI, TO, i1, i2, i3]) (fun c o hb q => hk c o (fun m => hb (by
      have m' : c = z ∨ c = TO ∨ c = i1 ∨ c = i2 ∨ c = i3 := by simpa using m
      rcases m' with m | m | m | m | m <;> simp [m])) q) hf) (fun r s1 h => h) fun _ _ z => z
  self := fun A i s Q E st h => wpAny_pyIter_zip st.1 h
section
variable {X : Cx}
def iZip3 (K : Fr) (ta : TA) : TI := fun σ H R => ta σ H fun vs H1 => ∃ a b a2 b2 a3 b3 xs ys zs, vs = [.ref a, .ref a2, .ref a3] ∧ SqA K H1 a b xs ∧ SqA K H1 a2 b2 ys ∧ SqA K H1 a3 b3 zs ∧ R (ItZ3 K a b a2 b2 a3 b3) H1
theorem pi_zip3 {e e2 e3 : Expr} {ta : TA} {p pos tpos : Pos} {elts : List Expr} {kk : Nat} (hg : Gl X "zip") (hm : X.mg "zip" = none) (ha : PA X [e, e2, e3] ta)
    (hs : starEach [e, e2, e3] X.env = (false, eval e X.env) :: starEach [e2, e3] X.env := by rfl) (hpl : (backTo pos (starEach [e2, e3] X.env)).any (·.1) = false := by rfl) :
    PI X (.Tuple elts kk tpos) (.Call (.Name "zip" p) [e, e2, e3] [] pos) (iZip3 X.K ta) := ⟨fun pins s σ H R I h =>
  Call_ (ld_blt I hg hm PyProof.Rows.boot_zip (PyProof.Rows.callWith_type1 (thn (ha.run pos pins s σ H _ I h) fun us s1 ⟨vs, H1, I1, r1, q1⟩ => by
    obtain ⟨a, b, a2, b2, a3, b3, xs, ys, zs, ex, hq, hq2, hq3, q⟩ := q1
    subst ex
    cases r1 with
    | cons r rr =>
      cases rr with
      | cons r2 rr =>
        obtain ⟨u3, rfl, ru3⟩ := vals1 rr
        cases r
        cases r2
        obtain rfl : u3 = Value.ref a3 := ru3
        obtain ⟨its, rv, p1, _⟩ := Inv_sq I1 hq
        obtain ⟨its2, rv2, p2, _⟩ := Inv_sq I1 hq2
        obtain ⟨its3, rv3, p3, _⟩ := Inv_sq I1 hq3
        refine zip_begins3 (begins_sq a b its.toArray) (begins_sq a2 b2 its2.toArray) (begins_sq a3 b3 its3.toArray) p1 p2 p3 fun h' hz hTI hTO h1 h2 h3 hsz hk => wpAny_pyIter_zip hz ?_
        have l1 := p1.lt
        have l2 := p2.lt
        have l3 := p3.lt
        have one : ∀ {x : Addr}, x < s1.heap.objs.size → ∀ c ∈ [x], c < s1.heap.objs.size := fun {x} hx c hc => by
          have z : c = x := by simpa using hc
          rw [z]; exact hx
        refine ⟨s1.heap.objs.size + 5, [s1.heap.objs.size + 5, s1.heap.objs.size + 3, s1.heap.objs.size + 4, s1.heap.objs.size, s1.heap.objs.size + 1, s1.heap.objs.size + 2], _, _, H1, rfl, I1.kept (t' := s1.toks) hk,
          turnZ3 a b a2 b2 a3 b3 (zip_sep3 (N := s1.heap.objs.size) (fp1 := [a]) (fp2 := [a2]) (fp3 := [a3]) (one l1) (one l2) (one l3)) (Nat.ne_of_lt l1) (Nat.ne_of_lt (Nat.lt_succ_of_lt l2)) (Nat.ne_of_lt (Nat.lt_succ_of_lt (Nat.lt_succ_of_lt l3))),
          ⟨hz, hTI, ⟨_, _, _, hTO⟩, IsIt.new h1, IsIt.new h2, IsIt.new h3⟩, fun c hc => ?_, q⟩
        have hle : s1.heap.objs.size ≤ c := by
          have e' : c = s1.heap.objs.size + 5 ∨ c = s1.heap.objs.size + 3 ∨ c = s1.heap.objs.size + 4 ∨ c = s1.heap.objs.size ∨ c = s1.heap.objs.size + 1 ∨ c = s1.heap.objs.size + 2 := by simpa using hc
          rcases e' with z | z | z | z | z | z <;> rw [z] <;> first | exact Nat.le_add_right _ _ | exact Nat.le_refl _
        exact I1.fpOk hle (I1.hok.fresh hle)) hs hpl))⟩
end
def zipD3 : List D → List D → List D → List D
  | d :: r, e :: s, f :: t => .tup [d, e, f] :: zipD3 r s t
  | _, _, _ => []
theorem zipD3_length : ∀ (ds es fs : List D), (zipD3 ds es fs).length = min (min ds.length es.length) fs.length
  | [], es, fs => by simp [zipD3]
  | _ :: _, [], fs => by simp [zipD3]
  | _ :: _, _ :: _, [] => by simp [zipD3]
  | d :: r, e :: s, f :: t => by simp only [zipD3, List.length_cons, zipD3_length r s t]; omega
theorem zipD3_get : ∀ {ds es fs : List D} {i : Nat} {d : D}, (zipD3 ds es fs)[i]? = some d → ∃ x y u, ds[i]? = some x ∧ es[i]? = some y ∧ fs[i]? = some u ∧ d = .tup [x, y, u]
  | [], es, fs, i, d, h => by simp [zipD3] at h
  | _ :: _, [], fs, i, d, h => by simp [zipD3] at h
  | _ :: _, _ :: _, [], i, d, h => by simp [zipD3] at h
  | a :: r, e :: s, f :: t, 0, d, h => by
    simp [zipD3] at h
    exact ⟨a, e, f, rfl, rfl, rfl, h.symm⟩
  | a :: r, e :: s, f :: t, i + 1, d, h => by
    simp only [zipD3, List.getElem?_cons_succ] at h
    simpa using zipD3_get h
section
variable {K : Fr} {B : Hp}
theorem Yl.zip3 {a a2 a3 : Addr} {b b2 b3 : Bool} {vs us ws : List V} {ds es fs : List D} (h : SqA K B a b vs) (r : Reps K B vs ds) (h2 : SqA K B a2 b2 us) (r2 : Reps K B us es) (h3 : SqA K B a3 b3 ws) (r3 : Reps K B ws fs) : Yl K B (ItZ3 K a b a2 b2 a3 b3) (zipD3 ds es fs) where
  go := fun i H e hi => by
    rw [zipD3_length] at hi
    have i1 : i < ds.length := by omega
    have i2 : i < es.length := by omega
    have i3 : i < fs.length := by omega
    obtain ⟨v, hv, _⟩ := r.get (i := i) (d := ds[i]) (List.getElem?_eq_getElem i1)
    obtain ⟨u, hu, _⟩ := r2.get (i := i) (d := es[i]) (List.getElem?_eq_getElem i2)
    obtain ⟨t, ht, _⟩ := r3.get (i := i) (d := fs[i]) (List.getElem?_eq_getElem i3)
    exact ⟨vs, us, ws, v, u, t, h.mono e, h2.mono e, h3.mono e, hv, hu, ht⟩
  yld := fun i d H v H' B' e1 e2 hd ⟨T, x, y, t, ev, hT, eh, hv, hu, ht⟩ => by
    subst ev eh
    obtain ⟨d1, d2, d3, g1, g2, g3, ed⟩ := zipD3_get hd
    subst ed
    obtain ⟨u1, hu1, ru1⟩ := r.get g1
    obtain ⟨u2, hu2, ru2⟩ := r2.get g2
    obtain ⟨u3, hu3, ru3⟩ := r3.get g3
    have q := hv vs (h.mono (e1.tr e2))
    rw [hu1] at q; cases q
    have q := hu us (h2.mono (e1.tr e2))
    rw [hu2] at q; cases q
    have q := ht ws (h3.mono (e1.tr e2))
    rw [hu3] at q; cases q
    have ex : Ex B (upd B' T (.tup [x, y, t])) := e1.tr (Ex.new (e2.back hT))
    exact ⟨_, Gr.new e2 hT, .tup (SqT.of upd_same) (.cons (ru1.mono ex) (.cons (ru2.mono ex) (.cons (ru3.mono ex) .nil)))⟩
  stop := fun H e => ⟨vs, us, ws, h.mono e, h2.mono e, h3.mono e, by rw [zipD3_length, r.length, r2.length, r3.length]⟩
end
def zp3D : List D → Res (List D)
  | [d, e, f] => match seq? d, seq? e, seq? f with | some ds, some es, some fs => .ok (zipD3 ds es fs) | _, _, _ => .bad
  | _ => .bad
section
variable {X : Cx} {K : Fr} {W : WX} {w : List Ow} {e e1 e2 : Expr} {aa : Env → Res (List D)} {p pos tpos : Pos} {elts : List Expr} {kk : Nat}
theorem i_zip3 (hm : X.mg "zip" = none) (ha : PA X [e, e1, e2] (rdA K w W aa)) (hg : Gl X "zip" := by rfl) (hs : starEach [e, e1, e2] X.env = (false, eval e X.env) :: starEach [e1, e2] X.env := by rfl) (hpl : (backTo pos (starEach [e1, e2] X.env)).any (·.1) = false := by rfl) (hK : X.K = K := by rfl) :
    PI X (.Tuple elts kk tpos) (.Call (.Name "zip" p) [e, e1, e2] [] pos) (rdI K w W (iArg zp3D aa)) := by
  subst hK
  refine PI_weak (pi_zip3 hg hm ha hs hpl) fun σ H R ⟨B, env, fp, Rl, h⟩ => rdA_thenY Rl h fun ds vs H1 B1 ed g1 R1 r1 h1 => ?_
  have h1 : AfY X.K W B1 σ H1 R (zp3D ds) := h1
  unfold zp3D at h1
  split at h1
  · rename_i d d2 d3
    split at h1
    · rename_i xs ys zs hx hy hz
      cases r1 with
      | cons r1 r2 =>
        cases r2 with
        | cons r2 r3 =>
          cases r3 with
          | cons r3 r4 =>
            cases r4
            obtain ⟨p, vs, rfl, hp, rs⟩ := r1.seq (Ex.rfl' _) hx
            obtain ⟨b, hb⟩ := SqA_of hp
            obtain ⟨p2, vs2, rfl, hp2, rs2⟩ := r2.seq (Ex.rfl' _) hy
            obtain ⟨b2, hb2⟩ := SqA_of hp2
            obtain ⟨p3, vs3, rfl, hp3, rs3⟩ := r3.seq (Ex.rfl' _) hz
            obtain ⟨b3, hb3⟩ := SqA_of hp3
            exact ⟨p, b, p2, b2, p3, b3, vs, vs2, vs3, rfl, hb.mono R1.s, hb2.mono R1.s, hb3.mono R1.s, AfY.val R1.s h1 (Yl.zip3 hb rs hb2 rs2 hb3 rs3)⟩
    · exact h1.elim
  · exact h1.elim
end

/-! ### lcm -/
def lcmOk (i : Int) : Bool := decide (i.natAbs.log2 < 13000)
def bLcm : List D → Res D
  | [.int i, .int j] => if (lcmOk i && lcmOk j) = true then .ok (.int ((Int.lcm i j : Nat) : Int)) else .bad
  | _ => .bad
def rLcm : List V → Hp → VK → Prop := fun vs H Q => ∃ a b : Int, vs = [.int a, .int b] ∧ (lcmOk a && lcmOk b) = true ∧ Q (.int ((Int.lcm a b : Nat) : Int)) H
theorem log2_lt_pow {n k : Nat} (h : n.log2 < k) : n < 2 ^ k := by
  rcases Nat.eq_zero_or_pos n with q | q
  · subst q; exact Nat.two_pow_pos _
  · exact (Nat.log2_lt (by omega)).mp h
theorem cr_lcm {X : Cx} : CallR X (.builtin "math.lcm") rLcm := by
  intro pins s σ H vs us Q I r h
  obtain ⟨a, b, rfl, hk, q⟩ := h
  obtain ⟨t, u, rfl⟩ := Vals.int2 r
  simp only [lcmOk, Bool.and_eq_true, decide_eq_true_eq] at hk
  have e1 : Nat.lcm 1 a.natAbs = a.natAbs := PySem.W.mc_lcm_one _
  have big : 13000 / 30 + 1 < 450 := by decide
  have m1 : (max 1 a.natAbs).log2 / 30 + 1 ≤ 450 := by
    have : (max 1 a.natAbs).log2 < 13000 := by
      rcases Nat.le_total 1 a.natAbs with z | z
      · rw [Nat.max_eq_right z]; exact hk.1
      · rw [Nat.max_eq_left z]; decide
    omega
  have m2 : (max a.natAbs b.natAbs).log2 / 30 + 1 ≤ 450 := by
    have : (max a.natAbs b.natAbs).log2 < 13000 := by
      rcases Nat.le_total b.natAbs a.natAbs with z | z
      · rw [Nat.max_eq_left z]; exact hk.1
      · rw [Nat.max_eq_right z]; exact hk.2
    omega
  have sz : ((((Nat.lcm 1 a.natAbs).lcm b.natAbs : Nat) : Int)).natAbs.log2 < bitsLine := by
    rw [e1, Int.natAbs_natCast]
    have l1 := log2_lt_pow hk.1
    have l2 := log2_lt_pow hk.2
    have l3 : a.natAbs.lcm b.natAbs < 2 ^ 26000 := by
      refine Nat.lt_of_le_of_lt (PySem.W.mc_lcm_le _ _) ?_
      have : (2 : Nat) ^ 26000 = 2 ^ 13000 * 2 ^ 13000 := by rw [← Nat.pow_add]
      rw [this]
      exact Nat.mul_lt_mul'' l1 l2
    rcases Nat.eq_zero_or_pos (a.natAbs.lcm b.natAbs) with z | z
    · rw [z]; decide
    · have := (Nat.log2_lt (by omega)).mpr l3
      have : (26000 : Nat) < bitsLine := by decide
      omega
  refine call_function_meets PySem.W.MGF.kind_lcm PySem.W.MGF.plain_lcm PySem.W.MGF.entry_lcm (PySem.W.MGF.args_lcm _ _) (PySem.W.mg_run_lcm a t b u (by omega) (by omega) sz).meets ?_
  rw [e1]
  exact ⟨.int _, H, I.tok _, ⟨_, rfl⟩, q⟩
theorem cd_lcm {K : Fr} : CallD K rLcm bLcm .z := by
  intro W vs ds B H σ Q s rs h
  cases rs with
  | nil => exact h.elim
  | cons r rs =>
    cases rs with
    | nil => cases r <;> exact h.elim
    | cons r2 rs =>
      cases rs with
      | cons _ _ => cases r <;> first | exact h.elim | (cases r2 <;> exact h.elim)
      | nil =>
        cases r with
        | int i =>
          cases r2 with
          | int j =>
            obtain ⟨c, h⟩ := AfE.iff (show AfE K W .z B σ H Q (if (lcmOk i && lcmOk j) = true then _ else .bad) from h)
            exact ⟨i, j, rfl, c, AfE.val s h (.int _)⟩
          | _ => exact h.elim
        | _ => exact h.elim
end Fz
set_option Elab.async false
set_option linter.all false
set_option maxRecDepth 100000
set_option maxHeartbeats 4000000
/-! Functionalization: sorted of ints, of tuples of numbers from 0 on. -/
namespace Fz
open PySem PySem.Spec PyProof.Rows L2

def lexLe : List Int → List Int → Bool
  | [], _ => true
  | _ :: _, [] => false
  | a :: r, b :: q => decide (a < b) || (decide (a = b) && lexLe r q)
theorem lexLe_total : ∀ a b : List Int, (lexLe a b || lexLe b a) = true
  | [], b => by simp [lexLe]
  | _ :: _, [] => by simp [lexLe]
  | a :: r, b :: q => by
    have ih := lexLe_total r q
    simp only [lexLe, Bool.or_eq_true, Bool.and_eq_true, decide_eq_true_eq] at ih ⊢
    rcases Int.lt_trichotomy a b with z | z | z
    · exact .inl (.inl z)
    · exact ih.elim (fun h => .inl (.inr ⟨z, h⟩)) fun h => .inr (.inr ⟨z.symm, h⟩)
    · exact .inr (.inl z)
theorem lexLe_trans : ∀ a b c : List Int, lexLe a b = true → lexLe b c = true → lexLe a c = true
  | [], _, _, _, _ => by simp [lexLe]
  | _ :: _, [], _, h, _ => by simp [lexLe] at h
  | _ :: _, _ :: _, [], _, h => by simp [lexLe] at h
  | a :: r, b :: q, c :: t, h1, h2 => by
    have ih := lexLe_trans r q t
    simp only [lexLe, Bool.or_eq_true, Bool.and_eq_true, decide_eq_true_eq] at h1 h2 ⊢
    rcases h1 with h1 | ⟨h1, k1⟩ <;> rcases h2 with h2 | ⟨h2, k2⟩
    · left; omega
    · left; omega
    · left; omega
    · exact .inr ⟨by omega, ih k1 k2⟩
theorem lexLe_anti : ∀ a b : List Int, lexLe a b = true → lexLe b a = true → a = b
  | [], [], _, _ => rfl
  | [], _ :: _, _, h => by simp [lexLe] at h
  | _ :: _, [], h, _ => by simp [lexLe] at h
  | a :: r, b :: q, h1, h2 => by
    simp only [lexLe, Bool.or_eq_true, Bool.and_eq_true, decide_eq_true_eq] at h1 h2
    rcases h1 with h1 | ⟨h1, k1⟩ <;> rcases h2 with h2 | ⟨h2, k2⟩
    · omega
    · omega
    · omega
    · rw [h1, lexLe_anti r q k1 k2]
theorem lexLe_code {B : Int} : ∀ {r q : List Int}, TS.Bd B r → TS.Bd B q → r.length = q.length → TS.code B r ≤ TS.code B q → lexLe r q = true
  | [], _, _, _, _, _ => by simp [lexLe]
  | _ :: _, [], _, _, h, _ => by simp at h
  | a :: r, b :: q, hr, hq, hl, h => by
    have hl' : r.length = q.length := by simpa using hl
    simp only [lexLe, Bool.or_eq_true, Bool.and_eq_true, decide_eq_true_eq]
    rcases Int.lt_trichotomy a b with z | z | z
    · exact .inl z
    · subst z
      refine .inr ⟨rfl, lexLe_code hr.tail hq.tail hl' ?_⟩
      rcases Int.lt_or_le (TS.code B q) (TS.code B r) with y | y
      · have := (TS.code_same (B := B) (d := a) hl'.symm).mpr y
        omega
      · exact y
    · have := TS.code_lt (B := B) hl'.symm hq.tail hr.tail z
      omega
def lexSort (rows : List (List Int)) : List (List Int) := rows.mergeSort lexLe
def intSort (ns : List Int) : List Int := ns.mergeSort fun a b => decide (a ≤ b)
theorem lexSort_perm (rows : List (List Int)) : (lexSort rows).Perm rows := List.mergeSort_perm _ _
theorem lexSort_sorted (rows : List (List Int)) : (lexSort rows).Pairwise fun a b => lexLe a b = true := List.pairwise_mergeSort (fun a b c => lexLe_trans a b c) (fun a b => lexLe_total a b) rows
theorem intSort_perm (ns : List Int) : (intSort ns).Perm ns := List.mergeSort_perm _ _
theorem intSort_sorted (ns : List Int) : (intSort ns).Pairwise (· ≤ ·) := by
  have := List.pairwise_mergeSort (le := fun a b : Int => decide (a ≤ b)) (fun a b c h1 h2 => by simp at *; omega) (fun a b => by simp; omega) ns
  exact this.imp fun {a b} h => by simpa using h
theorem lexSort_uniq {a b : List (List Int)} (h : a.Perm b) (hs : a.Pairwise fun a b => lexLe a b = true) : a = lexSort b :=
  List.Perm.eq_of_pairwise (le := fun a b => lexLe a b = true) (fun x y _ _ => lexLe_anti x y) hs (lexSort_sorted b) (h.trans (lexSort_perm b).symm)
theorem intSort_uniq {a b : List Int} (h : a.Perm b) (hs : a.Pairwise (· ≤ ·)) : a = intSort b :=
  List.Perm.eq_of_pairwise (le := (· ≤ ·)) (fun x y _ _ h1 h2 => by omega) hs (intSort_sorted b) (h.trans (intSort_perm b).symm)

/-- rows of numbers -/
def rows? : List D → Option (List (List Int))
  | [] => some []
  | .tup ds :: r => match ints? ds, rows? r with | some ns, some q => some (ns :: q) | _, _ => none
  | _ :: _ => none
abbrev dRows (rows : List (List Int)) : List D := rows.map fun ns => .tup (ns.map .int)
theorem rows?_some : ∀ {ds : List D} {rows : List (List Int)}, rows? ds = some rows → ds = dRows rows
  | [], rows, h => by cases h; rfl
  | .tup ds :: r, rows, h => by
    unfold rows? at h
    split at h
    · rename_i ns q e1 e2
      cases h
      rw [ints?_some e1, rows?_some e2] <;> rfl
    · cases h
  | .non :: _, _, h => by cases h
  | .bl _ :: _, _, h => by cases h
  | .int _ :: _, _, h => by cases h
  | .str _ :: _, _, h => by cases h
  | .lst _ :: _, _, h => by cases h
  | .scr _ :: _, _, h => by cases h
  | .ins _ _ :: _, _, h => by cases h
  | .exn _ _ :: _, _, h => by cases h
theorem rows?_map (rows : List (List Int)) : rows? (dRows rows) = some rows := by
  induction rows with
  | nil => rfl
  | cons r q ih =>
    show (match ints? (r.map .int), rows? (dRows q) with | some ns, some q => some (ns :: q) | _, _ => none) = _
    rw [ints?_map, ih]
def okRows (rows : List (List Int)) : Bool := decide (rows.length < 64) && rows.all fun r => decide (1 ≤ r.length) && decide (r.length = (rows.headD []).length) && r.all fun m => decide (0 ≤ m)
def sortRowsK (o : Option (List (List Int))) : Res D := match o with
  | some rows => if okRows rows = true then .ok (.lst (dRows (lexSort rows))) else .bad
  | none => .bad
def sortK (o : Option (List Int)) (p : Option (List (List Int))) : Res D := match o with
  | some ns => .ok (.lst ((intSort ns).map .int))
  | none => sortRowsK p
def lst? : D → Option (List D)
  | .lst ds => some ds
  | .scr ds => some ds
  | _ => none
def sortL (o : Option (List D)) : Res D := match o with
  | some ds => sortK (ints? ds) (rows? ds)
  | none => .bad
def bSorted : List D → Res D
  | [d] => sortL (lst? d)
  | _ => .bad
def rSortedA (K : Fr) : List V → Hp → VK → Prop := fun vs H Q => rSortedI K vs H Q ∨ ∃ d B, 1 ≤ d ∧ rSortU K d B vs H Q
theorem cr_sortedA {X : Cx} : CallR X (.builtin "sorted") (rSortedA X.K) := by
  intro pins s σ H vs us Q I r h
  rcases h with h | ⟨d, B, hd, h⟩
  · exact cr_sortedI pins s σ H vs us Q I r h
  · exact cr_sortT hd pins s σ H vs us Q I r h
section
variable {K : Fr} {B H : Hp}
theorem Rep.seqL (s : Ex B H) {v : V} {d : D} {ds : List D} (r : Rep K B v d) (h : lst? d = some ds) : ∃ p vs, v = .ref p ∧ SqL K H p vs ∧ Reps K B vs ds := by
  cases r with
  | lst hp rs => cases h; exact ⟨_, _, rfl, SqL.of (s _ _ hp), rs⟩
  | scr hp rs => cases h; exact ⟨_, _, rfl, s.sl hp, rs⟩
  | _ => cases h
theorem Reps.perm {xs ys : List V} (h : ys.Perm xs) : ∀ {ds : List D}, Reps K B xs ds → ∃ es, Reps K B ys es ∧ es.Perm ds := by
  induction h with
  | nil => intro ds r; exact ⟨ds, r, List.Perm.refl _⟩
  | cons x p ih =>
    intro ds r
    cases r with
    | cons r rs =>
      obtain ⟨es, h1, h2⟩ := ih rs
      exact ⟨_ :: es, .cons r h1, h2.cons _⟩
  | swap x y l =>
    intro ds r
    cases r with
    | cons r rs =>
      cases rs with
      | cons r2 rs => exact ⟨_, .cons r2 (.cons r rs), List.Perm.swap _ _ _⟩
  | trans p q ih1 ih2 =>
    intro ds r
    obtain ⟨es, h1, h2⟩ := ih2 r
    obtain ⟨fs, h3, h4⟩ := ih1 h1
    exact ⟨fs, h3, h4.trans h2⟩
theorem Rep.tupI (s : Ex B H) {v : V} {ns : List Int} (r : Rep K B v (.tup (ns.map .int))) : TupI K H v ns := by
  cases r with
  | tup hp rs => exact ⟨_, rfl, by rw [← rs.ints']; exact s.st hp⟩
theorem Reps.mem_tup : ∀ {vs : List V} {rows : List (List Int)}, Reps K B vs (dRows rows) → ∀ v ∈ vs, ∃ ns ∈ rows, Rep K B v (.tup (ns.map .int))
  | _, [], .nil, _, h => by cases h
  | _, _ :: _, .cons r rs, v, h => by
    rcases List.mem_cons.mp h with z | z
    · subst z; exact ⟨_, List.mem_cons_self, r⟩
    · obtain ⟨ns, h1, h2⟩ := Reps.mem_tup rs v z
      exact ⟨ns, List.mem_cons_of_mem _ h1, h2⟩
theorem Reps.pw {R : V → V → Prop} {S : List Int → List Int → Prop} (h : ∀ v u n m, Rep K B v (.tup (n.map .int)) → Rep K B u (.tup (m.map .int)) → R v u → S n m) : ∀ {vs : List V} {rows : List (List Int)}, Reps K B vs (dRows rows) → vs.Pairwise R → rows.Pairwise S
  | _, [], .nil, _ => .nil
  | _, n :: rows, .cons r rs, p => by
    cases p with
    | cons p1 p2 =>
      refine List.Pairwise.cons (fun m hm => ?_) (Reps.pw h rs p2)
      have : ∀ {vs : List V} {rows : List (List Int)}, Reps K B vs (dRows rows) → m ∈ rows → ∃ u ∈ vs, Rep K B u (.tup (m.map .int)) := by
        intro vs rows
        induction rows generalizing vs with
        | nil => intro _ h; cases h
        | cons k q ih =>
          intro r h
          cases r with
          | cons r rs =>
            rcases List.mem_cons.mp h with z | z
            · subst z; exact ⟨_, List.mem_cons_self, r⟩
            · obtain ⟨u, h1, h2⟩ := ih rs z
              exact ⟨u, List.mem_cons_of_mem _ h1, h2⟩
      obtain ⟨u, hu, ru⟩ := this rs hm
      exact h _ _ _ _ r ru (p1 u hu)
end
theorem bound_all (rows : List (List Int)) : ∃ B : Int, ∀ r ∈ rows, ∀ m ∈ r, m < B := by
  have one : ∀ r : List Int, ∃ B : Int, ∀ m ∈ r, m < B := by
    intro r
    induction r with
    | nil => exact ⟨0, fun m h => by cases h⟩
    | cons x r ih =>
      obtain ⟨B, h⟩ := ih
      refine ⟨max B (x + 1), fun m hm => ?_⟩
      rcases List.mem_cons.mp hm with z | z
      · omega
      · have := h m z; omega
  induction rows with
  | nil => exact ⟨0, fun m h => by cases h⟩
  | cons x r ih =>
    obtain ⟨B, h⟩ := ih
    obtain ⟨B2, h2⟩ := one x
    refine ⟨max B B2, fun r hr m hm => ?_⟩
    rcases List.mem_cons.mp hr with z | z
    · subst z; have := h2 m hm; omega
    · have := h r z m hm; omega
theorem dRows_inj : ∀ {a b : List (List Int)}, dRows a = dRows b → a = b
  | [], [], _ => rfl
  | [], _ :: _, h => by cases h
  | _ :: _, [], h => by cases h
  | x :: a, y :: b, h => by
    simp only [dRows, List.map_cons, List.cons.injEq, D.tup.injEq] at h
    have e : x = y := by
      have := congrArg ints? h.1
      rw [ints?_map, ints?_map] at this
      exact Option.some.inj this
    rw [e, dRows_inj h.2]
theorem perm_rows {es : List D} {rows : List (List Int)} (h : es.Perm (dRows rows)) : ∃ qs, es = dRows qs ∧ qs.Perm rows := by
  have : ∃ qs, es = dRows qs := by
    have all : ∀ d ∈ es, ∃ ns : List Int, d = .tup (ns.map .int) := fun d hd => by
      obtain ⟨ns, _, e⟩ := List.mem_map.mp (h.mem_iff.mp hd)
      exact ⟨ns, e.symm⟩
    clear h
    induction es with
    | nil => exact ⟨[], rfl⟩
    | cons d r ih =>
      obtain ⟨ns, e⟩ := all d List.mem_cons_self
      obtain ⟨qs, e2⟩ := ih fun d hd => all d (List.mem_cons_of_mem _ hd)
      exact ⟨ns :: qs, by rw [e, e2]; rfl⟩
  obtain ⟨qs, e⟩ := this
  subst e
  refine ⟨qs, rfl, ?_⟩
  have key := h.map fun d => match d with | D.tup ds => (ints? ds).getD [] | _ => []
  have back : ∀ rs : List (List Int), (dRows rs).map (fun d => match d with | D.tup ds => (ints? ds).getD [] | _ => []) = rs := by
    intro rs
    induction rs with
    | nil => rfl
    | cons x r ih =>
      simp only [dRows, List.map_cons] at ih ⊢
      rw [ih, ints?_map]; rfl
  rw [back, back] at key
  exact key
theorem cd_sorted {K : Fr} : CallD K (rSortedA K) bSorted (.l .z) := by
  intro W vs ds B H σ Q s rs h
  cases rs with
  | nil => exact h.elim
  | cons r rs =>
    cases rs with
    | cons _ _ => exact h.elim
    | nil =>
      rename_i v d
      have h : AfE K W (.l .z) B σ H Q (sortL (lst? d)) := h
      cases e : lst? d with
      | none => rw [e] at h; exact h.elim
      | some ds =>
        rw [e] at h
        have h : AfE K W (.l .z) B σ H Q (sortK (ints? ds) (rows? ds)) := h
        obtain ⟨p, vs, rfl, hp, rs⟩ := r.seqL s e
        cases e2 : ints? ds with
        | some ns =>
          rw [e2] at h
          rw [ints?_some e2] at rs
          refine .inl ⟨p, ns, rfl, by rw [← rs.ints']; exact hp, fun ns' l h1 h2 hl => ?_⟩
          rw [intSort_uniq h1 h2]
          exact AfE.newL s h hl Reps.ints
        | none =>
          rw [e2] at h
          have h : AfE K W (.l .z) B σ H Q (sortRowsK (rows? ds)) := h
          cases e3 : rows? ds with
          | none => rw [e3] at h; exact h.elim
          | some rows =>
            rw [e3] at h
            obtain ⟨ok, h⟩ := AfE.iff (show AfE K W (.l .z) B σ H Q (if okRows rows = true then _ else _) from h)
            rw [rows?_some e3] at rs
            obtain ⟨Bd, hB⟩ := bound_all rows
            simp only [okRows, Bool.and_eq_true, decide_eq_true_eq, List.all_eq_true] at ok
            obtain ⟨ok1, ok2⟩ := ok
            have hlen : vs.length = rows.length := by rw [rs.length]; simp
            rcases Nat.eq_zero_or_pos rows.length with z | z
            · have z' : rows = [] := List.length_eq_zero_iff.mp z
              subst z'
              have e4 := rows?_some e3
              subst e4
              cases e2
            · refine .inr ⟨(rows.headD []).length, Bd, ?_, p, vs, rfl, hp, by omega, fun x hx => ?_, fun ys l h1 h2 hl => ?_⟩
              · cases rows with
                | nil => simp at z
                | cons x q => exact (ok2 x List.mem_cons_self).1.1
              · obtain ⟨ns, h1, h2⟩ := rs.mem_tup x hx
                exact ⟨ns, h2.tupI s, (ok2 ns h1).1.2, fun m hm => ⟨(ok2 ns h1).2 m hm, hB ns h1 m hm⟩⟩
              · obtain ⟨es, k1, k2⟩ := rs.perm h1
                obtain ⟨qs, rfl, k3⟩ := perm_rows k2
                have srt : qs.Pairwise fun a b => lexLe a b = true := by
                  have key : qs.Pairwise fun a b => a ∈ rows → b ∈ rows → lexLe a b = true := Reps.pw (S := fun a b => a ∈ rows → b ∈ rows → lexLe a b = true) (fun v u n m rv ru h hn hm =>
                    lexLe_code (fun x hx => ⟨(ok2 n hn).2 x hx, hB n hn x hx⟩) (fun x hx => ⟨(ok2 m hm).2 x hx, hB m hm x hx⟩) (by rw [(ok2 n hn).1.2, (ok2 m hm).1.2]) (h n m (rv.tupI s) (ru.tupI s))) k1 h2
                  exact key.imp_of_mem fun {a b} ha hb h => h (k3.mem_iff.mp ha) (k3.mem_iff.mp hb)
                rw [lexSort_uniq k3 srt] at k1
                exact AfE.newL s h hl k1
end Fz
set_option Elab.async false
set_option linter.all false
set_option maxRecDepth 100000
set_option maxHeartbeats 4000000
/-! Functionalization: whole defs, the head's facts. -/
namespace Fz
open PySem PySem.Spec PyProof.Rows L2

def startE (n : Nat) (ds : List D) : Env := ds.map some ++ List.replicate (n - ds.length) none
def zs (n : Nat) : List Ow := List.replicate n .z
theorem zs_getD (n j : Nat) : (zs n).getD j .z = .z := by
  unfold zs
  rw [List.getD_eq_getElem?_getD, List.getElem?_replicate]
  split <;> rfl
def WE' (E : XK) : WX := fun cls d _ H => E cls d H
def runD (k : Ow) (n : Nat) (b : Env → Out) : List D → Res D := fun ds => match b (startE n ds) with
  | .ret d => .ok d
  | .nx _ => if k = .z then .ok .non else .bad
  | .exc c fs _ => .exc c fs
  | _ => .bad
def runI (c : Str) (n : Nat) (b : Env → Out) : List D → Res (List (Str × D)) := fun ds => match b (startE n (.ins c [] :: ds)) with
  | .nx e => (match e[(0 : Nat)]? with
    | some (some (.ins c' fs)) => if c' = c then .ok fs else .bad
    | _ => .bad)
  | .exc c fs _ => .exc c fs
  | _ => .bad
section
variable {P : Program} {wd : World} {K : Fr} {mg : Str → Option Value} {base : Heap} {k : Ow} {n : Nat} {w w1 : List Ow} {B H : Hp}
theorem start_rel {N : List Str} {vs : List V} {ds : List D} (s : Ex B H) (r : Reps K B vs ds) (hw : ∀ j, w.getD j .z = .z) : Rel K w B H (L2.start N vs) (startE N.length ds) fun _ => [] where
  s := s
  len := by unfold L2.start startE; simp [r.length]
  sl := fun i d e => by
    unfold startE at e
    unfold L2.start
    by_cases hi : i < ds.length
    · rw [List.getElem?_append_left (by simpa using hi), List.getElem?_map] at e
      obtain ⟨d', hd, ed⟩ := Option.map_eq_some_iff.mp e
      cases ed
      obtain ⟨v, hv, rv⟩ := r.get hd
      refine ⟨v, ?_, ?_⟩
      · rw [List.getElem?_append_left (by simpa [r.length] using hi), List.getElem?_map, hv] <;> rfl
      · rw [hw]; exact ⟨rv, rfl⟩
    · rw [List.getElem?_append_right (by simpa using Nat.le_of_not_lt hi), List.getElem?_replicate] at e
      split at e <;> cases e
  nn := fun _ _ => rfl
  nd := fun _ => List.nodup_nil
  dj := fun _ _ _ a ha => by cases ha
  bn := fun _ a ha => by cases ha
theorem run_AfS {E : XK} {Q : VK} {b : Env → Out} {ds : List D} {w1 bk ct : List Ow} (h : AfE K (WE' E) k B [] H Q (runD k n b ds)) (hbk : bk = []) (hct : ct = []) :
    AfS K (WE' E) ⟨w1, bk, ct, k⟩ B H { nx := fun _ H' => Q .non H', rt := Q } (b (startE n ds)) := by
  unfold runD at h
  cases e : b (startE n ds) with
  | ret d =>
    rw [e] at h
    exact fun B' H' v f x1 x2 x3 x4 r nd hf => h v H' B' f ⟨x1, x2, x3, x4⟩ r nd hf
  | nx e1 =>
    rw [e] at h
    obtain ⟨hk, h⟩ := AfE.iff (show AfE K (WE' E) k B [] H Q (if k = .z then .ok .non else .bad) from h)
    subst hk
    rintro B' σ H' ⟨fp, R, x1, x2, x3, _⟩
    exact h .non H' B' [] ⟨x1, x2, R.s, x3⟩ ⟨.non, rfl⟩ List.nodup_nil fun a ha => by cases ha
  | exc c fs e1 =>
    rw [e] at h
    rintro B' σ H' dct ⟨fp, R, x1, x2, x3, _⟩ xr
    exact h H' B' dct ⟨x1, x2, R.s, x3⟩ xr
  | bk e1 => rw [e] at h; exact h.elim
  | ct e1 => rw [e] at h; exact h.elim
  | bad => rw [e] at h; exact h.elim
/-- a def keeps its promise -/
theorem fn_ok {x qual : Str} {params : Arguments} {body : List Stmt} {scope : Scope} {dV : List V} {kws : List (Str × V)} {f : Addr} {fd : FuncData} {N ps : List Str} {kl : Nat} {b : Env → Out} (F : FunD K x qual params body scope dV kws f fd) (S : FnScope N ps scope) (hw : w = zs w.length) (hn : ps.length = n)
    (hb : ∀ (cdv : Value) (A : Around) (outer : List PySem.Env) (s : Shared) (H : Hp) (E : XK), Room kl (A.deeper (envOfC qual scope s.heap.objs.size f cdv)) → PSs (cxOf (L2.CX P wd) P wd K mg base N qual scope f cdv A outer s H E) body (rdS K w (WE' E) b ⟨w1, [], [], k⟩)) :
    FnOk P wd K mg base (L2.CX P wd) (kl + 1) f fd ps (spD K n (runD k N.length b) k) := by
  refine F.ok S (fun vs H Q E ⟨B, ds, s, r, hl, h⟩ => by rw [r.length, hl, hn]) fun cdv A outer s H vs Q E hr ⟨B, ds, sx, r, hl, h⟩ => ⟨_, hb cdv A outer s H E hr, B, H, B, startE N.length ds, ⟨_, start_rel sx r fun j => by rw [hw]; exact zs_getD _ _, Ex.rfl' _, Ex.rfl' _, fun _ _ => rfl, fun _ a ha => by cases ha⟩, run_AfS h rfl rfl⟩
/-- __init__ keeps its promise -/
theorem init_ok {c : Str} {qual : Str} {params : Arguments} {body : List Stmt} {scope : Scope} {dV : List V} {kws : List (Str × V)} {f : Addr} {fd : FuncData} {N ps : List Str} {kl : Nat} {b : Env → Out} (F : FunD K "__init__" qual params body scope dV kws f fd) (S : FnScope N ps scope) (hw : w = zs w.length) (hn : ps.length = n + 1)
    (hb : ∀ (x : Addr) (cdv : Value) (A : Around) (outer : List PySem.Env) (s : Shared) (H : Hp) (E : XK), Room kl (A.deeper (envOfC qual scope s.heap.objs.size f cdv)) →
      ∃ w1 : List Ow, w1.getD 0 .z = .at x ∧ PSs (cxOf (L2.CX P wd) P wd K mg base N qual scope f cdv A outer s H E) body (rdS K (.at x :: w) (WE' E) b ⟨w1, [], [], .z⟩)) :
    FnOk P wd K mg base (L2.CX P wd) (kl + 1) f fd ps (spI K c n (runI c N.length b)) := by
  refine F.ok S (fun vs H Q E ⟨B, ds, x, dx, us, ev, hx, bx, s, r, hl, h⟩ => by rw [ev, List.length_cons, r.length, hl, hn]) fun cdv A outer s H vs Q E hr ⟨B, ds, x, dx, us, ev, hx, bx, sx, r, hl, h⟩ => ?_
  obtain ⟨w1, hw1, hp⟩ := hb x cdv A outer s H E hr
  subst ev
  let H0 : Hp := fun a => if a = x then none else H a
  have h0 : Ex H0 H := fun a o e => by
    by_cases q : a = x
    · rw [show H0 a = none from if_pos q] at e; cases e
    · rw [show H0 a = H a from if_neg q] at e; exact e
  have hx0 : H0 x = none := if_pos rfl
  have hoff : ∀ {a : Addr}, a ≠ x → H0 a = H a := fun q => if_neg q
  have rel : Rel K (.at x :: w) B H (L2.start N (.ref x :: us)) (startE N.length (.ins c [] :: ds)) fun i => if i = 0 then [x] else [] := by
    have R := start_rel (N := N) (w := zs (w.length + 1)) sx (r := Reps.cons (v := .non) (d := .non) .non r) fun j => zs_getD _ _
    have e1 : start N (.ref x :: us) = (L2.start N (.non :: us)).set 0 (some (.ref x)) := by simp [L2.start]
    have e2 : startE N.length (.ins c [] :: ds) = (startE N.length (.non :: ds)).set 0 (some (.ins c [])) := by simp [startE]
    rw [e1, e2]
    refine R.set (i := 0) (k := .at x) (f := [x]) (by simp [startE]) ⟨dx, [], c, [], rfl, rfl, hx, .nil, rfl⟩ (by simp) (fun a ha => ?_) (fun j _ a _ q => by cases q) fun j => ?_
    · have q : a = x := by simpa using ha
      rw [q]; exact bx
    · cases j with
      | zero => rfl
      | succ j =>
        rw [if_neg (Nat.succ_ne_zero j), zs_getD]
        show w.getD j .z = .z
        rw [hw]; exact zs_getD _ _
  have grow : ∀ {B' H' : Hp}, Ex B B' → Ex H0 H' → Ex B' H' → (∀ a, H0 a ≠ none → B' a = B a) → GrX x B H B' H' := fun {B' H'} x1 x2 x3 x4 => ⟨x1, fun a o q e => x2 a o (by rw [hoff q]; exact e), x3, fun a q ha => x4 a (by rw [hoff q]; exact ha)⟩
  refine ⟨_, hp, B, H0, B, _, ⟨_, rel, Ex.rfl' _, h0, fun _ _ => rfl, fun i a ha => ?_⟩, ?_⟩
  · split at ha
    · have q : a = x := by simpa using ha
      rw [q]; exact hx0
    · cases ha
  · unfold runI at h
    have h : AfI K (WE' E) x c B [] H Q (match b (startE N.length (.ins c [] :: ds)) with
      | .nx e => (match e[(0 : Nat)]? with
        | some (some (.ins c' fs)) => if c' = c then .ok fs else .bad
        | _ => .bad)
      | .exc c fs _ => .exc c fs
      | _ => .bad) := h
    cases e : b (startE N.length (.ins c [] :: ds)) with
    | nx e1 =>
      rw [e] at h
      rintro B' σ H' ⟨fp, R, x1, x2, x3, _⟩
      cases e0 : e1[0]? with
      | none => dsimp only at h; rw [e0] at h; exact h.elim
      | some o =>
        cases o with
        | none => dsimp only at h; rw [e0] at h; exact h.elim
        | some d =>
          dsimp only at h
          rw [e0] at h
          obtain ⟨dx', fvs, c', fs', ed, _, hH, rf, ef⟩ := R.ownI hw1 e0
          subst ed
          dsimp only at h
          by_cases q : c' = c
          · rw [if_pos q] at h
            subst q
            exact h H' B' dx' fvs (grow x1 x2 R.s x3) (R.bn 0 x (by rw [ef]; exact List.mem_cons_self)) hH rf
          · rw [if_neg q] at h; exact h.elim
    | exc c fs e1 =>
      rw [e] at h
      rintro B' σ H' dct ⟨fp, R, x1, x2, x3, _⟩ xr
      exact h H' B' dct (grow x1 x2 R.s x3) xr
    | ret d => rw [e] at h; exact h.elim
    | bk e1 => rw [e] at h; exact h.elim
    | ct e1 => rw [e] at h; exact h.elim
    | bad => rw [e] at h; exact h.elim
end
end Fz
set_option Elab.async false
set_option linter.all false
set_option maxRecDepth 100000
set_option maxHeartbeats 4000000
/-! Functionalization: keywords, classmethods. -/
namespace Fz
open PySem PySem.Spec PyProof.Rows L2

/-! ### how arguments come to parameters: (0, i) a positional one, (1, i) a default, (2, i) a keyword's -/
abbrev Plan := List (Nat × Nat)
def pick {α : Type} (z : α) (us ms ws : List α) : Nat × Nat → α
  | (0, i) => us.getD i z
  | (1, i) => ms.getD i z
  | (_, i) => ws.getD i z
def arr {α : Type} (z : α) (pl : Plan) (us ms ws : List α) : List α := pl.map (pick z us ms ws)
theorem valsZ {vs : List V} {us : List Value} (r : Vals vs us) (i : Nat) : RelV (vs.getD i .non) (us.getD i Value.none) := by
  rw [List.getD_eq_getElem?_getD, List.getD_eq_getElem?_getD]
  cases e : vs[i]? with
  | none => rw [r.none_of e]; exact rfl
  | some v =>
    obtain ⟨u, hu, ru⟩ := r.get e
    rw [hu]; exact ru
theorem valsArr {pl : Plan} {vs ms zs : List V} {us mv ws : List Value} (r : Vals vs us) (r2 : Vals ms mv) (r3 : Vals zs ws) : Vals (arr .non pl vs ms zs) (Fz.arr Value.none pl us mv ws) := by
  induction pl with
  | nil => exact .nil
  | cons q pl ih =>
    refine .cons ?_ ih
    obtain ⟨t, i⟩ := q
    match t with
    | 0 => exact valsZ r i
    | 1 => exact valsZ r2 i
    | n + 2 => exact valsZ r3 i
theorem Reps.getZ {K : Fr} {B : Hp} {vs : List V} {ds : List D} (r : Reps K B vs ds) (i : Nat) : Rep K B (vs.getD i .non) (ds.getD i .non) := by
  rw [List.getD_eq_getElem?_getD, List.getD_eq_getElem?_getD]
  cases e : vs[i]? with
  | none =>
    have h1 : vs.length ≤ i := List.getElem?_eq_none_iff.mp e
    rw [r.length] at h1
    rw [List.getElem?_eq_none_iff.mpr h1]; exact .non
  | some v =>
    obtain ⟨u, hu, ru⟩ := r.get' e
    rw [hu]; exact ru
theorem Reps.arr {K : Fr} {B : Hp} {pl : Plan} {vs ms zs : List V} {us mv ws : List D} (r : Reps K B vs us) (r2 : Reps K B ms mv) (r3 : Reps K B zs ws) : Reps K B (arr .non pl vs ms zs) (Fz.arr D.non pl us mv ws) := by
  induction pl with
  | nil => exact .nil
  | cons q pl ih =>
    refine .cons ?_ ih
    obtain ⟨t, i⟩ := q
    match t with
    | 0 => exact r.getZ i
    | 1 => exact r2.getZ i
    | n + 2 => exact r3.getZ i
section
variable {K : Fr} {x qual : Str} {params : Arguments} {body : List Stmt} {scope : Scope} {dvs : List V} {kws : List (Str × V)} {f : Addr} {fd : FuncData} {ps : List Str}
/-- keyword-only parameters, no others with defaults -/
theorem kbn0 (F : FunD K x qual params body scope [] kws f fd) (n : Nat) (ks : List Str) (ms : List (Str × V)) (pl : Plan) (hk : kws ≠ []) (hms : ∀ q ∈ ms, q ∈ kws)
    (h : ∀ (T : Addr) (doc pm : Value) (an : Option Addr) (cdv ct : Value) (us mv ws : List Value), us.length = n → mv.length = ms.length → ws.length = ks.length →
      KwChain T ((ms.map (·.1)).zip mv) (bindArgs (PySem.W.fnOf x qual params body scope .none (.ref T) doc pm an cdv ct) ⟨us, ks.zip ws⟩) (ps.zip (arr Value.none pl us mv ws))) :
    ∃ mv : List Value, KBn K fd ps n ks (fun us ws => arr Value.none pl us mv ws) (fun vs zs => arr .non pl vs (ms.map (·.2)) zs) := by
  obtain ⟨oc, od, dV, kV, doc, pm, an, cdv, ct, osl, rfl, lk, hcd, hD, hK⟩ := F.ex
  rcases hD with ⟨_, rfl⟩ | ⟨e, _⟩
  · rcases hK with e | ⟨T, rfl, hq⟩
    · exact absurd e hk
    · obtain ⟨mv, hl, rk, hks⟩ := kwd_vals (ms := ms) fun q hm => hq q (hms q hm)
      exact ⟨mv, ⟨fun s us ws X l1 l2 => BindsTo.of_looks fun M => KwChain.looks X hks (h T doc pm an cdv ct us mv ws l1 hl l2), fun r1 r2 => valsArr r1 rk r2⟩⟩
  · exact absurd rfl e
/-- defaults of plain parameters -/
theorem kbn1 (F : FunD K x qual params body scope dvs [] f fd) (n : Nat) (ks : List Str) (pl : Plan) (hd : dvs ≠ [])
    (h : ∀ (T : Addr) (kV doc pm : Value) (an : Option Addr) (cdv ct : Value) (us its ws : List Value), us.length = n → its.length = dvs.length → ws.length = ks.length →
      ∃ k, bindArgs (PySem.W.fnOf x qual params body scope (.ref T) kV doc pm an cdv ct) ⟨us, ks.zip ws⟩ = seqItems? (.ref T) >>= k ∧ k (some its.toArray) = pure (ps.zip (arr Value.none pl us its ws))) :
    ∃ mv : List Value, KBn K fd ps n ks (fun us ws => arr Value.none pl us mv ws) (fun vs zs => arr .non pl vs dvs zs) := by
  obtain ⟨oc, od, dV, kV, doc, pm, an, cdv, ct, osl, rfl, lk, hcd, hD, hK⟩ := F.ex
  rcases hD with ⟨e, _⟩ | ⟨_, T, o, its, m, rfl, lT, oT, rT⟩
  · exact absurd e hd
  · refine ⟨its, ⟨fun s us ws X l1 l2 => ?_, fun r1 r2 => valsArr r1 rT r2⟩⟩
    obtain ⟨k, e1, e2⟩ := h T kV doc pm an cdv ct us its ws l1 rT.length.symm l2
    refine BindsTo.of_looks fun M => ?_
    rw [e1]
    exact looks_items X lT oT (.of_pure e2)
/-- no defaults are needed -/
theorem kbnN (F : FunD K x qual params body scope [] [] f fd) (n : Nat) (ks : List Str) (pl : Plan)
    (h : ∀ (kV doc pm : Value) (an : Option Addr) (cdv ct : Value) (us ws : List Value), us.length = n → ws.length = ks.length →
      bindArgs (PySem.W.fnOf x qual params body scope .none kV doc pm an cdv ct) ⟨us, ks.zip ws⟩ = pure (ps.zip (arr Value.none pl us [] ws))) :
    ∃ mv : List Value, KBn K fd ps n ks (fun us ws => arr Value.none pl us mv ws) (fun vs zs => arr .non pl vs [] zs) := by
  obtain ⟨oc, od, dV, kV, doc, pm, an, cdv, ct, osl, rfl, lk, hcd, hD, hK⟩ := F.ex
  rcases hD with ⟨_, rfl⟩ | ⟨e, _⟩
  · exact ⟨[], ⟨fun s us ws X l1 l2 => BindsTo.of_looks fun M => .of_pure (h kV doc pm an cdv ct us ws l1 l2), fun r1 r2 => valsArr r1 .nil r2⟩⟩
  · exact absurd rfl e
end
/-- the value: f called by a plan -/
def dkw (pl : Plan) (n m : Nat) (ms : List D) (f : List D → Res D) (da dk : Env → Res (List D)) : Env → Res D := fun env => (da env).bind fun us => (dk env).bind fun ws => if us.length = n ∧ ws.length = m then f (arr D.non pl us ms ws) else .bad
@[simp] theorem dkw_ev (pl : Plan) (n m : Nat) (ms : List D) (f : List D → Res D) (da dk : Env → Res (List D)) (env : Env) : dkw pl n m ms f da dk env = (da env).bind fun us => (dk env).bind fun ws => if us.length = n ∧ ws.length = m then f (arr D.non pl us ms ws) else .bad := rfl

/-! ### keywords' values -/
section
variable {X : Cx} {K : Fr} {W : WX} {w w' : List Ow} {k : Ow} {e : Expr} {es : List Expr} {da dk : Env → Res (List D)} {f : List D → Res D} {x : Str} {p pos kpos apos : Pos} {kl n : Nat} {ms : List D} {kws : List Keyword} {ks : List Str} {pl : Plan} {nm : Str}
theorem PK_weak {kws : List Keyword} {t t' : TA} (h : PK X kws t) (hw : ∀ σ H Q, t' σ H Q → t σ H Q) : PK X kws t' := ⟨fun pos pins s σ H Q I q => h.run pos pins s σ H Q I (hw σ H Q q)⟩
theorem k_nil : PK X [] (rdA K w W dnil) := PK_weak pk_nil fun σ H Q ⟨B, env, fp, R, h⟩ => by
  have h : ∀ vs H' B', Gr B H B' H' → Reps K B' vs [] → Q vs H' := h
  exact h [] H B (Gr.rf R.s) .nil
theorem k_cons {de : Env → Res D} (ha : PE X e (rdE K w W de .z)) (hr : PK X kws (rdA K w W dk)) : PK X (⟨some nm, e, kpos⟩ :: kws) (rdA K w W (dcons de dk)) :=
  PK_weak (pk_cons ha hr) fun σ H Q ⟨B, env, fp, R, h⟩ => by
    refine ⟨B, env, fp, R, ?_⟩
    have h : AfA K W B σ H Q ((de env).bind fun y => (dk env).bind fun ys => .ok (y :: ys)) := h
    cases q : de env with
    | ok d =>
      rw [q] at h
      intro v H1 B1 f g r nd hf
      refine ⟨B1, env, fp, R.gr g, ?_⟩
      have h : AfA K W B σ H Q ((dk env).bind fun ys => .ok (d :: ys)) := h
      cases q2 : dk env with
      | ok ds =>
        rw [q2] at h
        intro vs H2 B2 g2 r2
        exact h (v :: vs) H2 B2 (g.tr g2) (.cons (r.1.mono g2.b) r2)
      | exc c fs => rw [q2] at h; exact fun H2 B2 dct g2 r2 => h H2 B2 dct (g.tr g2) r2
      | bad => rw [q2] at h; exact h.elim
    | exc c fs => rw [q] at h; exact h
    | bad => rw [q] at h; exact h.elim
/-- a def by its name, with keywords -/
structure FnK (P : Program) (wd : World) (K : Fr) (mg : Str → Option Value) (base : Heap) (kl : Nat) (x : Str) (ks : List Str) (n : Nat) (pl : Plan) (ms : List D) (np : Nat) (f : List D → Res D) (k : Ow) : Prop where
  ex : ∃ fa fd ps mV, ∃ mv : List Value, mg x = some (.ref fa) ∧ PySem.W.keepIn K (.ref fa) = true ∧ KBn K fd ps n ks (fun us ws => arr Value.none pl us mv ws) (fun vs zs => arr .non pl vs mV zs) ∧ (∀ B, Reps K B mV ms) ∧ FnOk P wd K mg base (L2.CX P wd) kl fa fd ps (spD K np f k)
theorem run_fnNS {CX : CXT} {fa : Addr} {fd : FuncData} {ps : List Str} {sp : Sp} {g : List Value → List Value → List Value} {gV : List V → List V → List V} {E : XK} {pins : List (Addr × Obj)} {σ : L2.St} {H : Hp} {s : Shared} {Q : VK} {us ws : List Value} {vs zs : List V} (F : FnOk X.prog X.w X.K X.mg X.base CX kl fa fd ps sp) (hr : Room kl X.A) (hb : KBn X.K fd ps n ks g gV) (hx : PassesAt CX X σ E)
    (I : Inv X pins σ H s) (r : Vals vs us) (rz : Vals zs ws) (l1 : vs.length = n) (l2 : zs.length = ks.length) (h : sp (gV vs zs) H Q E) :
    codeAny (model X.prog X.w) X.A (.call (.ref fa) ⟨us, ks.zip ws⟩) (fun r s' => match r with | .ok (.ret u) => EP X pins σ Q u s' | .ok _ => False | .error e => X.xe e s') s := by
  have r2 := hb.rel r rz
  refine codeAny_mono (F.run X.A X.stack s H ⟨us, ks.zip ws⟩ (g us ws) (gV vs zs) Q E hr I.env0 (hb.to s us ws I.kIn (r.length.symm.trans l1) (rz.length.symm.trans l2)) r2 h) fun r s' hq => ?_
  cases r with
  | error e => exact hx pins H s e s' I hq
  | ok fl =>
    cases fl with
    | ret u => exact I.after hq
    | next => exact False.elim hq
    | brk => exact False.elim hq
    | cont => exact False.elim hq
theorem call_of_code {fv : Value} {us : List Value} {kw : List (Str × Value)} {A : Around} {Q : Value → Shared → Prop} {E : Value → Shared → Prop} {s : Shared} {M : Model} (h : codeAny M A (.call fv ⟨us, kw⟩) (fun r s' => match r with | .ok (.ret u) => Q u s' | .ok _ => False | .error e => E e s') s) : wpAny M A (call fv us kw) Q E s :=
  wpAny_call (codeAny_mono h fun r s' hq => by
    cases r with
    | error e => exact hq
    | ok fl =>
      cases fl with
      | ret u => exact hq
      | next => exact False.elim hq
      | brk => exact False.elim hq
      | cont => exact False.elim hq)
theorem len2 {α β : Type} {a : List α} {b : List β} {n : Nat} (h : a.length = b.length) (h2 : b.length = n) : a.length = n := h.trans h2
/-- positional values are there, the keywords' come -/
def midK (K : Fr) (w : List Ow) (W : WX) (k : Ow) (σ : L2.St) (env : Env) (Q : VK) (dk : Env → Res (List D)) (G : List D → List D → Res D) : List V → Hp → Prop := fun vs H1 => ∃ us B1 fp, Rel K w B1 H1 σ env fp ∧ Reps K B1 vs us ∧ AfE K W k B1 σ H1 Q ((dk env).bind fun ws => G us ws)
theorem midK_run {G : List D → List D → Res D} {σ : L2.St} {H : Hp} {Q : VK} {vs : List V} {env : Env} (h : midK K w W k σ env Q dk G vs H) {Q2 : List V → Hp → Prop}
    (go : ∀ us ws zs H2 B2, Ex B2 H2 → Reps K B2 vs us → Reps K B2 zs ws → AfE K W k B2 σ H2 Q (G us ws) → Q2 zs H2) : rdA K w W dk σ H Q2 := by
  obtain ⟨us, B1, fp, R, r, h⟩ := h
  exact rdA_then R h fun ds zs H2 B2 _ g2 R2 r2 h2 => go us ds zs H2 B2 R2.s (Reps.mono g2.b r) r2 h2
theorem e_callK (F : FnK X.prog X.w X.K X.mg X.base kl x ks n pl ms np f k) (hr : Room kl X.A) (tk : Takes X W) (ha : PA X (e :: es) (rdA K w W da)) (hkw : PK X kws (rdA K w W dk)) (hK : X.K = K := by rfl) (hg : Gl X x := by rfl) (hnp : pl.length = np := by rfl)
    (hall : (backToKw pos (keywordEach kws X.env)).all (·.1.isSome) = true := by rfl) (hks : (backToKw pos (keywordEach kws X.env)).filterMap (·.1) = ks := by rfl)
    (hdb : (x == ("__debug__" : Str)) = false := by decide) (he : starEach (e :: es) X.env = (false, eval e X.env) :: starEach es X.env := by rfl)
    (hpl : ((backTo pos (starEach (e :: es) X.env)).any (·.1) || (backToKw pos (keywordEach kws X.env)).any (·.1.isNone)) = false := by rfl) :
    PE X (.Call (.Name x p) (e :: es) kws pos) (rdE K w W (dkw pl n ks.length ms f da dk) k) := by
  subst hK
  obtain ⟨fa, fd, ps, mV, mv, hm, hk, hb, hr', F⟩ := F.ex
  refine ⟨fun pins s σ H Q I h => ?_⟩
  refine wpAny_Call_Name_kw (ld_glob I hg hm ?_ hdb)
  obtain ⟨B, env, fp, R, h⟩ := h
  refine PySem.W.callWith_KW (h₀ := X.base) I.ok.mod.kin hk hall (thn (ha.run pos pins s σ H (midK X.K w W k σ env Q dk fun us ws => if us.length = n ∧ ws.length = ks.length then f (arr D.non pl us ms ws) else .bad) I ?_) fun us s1 ⟨vs, H1, I1, r, q⟩ => ?_) hpl he
  · exact rdA_then R h fun ds vs H1 B1 ed g1 R1 r1 h1 => ⟨ds, B1, fp, R1, r1, h1⟩
  · refine thn (hkw.run pos pins s1 σ H1 (fun zs H2 => vs.length = n ∧ zs.length = ks.length ∧ spD X.K np f k (arr .non pl vs mV zs) H2 Q (WE W σ)) I1 (midK_run q fun us ws zs H2 B2 s2 r1 r2 h2 => ?_)) fun ws s2 ⟨zs, H2, I2, rz, l1, l2, q2⟩ => ⟨I2.kIn, ?_⟩
    · obtain ⟨⟨l1, l2⟩, h2⟩ := AfE.iff h2
      exact ⟨by rw [r1.length]; exact l1, by rw [r2.length]; exact l2, B2, _, s2, Reps.arr r1 (hr' B2) r2, by simp [arr, hnp], AfE.sl h2⟩
    · rw [hks]
      exact call_of_code (run_fnNS F hr hb (passAt tk σ) I2 r rz l1 l2 q2)

/-! ### classmethods -/
/-- a classmethod's promise: the class stands first -/
def spC (K : Fr) (c : Str) (n : Nat) (f : List D → Res D) (k : Ow) : Sp := fun vs H Q E => ∃ B us ds, vs = .ref (He.ga K c) :: us ∧ Ex B H ∧ Reps K B us ds ∧ ds.length + 1 = n ∧ AfE K (fun cls d _ H' => E cls d H') k B [] H Q (f (.exn c [] :: ds))
structure Cm (P : Program) (wd : World) (K : Fr) (mg : Str → Option Value) (base : Heap) (kl : Nat) (c m : Str) (ks : List Str) (n : Nat) (pl : Plan) (ms : List D) (np : Nat) (f : List D → Res D) (k : Ow) : Prop where
  ex : ∃ fa pr fd ps mV, ∃ mv : List Value, mg c = some (.ref (He.ga K c)) ∧ ClX.CRead K (He.ga K c) (.type "type") ∧ ClX.CMet K (He.ga K c) (.type "type") m pr fa ∧ KBn K fd ps n ks (fun us ws => arr Value.none pl us mv ws) (fun vs zs => arr .non pl vs mV zs) ∧ (∀ B, Reps K B mV ms) ∧ FnOk P wd K mg base (L2.CX P wd) kl fa fd ps (spC K c np f k)
/-- C.m(e, .., k = v, ..): the class's place in the data holds nothing -/
def dcm (c : Str) (pl : Plan) (n m : Nat) (ms : List D) (f : List D → Res D) (da dk : Env → Res (List D)) : Env → Res D := fun env => (da env).bind fun us => (dk env).bind fun ws => if us.length + 1 = n ∧ ws.length = m then f (arr D.non pl (.exn c [] :: us) ms ws) else .bad
@[simp] theorem dcm_ev (c : Str) (pl : Plan) (n m : Nat) (ms : List D) (f : List D → Res D) (da dk : Env → Res (List D)) (env : Env) : dcm c pl n m ms f da dk env = (da env).bind fun us => (dk env).bind fun ws => if us.length + 1 = n ∧ ws.length = m then f (arr D.non pl (.exn c [] :: us) ms ws) else .bad := rfl
theorem e_cmeth {c m : Str} {pl0 : Sem Bool} (F : Cm X.prog X.w X.K X.mg X.base kl c m ks n pl ms np f k) (hr : Room kl X.A) (tk : Takes X W) (ha : PA X (e :: es) (rdA K w W da)) (hkw : PK X kws (rdA K w W dk)) (hK : X.K = K := by rfl) (hg : Gl X c := by rfl) (hnp : pl.length = np := by rfl) (hp0 : ∃ r, pl = (0, 0) :: r := by exact ⟨_, rfl⟩)
    (hall : (backToKw pos (keywordEach kws X.env)).all (·.1.isSome) = true := by rfl) (hks : (backToKw pos (keywordEach kws X.env)).filterMap (·.1) = ks := by rfl)
    (hdb : (c == ("__debug__" : Str)) = false := by decide) (he : starEach (e :: es) X.env = (false, eval e X.env) :: starEach es X.env := by rfl)
    (hpl : ((backTo pos (starEach (e :: es) X.env)).any (·.1) || (backToKw pos (keywordEach kws X.env)).any (·.1.isNone)) = false := by rfl)
    (ht : eval (.Call (.Attribute (.Name c p) m apos) (e :: es) kws pos) X.env = (do
      let ov ← eval (.Name c p) X.env
      standAt apos.atName
      let (f, first) ← holding [ov] (getMethod ov m pl0)
      callWith pos f first (backTo pos (starEach (e :: es) X.env)) (backToKw pos (keywordEach kws X.env))) := by rfl) :
    PE X (.Call (.Attribute (.Name c p) m apos) (e :: es) kws pos) (rdE K w W (dcm c pl n ks.length ms f da dk) k) := by
  subst hK
  obtain ⟨fa, pr, fd, ps, mV, mv, hm, rd, cm, hb, hr', F⟩ := F.ex
  refine ⟨fun pins s σ H Q I h => ?_⟩
  refine PySem.W.methodCall_KW (pl := pl0) (ld_glob I hg hm ?_ hdb) ht
  obtain ⟨B, env, fp, R, h⟩ := h
  refine ClX.getmethcm_ok I rd cm fun s2 I2 => ?_
  have hq : X.base.get? s.heap.objs.size = none := ClX.base_none I (Nat.le_refl _)
  refine PySem.W.callWith_of (P := PySem.W.MethP X.K s.heap.objs.size fa (.ref (He.ga X.K c))) hpl (PySem.W.keeps_M cm.fi) (evalArgs_kw2 hall (thn (ha.run pos _ s2 σ H (midK X.K w W k σ env Q dk fun us ws => if us.length + 1 = n ∧ ws.length = ks.length then f (arr D.non pl (.exn c [] :: us) ms ws) else .bad) I2 ?_) fun us s3 ⟨vs, H1, I3, r, q⟩ => ?_) he)
  · exact rdA_then R h fun ds vs H1 B1 ed g1 R1 r1 h1 => ⟨ds, B1, fp, R1, r1, h1⟩
  · refine thn (hkw.run pos _ s3 σ H1 (fun zs H2 => (.ref (He.ga X.K c) :: vs).length = n ∧ zs.length = ks.length ∧ spC X.K c np f k (arr .non pl (.ref (He.ga X.K c) :: vs) mV zs) H2 Q (WE W σ)) I3 (midK_run q fun us ws zs H2 B2 s2 r1 r2 h2 => ?_)) fun ws s4 ⟨zs, H2, I4, rz, l1, l2, q2⟩ => ⟨⟨ClX.pin_at I4, I4.kIn⟩, ?_⟩
    · obtain ⟨⟨l1, l2⟩, h2⟩ := AfE.iff h2
      obtain ⟨pr, rfl⟩ := hp0
      exact ⟨by rw [List.length_cons, r1.length]; exact l1, by rw [r2.length]; exact l2, B2, _, _, rfl, s2, Reps.arr (pl := pr) (.cons .exn r1) (hr' B2) r2, by rw [← hnp]; simp [arr], AfE.sl h2⟩
    · rw [hks]
      show wpAny _ _ (call (.ref s.heap.objs.size) ([] ++ us) (ks.zip ws)) _ _ _
      have z : wpAny (model X.prog X.w) X.A (call (.ref s.heap.objs.size) us (ks.zip ws)) (EP X ((s.heap.objs.size, PySem.W.methodObj (.ref fa) (.ref (He.ga X.K c))) :: pins) σ Q) X.xe s4 :=
        call_of_code (PySem.W.method_call (ClX.pin_at I4) (run_fnNS (us := .ref (He.ga X.K c) :: us) (vs := .ref (He.ga X.K c) :: vs) F hr hb (passAt tk σ) I4 (.cons rfl r) rz l1 l2 q2))
      exact thn z fun _ _ y => ClX.unpinE y
/-- the call of the class at C, as a value -/
theorem call_cls {CX : CXT} {C fa : Addr} {fd : FuncData} {ps : List Str} {sp : Sp} {dV : List V} {us ws : List Value} {E : XK} {pins : List (Addr × Obj)} {σ : L2.St} {H : Hp} {s : Shared} {Q : VK} {vs : List V} (M : L2.Mk X.K C fa) (F : FnOk X.prog X.w X.K X.mg X.base CX kl fa fd ps sp) (hr : Room (kl + 1) X.A)
    (hb : Binds X.K fd ps us) (hd : Vals dV us) (hx : PassesAt CX X σ E) (I1 : Inv X pins σ H s) (r : Vals vs ws)
    (q : ∀ x dx, H x = none → H dx = none → dx ≠ x → sp (.ref x :: (vs ++ dV)) (upd (upd H dx (.own x)) x (.ins C dx [])) (fun v H2 => v = .non ∧ Q (.ref x) H2) E) : wpAny (model X.prog X.w) X.A (call (.ref C) ws) (EP X pins σ Q) X.xe s := by
  have hq := q (s.heap.objs.size + 1) s.heap.objs.size (I1.hok.fresh (Nat.le_succ _)) (I1.hok.fresh (Nat.le_refl _)) (Nat.ne_of_lt (Nat.lt_succ_self _))
  have I2 := Inv.made (C := C) I1
  have r2 : Vals (V.ref (s.heap.objs.size + 1) :: (vs ++ dV)) (Value.ref (s.heap.objs.size + 1) :: (ws ++ us)) := .cons rfl (r.append hd)
  have hl : (Value.ref (s.heap.objs.size + 1) :: ws ++ us).length = ps.length := (F.len _ _ _ _ hq ▸ r2.length).symm
  refine wpAny_call (make_map (f := fa) I1.kIn M.makes M.init (beq_iff_eq.mp M.fn) (codeAny_mono (F.run _ X.stack _ _ ⟨Value.ref (s.heap.objs.size + 1) :: ws, []⟩ (Value.ref (s.heap.objs.size + 1) :: (ws ++ us)) _ _ E (hr.make C ws [])
    (I2.env0.make C ws []) (hb _ (Value.ref (s.heap.objs.size + 1) :: ws) I2.kIn hl) r2 hq) fun rr s' hq' => ?_))
  cases rr with
  | error e => exact hx pins _ _ e s' I2 hq'
  | ok fl =>
    cases fl with
    | ret u =>
      obtain ⟨v, H', I3, rv, ev, q3⟩ := I2.after hq'
      subst ev
      exact ⟨rv, ⟨V.ref (s.heap.objs.size + 1), H', I3, rfl, q3⟩⟩
    | next => exact False.elim hq'
    | brk => exact False.elim hq'
    | cont => exact False.elim hq'
/-- what a made instance gives back -/
theorem made_sp {c : Str} {nn : Nat} {dV : List V} {dvs : List D} {f : List D → Res (List (Str × D))} {B H : Hp} {σ : L2.St} {Q : VK} {vs : List V} {ds : List D} (s : Ex B H) (r1 : Reps K B vs ds) (hr' : ∀ B, Reps K B dV dvs) (h1 : AfE K W .i B σ H Q (mkD c nn dvs f ds)) :
    ∀ x dx, H x = none → H dx = none → dx ≠ x → spI K c nn f (.ref x :: (vs ++ dV)) (upd (upd H dx (.own x)) x (.ins (He.ga K c) dx [])) (fun v H2 => v = .non ∧ Q (.ref x) H2) (WE W σ) := fun x dx hx hdx ne => by
  obtain ⟨hl, h1⟩ := AfE.iff h1
  have bx : B x = none := s.back hx
  have old : ∀ a o, H a = some o → (upd (upd H dx (.own x)) x (.ins (He.ga K c) dx [])) a = some o := fun a o ea => by
    rw [upd_ne (ne_of_none ea hx), upd_ne (ne_of_none ea hdx)]; exact ea
  have hl' : ∀ a, H a ≠ none → (upd (upd H dx (.own x)) x (.ins (He.ga K c) dx [])) a ≠ none := fun a ha z => ha (by
    cases q : H a with
    | none => rfl
    | some o => rw [old a o q] at z; cases z)
  refine ⟨B, ds ++ dvs, x, dx, vs ++ dV, rfl, upd_same, bx, fun a o ea => old a o (s a o ea), r1.append (hr' B), hl, ?_⟩
  have grow : ∀ {H' B' : Hp}, GrX x B (upd (upd H dx (.own x)) x (.ins (He.ga K c) dx [])) B' H' → Gr B H B' H' := fun {H' B'} g => ⟨g.b, fun a o ea => g.h a o (ne_of_none ea hx) (old a o ea), g.s, fun a ha => g.f a (fun z => ha (by rw [z]; exact hx)) (hl' a ha)⟩
  cases e : f (ds ++ dvs) with
  | ok fs =>
    rw [e] at h1
    exact fun H' B' dx' fvs g bx' hx' rf => ⟨rfl, h1 (.ref x) H' B' [x] (grow g) ⟨x, dx', fvs, c, fs, rfl, rfl, hx', rf, rfl⟩ (by simp) fun a ha => by
      have q : a = x := by simpa using ha
      subst q
      exact ⟨hx, bx'⟩⟩
  | exc e gs => rw [e] at h1; exact fun H' B' dct g r => h1 H' B' dct (grow g) r
  | bad => rw [e] at h1; exact h1.elim
def dcls (i : Nat) (a : Env → Res D) : Env → Res D := fun env => match env[i]? with
  | some (some _) => a env
  | _ => .bad
/-- cls(e, ..) within a classmethod: cls stands at slot i -/
theorem e_makeC (i : Nat) {nn : Nat} {c y : Str} {dvs : List D} {f : List D → Res (List (Str × D))} (F : Mc X.prog X.w X.K X.mg X.base kl c nn dvs f) (hr : Room (kl + 1) X.A) (tk : Takes X W) (ha : PA X (e :: es) (rdA K w W da)) (hw : w.getD i .z = .ex (He.ga K c) (He.ga K c) := by rfl) (hK : X.K = K := by rfl) (hN : X.N[i]? = some y := by rfl)
    (hv : Vis X.env.scope y := by first | exact Or.inl rfl | exact Or.inr (Or.inl rfl) | exact Or.inr (Or.inr rfl)) (hd : (y == ("__debug__" : Str)) = false := by decide) (hcd : (y == ("__classdict__" : Str)) = false := by decide)
    (he : starEach (e :: es) X.env = (false, eval e X.env) :: starEach es X.env := by rfl) (hpl : (backTo pos (starEach es X.env)).any (·.1) = false := by rfl) : PE X (.Call (.Name y p) (e :: es) [] pos) (rdE K w W (dcls i (dcall (mkD c nn dvs f) da)) .i) := by
  subst hK
  obtain ⟨fa, fd, ps, dV, us, hm, M, hb, hvv, hr', F⟩ := F.ex
  refine ⟨fun pins s σ H Q I ⟨B, env, fp, R, h⟩ => ?_⟩
  unfold dcls at h
  cases q : env[i]? with
  | none => rw [q] at h; exact h.elim
  | some o =>
    cases o with
    | none => rw [q] at h; exact h.elim
    | some d =>
      rw [q] at h
      obtain ⟨v, hσ, rv⟩ := R.sl i d q
      rw [hw] at rv
      obtain ⟨ev, _, _⟩ := rv
      subst ev
      refine wpAny_Call_Name_kw (thn ((pe_var hN hv hd hcd).run pins s σ H (fun x H1 => x = .ref (He.ga X.K c) ∧ rdA X.K w W da σ H1 fun vs H2 => ∃ B2 ds, Ex B2 H2 ∧ Reps X.K B2 vs ds ∧ AfE X.K W .i B2 σ H2 Q (mkD c nn dvs f ds)) I ⟨_, hσ, rfl, ?_⟩) fun u s1 ⟨x, H1, I1, rx, ex, q1⟩ => ?_)
      · exact rdA_then R h fun ds vs H1 B1 ed g1 R1 r1 h1 => ⟨B1, ds, R1.s, r1, h1⟩
      · subst ex
        obtain rfl : u = Value.ref (He.ga X.K c) := rx
        exact PySem.W.callWith_K (h₀ := X.base) I1.ok.mod.kin M.kp (thn (ha.run pos pins s1 σ H1 _ I1 q1) fun ws s2 ⟨vs, H2, I2, r, B2, ds, sx, rr, h2⟩ => ⟨I2.kIn, call_cls M F hr hb hvv (passAt tk σ) I2 r (made_sp sx rr hr' h2)⟩) he hpl
end
section
variable {P : Program} {wd : World} {K : Fr} {mg : Str → Option Value} {base : Heap} {k : Ow} {n : Nat} {w w1 : List Ow}
/-- a classmethod keeps its promise -/
theorem cm_ok {c : Str} {x qual : Str} {params : Arguments} {body : List Stmt} {scope : Scope} {dV : List V} {kws : List (Str × V)} {f : Addr} {fd : FuncData} {N ps : List Str} {kl : Nat} {b : Env → Out} (F : FunD K x qual params body scope dV kws f fd) (S : FnScope N ps scope) (hw : w = zs w.length) (hn : ps.length = n)
    (hb : ∀ (cdv : Value) (A : Around) (outer : List PySem.Env) (s : Shared) (H : Hp) (E : XK), Room kl (A.deeper (envOfC qual scope s.heap.objs.size f cdv)) → PSs (cxOf (L2.CX P wd) P wd K mg base N qual scope f cdv A outer s H E) body (rdS K (.ex (He.ga K c) (He.ga K c) :: w) (WE' E) b ⟨w1, [], [], k⟩)) :
    FnOk P wd K mg base (L2.CX P wd) (kl + 1) f fd ps (spC K c n (runD k N.length b) k) := by
  refine F.ok S (fun vs H Q E ⟨B, us, ds, ev, s, r, hl, h⟩ => by rw [ev, List.length_cons, r.length, hl, hn]) fun cdv A outer s H vs Q E hr ⟨B, us, ds, ev, sx, r, hl, h⟩ => ?_
  subst ev
  have rel : Rel K (.ex (He.ga K c) (He.ga K c) :: w) B H (L2.start N (.ref (He.ga K c) :: us)) (startE N.length (.exn c [] :: ds)) fun _ => [] := by
    have R := start_rel (N := N) (w := zs (w.length + 1)) sx (r := Reps.cons (v := .non) (d := .non) .non r) fun j => zs_getD _ _
    have e1 : start N (.ref (He.ga K c) :: us) = (L2.start N (.non :: us)).set 0 (some (.ref (He.ga K c))) := by simp [L2.start]
    have e2 : startE N.length (.exn c [] :: ds) = (startE N.length (.non :: ds)).set 0 (some (.exn c [])) := by simp [startE]
    rw [e1, e2]
    have Z := R.set (w' := .ex (He.ga K c) (He.ga K c) :: w) (i := 0) (k := .ex (He.ga K c) (He.ga K c)) (f := []) (v := .ref (He.ga K c)) (d := .exn c []) (by simp [startE]) ⟨rfl, ⟨c, [], rfl, rfl⟩, rfl⟩ List.nodup_nil (fun a ha => by cases ha) (fun j _ a ha => by cases ha) fun j => by
      cases j with
      | zero => rfl
      | succ j =>
        rw [if_neg (Nat.succ_ne_zero j), zs_getD]
        show w.getD j .z = .z
        rw [hw]; exact zs_getD _ _
    have e : (fun j => if j = 0 then ([] : List Addr) else []) = fun _ => [] := funext fun j => by split <;> rfl
    rw [e] at Z
    exact Z
  exact ⟨_, hb cdv A outer s H E hr, B, H, B, _, ⟨_, rel, Ex.rfl' _, Ex.rfl' _, fun _ _ => rfl, fun _ a ha => by cases ha⟩, run_AfS h rfl rfl⟩
end
end Fz
set_option Elab.async false
set_option linter.all false
set_option maxRecDepth 100000
set_option maxHeartbeats 4000000
/-! Functionalization: the head's facts, more of them; how a def reads them. -/
namespace Fz
open PySem PySem.Spec PyProof.Rows L2

/-- more facts: an imported built-in; an exception class that isinstance asks; what isinstance says of two classes -/
inductive Fb where
  | blt (x : Str) (id : String)
  | exC (x : Str)
  | kit (x y : Str) (b : Bool)
  | ins (x : Str)
  | cm (x m : Str)
def Fb.ok (K : Fr) : Fb → Bool
  | .blt x id => He.eqO (PySem.W.nsIn K mainGlobals x) (some (some (.builtin id)))
  | .exC x => He.eqO (PySem.W.findIn K (.ref (He.ga K x)) "__getattribute__") (some (some (.builtin "BaseException.__getattribute__"))) && (He.eqO (PySem.W.findIn K (.ref (He.ga K x)) "__getattr__") (some none) &&
      (decide (PySem.W.subIn K (.ref (He.ga K x)) (.type "BaseException") = some true) && (PySem.W.hasDictIn K (He.ga K x) && (He.eqO (PySem.W.findIn K (.ref (He.ga K x)) "__class__") (some (some (.builtin "object.__class__"))) &&
      (He.eqO (PySem.W.specialIn K (.builtin "object.__class__") "__get__") (some (some (.builtin "getset_descriptor.__get__"))) && (decide (PySem.W.takesIn K (.builtin "object.__class__") = some true) && decide (PySem.W.mroIn K (He.ga K x) (.type "object") = some true)))))))
  | .kit x y b => decide (PySem.W.kitOne K (.ref (He.ga K x)) (.ref (He.ga K y)) = some b)
  | .ins x => He.eqO (PySem.W.findIn K (.ref (He.ga K x)) "__class__") (some (some (.builtin "object.__class__"))) && (He.eqO (PySem.W.specialIn K (.builtin "object.__class__") "__get__") (some (some (.builtin "getset_descriptor.__get__"))) &&
      (decide (PySem.W.takesIn K (.builtin "object.__class__") = some true) && decide (PySem.W.mroIn K (He.ga K x) (.type "object") = some true)))
  | .cm x m => He5.wrapB K (He.ga K x) "classmethod" "classmethod.__get__" m && (PySem.W.fnIn K (He5.wf K (He.ga K x) "classmethod" m) && PySem.W.readsIn K (He.ga K x) (.type "type"))
theorem reads_ga {K : Fr} {C : Addr} (h : PySem.W.readsIn K C (.type "type") = true) : ClX.CRead K C (.type "type") := by
  refine ⟨h, ?_⟩
  unfold PySem.W.readsIn at h
  obtain ⟨h, _⟩ := He.ba h
  obtain ⟨h, _⟩ := He.ba h
  obtain ⟨h, h3⟩ := He.ba h
  obtain ⟨_, h2⟩ := He.ba h
  unfold PySem.W.specialIn
  rw [beq_iff_eq.mp h2, Option.bind_some, beq_iff_eq.mp h3]
theorem Fb.cm_ok {K : Fr} {x m : Str} (h : (Fb.cm x m).ok K = true) : ClX.CRead K (He.ga K x) (.type "type") ∧ ClX.CMet K (He.ga K x) (.type "type") m (He.ma K (He.ga K x) m) (He5.wf K (He.ga K x) "classmethod" m) := by
  obtain ⟨h1, h⟩ := He.ba h
  obtain ⟨h2, h3⟩ := He.ba h
  obtain ⟨k1, k2⟩ := He5.wrapB_ok h1
  exact ⟨reads_ga h3, ⟨k1, k2, h2⟩⟩
theorem Fb.exC_ok {K : Fr} {x : Str} (h : (Fb.exC x).ok K = true) : ExcC K (He.ga K x) := by
  obtain ⟨h1, h⟩ := He.ba h
  obtain ⟨h2, h⟩ := He.ba h
  obtain ⟨h3, h⟩ := He.ba h
  obtain ⟨h4, h⟩ := He.ba h
  obtain ⟨h5, h⟩ := He.ba h
  obtain ⟨h6, h⟩ := He.ba h
  obtain ⟨h7, h8⟩ := He.ba h
  exact ⟨He.eqO_ok h1, He.eqO_ok h2, of_decide_eq_true h3, h4, He.eqO_ok h5, He.eqO_ok h6, of_decide_eq_true h7, of_decide_eq_true h8⟩
def exB (fb : List Fb) (K : Fr) : Bool := fb.all fun f => f.ok K
def clsB : Stmt → List Stmt
  | .ClassDef (body := b) .. => b
  | _ => []
/-! ### the Hook -/
def obsM (fm : List He5.DefA) (K : Fr) : Bool × List He5.FnW := (fm.all fun d => d.ok K, fm.map fun d => He5.fnA K (d.at_ K))
def valM (fm : List He5.DefA) : Bool × List He5.FnW := (true, fm.map He5.DefA.val)
abbrev AlZ : Type := He.AlD × (Bool × (Bool × List He5.FnW))
def obsZ (n : Nat) (fa : List He.Fa) (fn : List He.DefD) (fb : List Fb) (fm : List He5.DefA) (g : Addr → Option Obj) : AlZ := (He.obsD fa fn (He.frG g (He5.asA g n)), exB fb (He.frG g (He5.asA g n)), obsM fm (He.frG g (He5.asA g n)))
def hookZ (n : Nat) (fa : List He.Fa) (fn : List He.DefD) (fb : List Fb) (fm : List He5.DefA) : PySem.W.Hook where
  α := AlZ
  obs := fun s => obsZ n fa fn fb fm s.heap.get?
  val := fun _ => (He.valD fn, true, valM fm)
  says := fun _ h => ∃ K : Fr, K.In h ∧ He.SaysD fa fn K ∧ exB fb K = true ∧ obsM fm K = valM fm
  of := fun _ _ e => ⟨_, He.frG_in, congrArg (fun z : AlZ => z.1) e, congrArg (fun z : AlZ => z.2.1) e, congrArg (fun z : AlZ => z.2.2) e⟩
  keeps := fun _ _ _ ⟨K, hK, c⟩ k => ⟨K, PySem.W.Frag.In.keeps hK k, c⟩
theorem obsZ_eq {n : Nat} {fa : List He.Fa} {fn : List He.DefD} {fb : List Fb} {fm : List He5.DefA} {g : Addr → Option Obj} {s : Shared} (h : ∀ a, g a = s.heap.get? a) : obsZ n fa fn fb fm g = (hookZ n fa fn fb fm).obs s := by
  have e : g = s.heap.get? := funext h
  rw [e] <;> rfl
/-! ### what the defs read -/
structure Ctx (fa : List He.Fa) (fn : List He.DefD) (fb : List Fb) (fm : List He5.DefA) (K : Fr) (mg : Str → Option Value) : Prop where
  hp : ∃ h : Heap, K.In h ∧ h.Ns mainGlobals mg
  c : He.SaysD fa fn K
  x : exB fb K = true
  m : obsM fm K = valM fm
section
variable {fa : List He.Fa} {fn : List He.DefD} {fb : List Fb} {fm : List He5.DefA} {K : Fr} {mg : Str → Option Value}
theorem Ctx.glo (C : Ctx fa fn fb fm K mg) (i : Nat) {x : Str} (h : fa[i]? = some (.glo x) := by rfl) : mg x = some (.ref (He.ga K x)) := let ⟨_, X, G⟩ := C.hp; He.glo_ok X G (C.c.fact i h)
theorem Ctx.free (C : Ctx fa fn fb fm K mg) (i : Nat) {x : Str} (h : fa[i]? = some (.free x) := by rfl) : mg x = none := let ⟨_, X, G⟩ := C.hp; He.free_ok X G (C.c.fact i h)
theorem Ctx.int (C : Ctx fa fn fb fm K mg) (i : Nat) {x : Str} {j : Int} (h : fa[i]? = some (.int x j) := by rfl) : ∃ t, mg x = some (.int j t) := let ⟨_, X, G⟩ := C.hp; He.int_ok X G (C.c.fact i h)
theorem Ctx.cls (C : Ctx fa fn fb fm K mg) (i : Nat) {x : Str} (h : fa[i]? = some (.cls x) := by rfl) : Cls K (He.ga K x) := He.cls_ok (C.c.fact i h)
theorem Ctx.noat (C : Ctx fa fn fb fm K mg) (i : Nat) {x f : Str} (h : fa[i]? = some (.noat x f) := by rfl) : NoAttr K (He.ga K x) f := He.noat_ok (C.c.fact i h)
theorem Ctx.meth (C : Ctx fa fn fb fm K mg) (i : Nat) {x m : Str} (h : fa[i]? = some (.meth x m) := by rfl) : Meth K (He.ga K x) m (He.ma K (He.ga K x) m) := He.meth_ok (C.c.fact i h)
theorem Ctx.mkr (C : Ctx fa fn fb fm K mg) (i : Nat) {x : Str} (h : fa[i]? = some (.mkr x) := by rfl) : Mk K (He.ga K x) (He.ma K (He.ga K x) "__init__") := He.mkr_ok (C.c.fact i h)
theorem Ctx.exm (C : Ctx fa fn fb fm K mg) (i : Nat) {x y : Str} {b : Bool} (h : fa[i]? = some (.exm x y b) := by rfl) : PySem.W.exmOne K (.ref (He.ga K x)) (.ref (He.ga K y)) = some b := He.exm_ok (C.c.fact i h)
theorem Ctx.more (C : Ctx fa fn fb fm K mg) (i : Nat) {f : Fb} (h : fb[i]? = some f) : f.ok K = true := List.all_eq_true.mp C.x f (List.mem_of_getElem? h)
theorem Ctx.blt (C : Ctx fa fn fb fm K mg) (i : Nat) {x : Str} {id : String} (h : fb[i]? = some (.blt x id) := by rfl) : mg x = some (.builtin id) := let ⟨_, X, G⟩ := C.hp; PySem.W.mg_of X G (He.eqO_ok (C.more i h))
theorem Ctx.exC (C : Ctx fa fn fb fm K mg) (i : Nat) {x : Str} (h : fb[i]? = some (.exC x) := by rfl) : ExcC K (He.ga K x) := Fb.exC_ok (C.more i h)
theorem Ctx.kit (C : Ctx fa fn fb fm K mg) (i : Nat) {x y : Str} {b : Bool} (h : fb[i]? = some (.kit x y b) := by rfl) : PySem.W.kitOne K (.ref (He.ga K x)) (.ref (He.ga K y)) = some b := of_decide_eq_true (C.more i h)
theorem Ctx.ins (C : Ctx fa fn fb fm K mg) (j : Nat) (i : Nat) {x : Str} (h : fb[i]? = some (.ins x) := by rfl) (hj : fa[j]? = some (.cls x) := by rfl) : InsK K x := by
  obtain ⟨h1, q⟩ := He.ba (C.more i h)
  obtain ⟨h2, q⟩ := He.ba q
  obtain ⟨h3, h4⟩ := He.ba q
  exact ⟨C.cls j hj, He.eqO_ok h1, He.eqO_ok h2, of_decide_eq_true h3, of_decide_eq_true h4⟩
theorem Ctx.cm (C : Ctx fa fn fb fm K mg) (i : Nat) {x m : Str} (h : fb[i]? = some (.cm x m) := by rfl) : ClX.CRead K (He.ga K x) (.type "type") ∧ ClX.CMet K (He.ga K x) (.type "type") m (He.ma K (He.ga K x) m) (He5.wf K (He.ga K x) "classmethod" m) := Fb.cm_ok (C.more i h)
theorem Ctx.defM (C : Ctx fa fn fb fm K mg) (i : Nat) {d : He5.DefA} (h : fm[i]? = some d) : ∃ fd, L2.FunD K d.name d.qual d.params d.body d.scope (d.dvs K) (d.kws K) (d.at_ K) fd := by
  obtain ⟨e1, e2⟩ := Prod.mk.inj C.m
  refine d.funD ?_ (List.all_eq_true.mp e1 d (List.mem_of_getElem? h))
  have q := congrArg (fun l => l[i]?) e2
  simp only [List.getElem?_map, h, Option.map_some] at q
  exact Option.some.inj q
theorem Ctx.rse {X : Cx} (C : Ctx fa fn fb fm X.K X.mg) (g i : Nat) {x m : Str} {j : Nat} {p p2 pos : Pos} (hg : fa[g]? = some (.glo x) := by rfl) (h : fa[i]? = some (.exc x) := by rfl) (hgl : Gl X x := by rfl) (hdb : (x == ("__debug__" : Str)) = false := by decide) :
    PMk X (.Call (.Name x p) [.Constant (.str m) j p2] [] pos) (fun _ H Q => Q (.ref (He.ga X.K x)) none H) := by
  obtain ⟨h1, h2, h3, h4⟩ := He.exc_ok (C.c.fact i h)
  exact pmk_own PySem.F.excBase_ValueError h1 (C.glo g hg) h2 (raises_own h3 h4) hgl hdb
theorem Ctx.fld (C : Ctx fa fn fb fm K mg) {f : Str} : FldOk K [] f := fun _ h => by cases h
theorem FldOk.cons {c f : Str} {cs : List Str} (h1 : Cls K (He.ga K c)) (h2 : NoAttr K (He.ga K c) f) (r : FldOk K cs f) : FldOk K (c :: cs) f := fun d hd => by
  rcases List.mem_cons.mp hd with e | hd
  · rw [e]; exact ⟨h1, h2⟩
  · exact r d hd
theorem FldOk.nil {f : Str} : FldOk K [] f := fun _ h => by cases h
theorem takes_WF {X : Cx} : Takes X WF := fun u s' ⟨_, _, _, _, _, _, _, _, _, _, _, _, _, _, _, _, w⟩ => w.elim
theorem takes_E {X : Cx} {E : XK} {E₁ : Value → Shared → Prop} (hs : X.stack = X.env :: X.outer) (hf : X.env.frame = some X.env.locals) (hex : X.ex = [])
    (hx : X.xe = fun e s' => wpAny (model X.prog X.w) X.A (leaving X.env e) (fun _ s'' => CX X.prog X.w X.outer X.H_0 X.s_0 E e s'') E₁ s') : Takes X (WE' E) := takes_of hs hf hex hx
end
/-- an item of a list of one's own, its items frozen -/
def oIxO (i : Nat) (di : Env → Res D) : Env → Res D := fun env => match env[i]? with
  | some (some (.lst xs)) => (di env).bind fun j => oIx (.lst xs) j
  | _ => .bad
section
variable {X : Cx} {K : Fr} {W : WX} {w : List Ow}
theorem e_ixO (i : Nat) {n : Str} {ix : Expr} {di : Env → Res D} {npos pos : Pos} (hx : PE X ix (rdE K w W di .z)) (hw : w.getD i .z = .l .z := by rfl) (hN : X.N[i]? = some n := by rfl) (hv : Vis X.env.scope n := by first | exact Or.inl rfl | exact Or.inr (Or.inl rfl) | exact Or.inr (Or.inr rfl))
    (hd : (n == ("__debug__" : Str)) = false := by decide) (hcd : (n == ("__classdict__" : Str)) = false := by decide) (hp : PlainIx ix := by exact fun _ _ => rfl) (hK : X.K = K := by rfl) : PE X (.Subscript (.Name n npos) ix pos) (rdE K w W (oIxO i di) .z) := by
  subst hK
  refine PE_weak (pe_ix ix_seq (pe_var hN hv hd hcd) hx hp) fun σ H Q ⟨B, env, fp, R, h⟩ => ?_
  unfold oIxO at h
  split at h
  · rename_i xs e1
    obtain ⟨p, vs, ds, fs, ed, hp, hH, ro, ef⟩ := R.own hw e1
    cases ed
    obtain ⟨rs, _⟩ := ROs.z ro
    refine ⟨.ref p, hp, rdE_then R h fun d v H1 B1 _ g1 R1 r1 h1 => ?_⟩
    cases r1 with
    | int j =>
      obtain ⟨d, hd, h1⟩ := AfE.opt (show AfE X.K W .z B1 σ H1 Q (match atI xs j with | some d => .ok d | none => .bad) from h1)
      obtain ⟨u, hu, ru⟩ := rs.atI hd
      exact .inl ⟨p, vs, j, u, rfl, rfl, SqL.of (g1.h _ _ hH), hu, AfE.val R1.s h1 (ru.mono g1.b)⟩
    | _ => exact h1.elim
  · exact h.elim
variable {k : Ow} {st : Stmt} {pos : Pos} {bk ct : List Ow} {rt : Ow} {tg iter : Expr} {di : Env → Res (List D)} {dg : D → Env → Option Env}
/-- [] of any kind -/
theorem e_lst0 {pos : Pos} : PE X (.List [] pos) (rdE K w W (dcall oLst dnil) (.l k)) := PE_weak (pe_lst pa_nil) fun σ H Q ⟨B, env, fp, R, h⟩ => by
  have h : AfE K W (.l k) B σ H Q (.ok (.lst [])) := h
  exact ⟨Nat.zero_le _, fun p hp => h (.ref p) _ B [p] (Gr.out R.s hp) ⟨p, [], [], [], rfl, rfl, upd_same, .nil, rfl⟩ (by simp) fun a ha => by
    have q : a = p := by simpa using ha
    subst q
    exact ⟨hp, R.s.back hp⟩⟩
/-- name = [..], the list frozen -/
theorem s_setLcz (i : Nat) {y : Str} {elt : Expr} {ifs : List Expr} {scope : Scope} {py spos : Pos} {tt : Env → Res Bool} {de : Env → Res D} (own : List (Str × Nat)) (hi : PI X tg iter (rdI K w W di))
    (hg : ∀ (s : Shared) (H : Hp) (C : Addr) (cl : List (Str × Addr)) (fp : List Addr), PG (X.blk s H scope (compEnvC scope cl C X.env) fp) tg (rdG K (wipeW w (own.map (·.2))) (own.map (·.2)) dg))
    (ht : ∀ (s : Shared) (H : Hp) (C : Addr) (cl : List (Str × Addr)) (fp : List Addr), PTs (X.blk s H scope (compEnvC scope cl C X.env) fp) ifs (rdT K (wipeW w (own.map (·.2))) WF tt))
    (he : ∀ (s : Shared) (H : Hp) (C : Addr) (cl : List (Str × Addr)) (fp : List Addr), PE (X.blk s H scope (compEnvC scope cl C X.env) fp) elt (rdE K (wipeW w (own.map (·.2))) WF de .z))
    (hl : i < w.length := by exact of_decide_eq_true rfl) (ok : blkC X.N X.env.scope scope own = true := by decide +kernel) (hc : X.calm = true := by rfl) (hN : X.N.Nodup := by decide) (hy : X.N[i]? = some y := by rfl) (hyl : X.env.scope.names.lookup y = some .local := by rfl)
    (hsw : swapsWith (.ListComp elt [⟨tg, iter, ifs, 0⟩] scope pos) (some (.Name y py)) spos.line X.env = pure true := by rfl) (hs : ∀ x, foldedSetIterable iter X.env x = pure x := by intro _; rfl) :
    PS X (.Assign [.Name y py] (.ListComp elt [⟨tg, iter, ifs, 0⟩] scope pos) spos) (rdS K w W (sSet i (dLc (own.map (·.2)) di dg tt de)) ⟨w.set i .z, bk, ct, rt⟩) :=
  PS_weak (ps_setLc hc hN hy hyl hsw hi (blkOk_by ok) hg ht he hs) fun D σ H ⟨B0, H0, B, env, S, h⟩ => rdE_lc _ _ _ (rdE_z (st_E S h fun d v H1 B1 g _ gr r nd hf h1 => by
    obtain ⟨hz, h1⟩ := Out.iff h1
    exact h1 B1 _ H1 (S.set gr r nd hf hz hl)))
end
end Fz
set_option Elab.async false
set_option linter.all false
set_option maxRecDepth 100000
set_option maxHeartbeats 4000000
/-! Functionalization: the law's own def. -/
namespace Fz
open PySem PySem.Spec PyProof.Rows L2
theorem FnOk.toCX0 {P : Program} {w : World} {K : Fr} {mg : Str → Option Value} {base : Heap} {k : Nat} {f : Addr} {fd : FuncData} {ps : List Str} {sp : Sp} (F : L2.FnOk P w K mg base (L2.CX P w) k f fd ps sp) :
    L2.FnOk P w K mg base CX0 k f fd ps (fun vs H Q _ => sp vs H Q fun _ _ _ => False) :=
  ⟨fun vs H Q E q => F.len vs H Q _ q, fun A outer s H args us vs Q E hr he hb hv hs => codeAny_mono (F.run A outer s H args us vs Q _ hr he hb hv hs) fun r s' h => by
    cases r with
    | error e =>
      obtain ⟨_, _, _, _, _, _, _, _, _, _, _, _, z⟩ := h
      exact z.elim
    | ok fl => cases fl <;> exact h⟩
/-- the law told a script -/
theorem law_sp {K : Fr} {H : Hp} {a : Addr} {ns : List Int} {f : List D → Res D} (hS : SqL K H a (ns.map V.int)) (h : f [.scr (ns.map .int)] = .ok (.bl true)) : spD K 1 f .z [.ref a] H (fun v _ => v = .bl true) fun _ _ _ => False := by
  refine ⟨H, [.scr (ns.map .int)], Ex.rfl' _, .cons (.scr hS Reps.ints) .nil, rfl, ?_⟩
  rw [h]
  intro v H' B' f g r nd hf
  have q := r.1
  cases q
  rfl
end Fz
set_option Elab.async false
set_option linter.all false
set_option maxRecDepth 100000
/-! Functionalization: how the plain functions are reckoned. -/
namespace Fz
open PySem

abbrev dI (ns : List Int) : List D := ns.map .int
abbrev tupI (ns : List Int) : D := .tup (dI ns)
abbrev lstI (ns : List Int) : D := .lst (dI ns)

theorem nr {α : Type} {a b : α} (h : a = b) : a = b := h
/-! ### evaluation: no match stands in what is reckoned (the kernel would reckon what it looks at) -/
def endRun (k : Ow) : Out → Res D
  | .ret d => .ok d
  | .nx _ => if k = .z then .ok .non else .bad
  | .exc c fs _ => .exc c fs
  | _ => .bad
def endIni (c : Str) : Option (Option D) → Res (List (Str × D))
  | some (some (.ins c' fs)) => if c' = c then .ok fs else .bad
  | _ => .bad
def endInit (c : Str) : Out → Res (List (Str × D))
  | .nx e => endIni c e[(0 : Nat)]?
  | .exc c fs _ => .exc c fs
  | _ => .bad
def Out.seq (o : Out) (c : Env → Out) : Out := match o with
  | .nx e => c e
  | o => o
def dvK : Option (Option D) → Res D
  | some (some d) => .ok d
  | _ => .bad
def optK : Option D → Res D
  | some d => .ok d
  | none => .bad
def asB : D → Res Bool
  | .bl b => .ok b
  | _ => .bad
def asO : D → Res (Option Int)
  | .int i => .ok (some i)
  | _ => .bad
def andK (x : D) (r : Res D) : Res D := match x with
  | .bl true => r
  | .bl false => .ok (.bl false)
  | _ => .bad
def orK (x : D) (r : Res D) : Res D := match x with
  | .bl true => .ok (.bl true)
  | .bl false => r
  | _ => .bad
def appK (i : Nat) (env : Env) (r : Res D) : Option (Option D) → Out
  | some (some (.lst xs)) => oBind r env fun d => if xs.length < 16777216 then .nx (env.set i (some (.lst (xs ++ [d])))) else .bad
  | _ => .bad
def fldK (i : Nat) (cs : List Str) (f : Str) (env : Env) (r : Res D) : Option (Option D) → Out
  | some (some (.ins c fs)) => oBind r env fun d => if cs.contains c = true ∧ fs.length < 1000 then .nx (env.set i (some (.ins c (putD f d fs)))) else .bad
  | _ => .bad
def putK (i : Nat) (env : Env) (xs : List D) (d : D) : Option Nat → Out
  | some n => .nx (env.set i (some (.lst (xs.set n d))))
  | none => .bad
def ixK (xs : List D) : D → Option Nat
  | .int j => L2.ixN xs.length j
  | _ => none
section
variable {α β : Type}
@[simp] theorem bind_ok (a : α) (f : α → Res β) : (Res.ok a).bind f = f a := nr rfl
@[simp] theorem bind_exc (c : Str) (fs : List (Str × D)) (f : α → Res β) : (Res.exc c fs : Res α).bind f = .exc c fs := nr rfl
@[simp] theorem bind_bad (f : α → Res β) : (Res.bad : Res α).bind f = .bad := nr rfl
@[simp] theorem oBind_ok (a : α) (env : Env) (f : α → Out) : oBind (.ok a) env f = f a := nr rfl
@[simp] theorem oBind_exc (c : Str) (fs : List (Str × D)) (env : Env) (f : α → Out) : oBind (.exc c fs : Res α) env f = .exc c fs env := nr rfl
end
@[simp] theorem seq_nx (e : Env) (c : Env → Out) : (Out.nx e).seq c = c e := nr rfl
@[simp] theorem seq_ret (d : D) (c : Env → Out) : (Out.ret d).seq c = .ret d := nr rfl
@[simp] theorem seq_exc (x : Str) (fs : List (Str × D)) (e : Env) (c : Env → Out) : (Out.exc x fs e).seq c = .exc x fs e := nr rfl
@[simp] theorem seq_ct (e : Env) (c : Env → Out) : (Out.ct e).seq c = .ct e := nr rfl
@[simp] theorem seq_bk (e : Env) (c : Env → Out) : (Out.bk e).seq c = .bk e := nr rfl
@[simp] theorem endRun_ret (k : Ow) (d : D) : endRun k (.ret d) = .ok d := nr rfl
@[simp] theorem endRun_nx (e : Env) : endRun .z (.nx e) = .ok .non := nr rfl
@[simp] theorem endRun_exc (k : Ow) (c : Str) (fs : List (Str × D)) (e : Env) : endRun k (.exc c fs e) = .exc c fs := nr rfl
@[simp] theorem endIni_ins (c : Str) (fs : List (Str × D)) : endIni c (some (some (.ins c fs))) = .ok fs := if_pos rfl
@[simp] theorem endInit_nx (c : Str) (e : Env) : endInit c (.nx e) = endIni c e[(0 : Nat)]? := nr rfl
@[simp] theorem endInit_exc (k c : Str) (fs : List (Str × D)) (e : Env) : endInit k (.exc c fs e) = .exc c fs := nr rfl
@[simp] theorem dvK_some (d : D) : dvK (some (some d)) = .ok d := nr rfl
@[simp] theorem optK_some (d : D) : optK (some d) = .ok d := nr rfl
@[simp] theorem asB_bl (b : Bool) : asB (.bl b) = .ok b := nr rfl
@[simp] theorem asO_int (i : Int) : asO (.int i) = .ok (some i) := nr rfl
@[simp] theorem andK_t (r : Res D) : andK (.bl true) r = r := nr rfl
@[simp] theorem andK_f (r : Res D) : andK (.bl false) r = .ok (.bl false) := nr rfl
@[simp] theorem orK_t (r : Res D) : orK (.bl true) r = .ok (.bl true) := nr rfl
@[simp] theorem orK_f (r : Res D) : orK (.bl false) r = r := nr rfl
@[simp] theorem appK_lst (i : Nat) (env : Env) (r : Res D) (xs : List D) : appK i env r (some (some (.lst xs))) = oBind r env fun d => if xs.length < 16777216 then .nx (env.set i (some (.lst (xs ++ [d])))) else .bad := nr rfl
@[simp] theorem fldK_ins (i : Nat) (cs : List Str) (f : Str) (env : Env) (r : Res D) (c : Str) (fs : List (Str × D)) : fldK i cs f env r (some (some (.ins c fs))) = oBind r env fun d => if cs.contains c = true ∧ fs.length < 1000 then .nx (env.set i (some (.ins c (putD f d fs)))) else .bad := nr rfl
theorem runD_eq (k : Ow) (n : Nat) (b : Env → Out) (ds : List D) : runD k n b ds = endRun k (b (startE n ds)) := by
  unfold runD endRun
  cases b (startE n ds) <;> rfl
theorem runI_eq (c : Str) (n : Nat) (b : Env → Out) (ds : List D) : runI c n b ds = endInit c (b (startE n (.ins c [] :: ds))) := by
  unfold runI endInit
  cases b (startE n (.ins c [] :: ds)) with
  | nx e =>
    dsimp only
    cases e[(0 : Nat)]? with
    | none => rfl
    | some o =>
      cases o with
      | none => rfl
      | some d => cases d <;> rfl
  | _ => rfl
variable (env : Env)
@[simp] theorem dv_ev (i : Nat) : dv i env = dvK env[i]? := by
  unfold dv dvK
  cases env[i]? with
  | none => rfl
  | some o => cases o <;> rfl
@[simp] theorem dc_ev (d : D) : dc d env = .ok d := nr rfl
@[simp] theorem d1_ev (f : D → Res D) (a : Env → Res D) : d1 f a env = (a env).bind f := nr rfl
@[simp] theorem d2_ev (f : D → D → Res D) (a b : Env → Res D) : d2 f a b env = (a env).bind fun x => (b env).bind fun y => f x y := nr rfl
@[simp] theorem dnil_ev : dnil env = .ok [] := nr rfl
@[simp] theorem dcons_ev (a : Env → Res D) (r : Env → Res (List D)) : dcons a r env = (a env).bind fun x => (r env).bind fun ys => .ok (x :: ys) := nr rfl
@[simp] theorem dcall_ev (f : List D → Res D) (a : Env → Res (List D)) : dcall f a env = (a env).bind f := nr rfl
@[simp] theorem iSeq_ev (f : D → Res (List D)) (a : Env → Res D) : iSeq f a env = (a env).bind f := nr rfl
@[simp] theorem iArg_ev (f : List D → Res (List D)) (a : Env → Res (List D)) : iArg f a env = (a env).bind f := nr rfl
@[simp] theorem tVal_ev (a : Env → Res D) : tVal a env = (a env).bind asB := nr rfl
@[simp] theorem tTru_ev (a : Env → Res D) : tTru a env = (a env).bind truD := nr rfl
@[simp] theorem tNot_ev (t : Env → Res Bool) : Fz.tNot t env = (t env).bind fun b => .ok (!b) := nr rfl
@[simp] theorem tAnd_ev (t u : Env → Res Bool) : Fz.tAnd t u env = (t env).bind fun b => if b = true then u env else .ok false := nr rfl
@[simp] theorem tOr_ev (t u : Env → Res Bool) : Fz.tOr t u env = (t env).bind fun b => if b = true then .ok true else u env := nr rfl
@[simp] theorem dAnd_ev (a b : Env → Res D) : dAnd a b env = (a env).bind fun x => andK x (b env) := nr rfl
@[simp] theorem dOr_ev (a b : Env → Res D) : dOr a b env = (a env).bind fun x => orK x (b env) := nr rfl
@[simp] theorem dIf_ev (t : Env → Res Bool) (a b : Env → Res D) : dIf t a b env = (t env).bind fun c => if c = true then a env else b env := nr rfl
@[simp] theorem chainK_t (r : Res D) : chainK r (.bl true) = r := nr rfl
@[simp] theorem chainK_f (r : Res D) : chainK r (.bl false) = .ok (.bl false) := nr rfl
@[simp] theorem dChain_ev (f g : D → D → Res D) (a b c : Env → Res D) : dChain f g a b c env = (a env).bind fun x => (b env).bind fun y => (f x y).bind (chainK ((c env).bind fun u => g y u)) := nr rfl
@[simp] theorem dSl_ev (a : Env → Res D) (lo hi : Env → Res (Option Int)) : dSl a lo hi env = (a env).bind fun x => (lo env).bind fun l => (hi env).bind fun h => sliD x l h := nr rfl
@[simp] theorem pNo_ev : pNo env = .ok none := nr rfl
@[simp] theorem pAt_ev (de : Env → Res D) : pAt de env = (de env).bind asO := nr rfl
@[simp] theorem bSeq_ev (b c : Env → Out) : bSeq b c env = (b env).seq c := by
  unfold bSeq Out.seq
  cases b env <;> rfl
@[simp] theorem sNx_ev : sNx env = .nx env := nr rfl
@[simp] theorem sCt_ev : sCt env = .ct env := nr rfl
@[simp] theorem sBk_ev : sBk env = .bk env := nr rfl
@[simp] theorem sSet_ev (i : Nat) (de : Env → Res D) : sSet i de env = oBind (de env) env fun d => if i < env.length then .nx (env.set i (some d)) else .bad := nr rfl
@[simp] theorem sRet_ev (de : Env → Res D) : sRet de env = oBind (de env) env .ret := nr rfl
@[simp] theorem sRaise_ev (c : Str) : sRaise c env = .exc c [] env := nr rfl
@[simp] theorem sIf_ev (dt : Env → Res Bool) (b c : Env → Out) : sIf dt b c env = oBind (dt env) env fun t => if t = true then b env else c env := nr rfl
@[simp] theorem sFor_ev (di : Env → Res (List D)) (tg : D → Env → Option Env) (body : Env → Out) : sFor di tg body env = oBind (di env) env fun ds => loopD tg body ds env := nr rfl
@[simp] theorem sApp_ev (i : Nat) (de : Env → Res D) : sApp i de env = appK i env (de env) env[i]? := by
  unfold sApp appK
  cases env[i]? with
  | none => rfl
  | some o =>
    cases o with
    | none => rfl
    | some d => cases d <;> rfl
@[simp] theorem sFld_ev (i : Nat) (cs : List Str) (f : Str) (de : Env → Res D) : sFld' i cs f de env = fldK i cs f env (de env) env[i]? := by
  unfold sFld' fldK
  cases env[i]? with
  | none => rfl
  | some o =>
    cases o with
    | none => rfl
    | some d => cases d <;> rfl
@[simp] theorem tgN_ev (i : Nat) (d : D) : tgN i d env = if i < env.length then some (env.set i (some d)) else none := nr rfl
@[simp] theorem tgT_ev (is : List Nat) (ds : List D) : tgT is (.tup ds) env = tgL is ds env := nr rfl
@[simp] theorem tgL_cons (i : Nat) (r : List Nat) (d : D) (ds : List D) : tgL (i :: r) (d :: ds) env = if i < env.length then tgL r ds (env.set i (some d)) else none := nr rfl
@[simp] theorem tgL_nil : tgL [] [] env = some env := nr rfl
@[simp] theorem oFldO_ev (i : Nat) (cs : List Str) (f : Str) : oFldO i cs f env = (dv i env).bind (oFld cs f) := nr rfl
@[simp] theorem dLc_ev (vs : List Nat) (di : Env → Res (List D)) (tg : D → Env → Option Env) (tt : Env → Res Bool) (de : Env → Res D) : dLc vs di tg tt de env = (di env).bind fun ds => endLc (lcGo tg tt de (wipeE env vs) ds) := nr rfl
@[simp] theorem wipeE_nil : wipeE env [] = env := nr rfl
@[simp] theorem wipeE_cons (v : Nat) (vs : List Nat) : wipeE env (v :: vs) = (wipeE env vs).set v none := nr rfl
@[simp] theorem dYes_ev : dYes env = .ok true := nr rfl
@[simp] theorem withD_ev (n : Nat) (dvs : List D) (f : List D → Res D) (ds : List D) : withD n dvs f ds = if (ds ++ dvs).length = n then f (ds ++ dvs) else .bad := nr rfl
@[simp] theorem dmeth_ev (c m : Str) (n : Nat) (dvs : List D) (f : List D → Res D) (a : Env → Res D) (da : Env → Res (List D)) : dmeth c m n dvs f a da env = (a env).bind (methK c m fun o => (da env).bind fun ds => withD n dvs f (o :: ds)) := nr rfl
@[simp] theorem methK_ev (c m : Str) (g : D → Res D) (c' : Str) (fs : List (Str × D)) : methK c m g (.ins c' fs) = if c' = c ∧ fs.lookup m = none then g (.ins c' fs) else .bad := nr rfl
@[simp] theorem mkD_ev (c : Str) (n : Nat) (dvs : List D) (f : List D → Res (List (Str × D))) (ds : List D) : mkD c n dvs f ds = if (ds ++ dvs).length = n then (f (ds ++ dvs)).bind fun fs => .ok (.ins c fs) else .bad := nr rfl
@[simp] theorem oFld_ev (cs : List Str) (f c : Str) (fs : List (Str × D)) : oFld cs f (.ins c fs) = if cs.contains c = true then optK (fs.lookup f) else .bad := by
  show (if cs.contains c = true then (match fs.lookup f with | some d => Res.ok d | none => .bad) else .bad) = _
  cases fs.lookup f <;> rfl
theorem sPut_ok {i : Nat} {di de : Env → Res D} {env : Env} {xs : List D} {d : D} {j : Int} {n : Nat} (h : env[i]? = some (some (.lst xs))) (hd : de env = .ok d) (hi : di env = .ok (.int j)) (hn : L2.ixN xs.length j = some n) : sPut i di de env = .nx (env.set i (some (.lst (xs.set n d)))) := by
  unfold sPut
  rw [h]
  dsimp only
  rw [hd]
  show oBind (di env) env _ = _
  rw [hi]
  show (match L2.ixN xs.length j with | some n => Out.nx (env.set i (some (.lst (xs.set n d)))) | none => .bad) = _
  rw [hn]
theorem ixN_nat {n k : Nat} {j : Int} (hj : j = (k : Int)) (h : k < n) : L2.ixN n j = some k := by
  unfold L2.ixN
  rw [hj, if_pos (by omega), if_pos (by omega)]
  simp
theorem oIxO_ok {i : Nat} {di : Env → Res D} {env : Env} {xs : List D} (h : env[i]? = some (some (.lst xs))) : oIxO i di env = (di env).bind fun j => oIx (.lst xs) j := by
  unfold oIxO
  rw [h]
theorem sTry_exc {sub : List (Str × Bool)} {i : Nat} {body suite : Env → Out} {env e : Env} {c : Str} (h : body env = .exc c [] e) (hs : sub.lookup c = some true) (hi : i < e.length) : sTry sub i body suite env = unE i (suite (e.set i (some (.exn c [])))) := by
  unfold sTry
  rw [h]
  dsimp only
  rw [hs]
  exact if_pos ⟨rfl, hi⟩
theorem dIsE_ok {i : Nat} {sub : List (Str × Bool)} {env : Env} {c : Str} {fs : List (Str × D)} {b : Bool} (h : env[i]? = some (some (.exn c fs))) (hs : sub.lookup c = some b) : dIsE i sub env = .ok (.bl b) := by
  unfold dIsE
  rw [h]
  dsimp only
  rw [hs]
@[simp] theorem unE_ret (i : Nat) (d : D) : unE i (.ret d) = .ret d := nr rfl
theorem dflat_ok {a : Env → Res D} {d : D} {env : Env} (h : a env = .ok d) (hf : d.flat = true) : dflat a env = .ok d := by
  unfold dflat
  rw [h]
  exact if_pos hf
theorem tflat_ok {a : Env → Res Bool} {b : Bool} {env : Env} (h : a env = .ok b) : tflat a env = .ok b := by
  unfold tflat
  rw [h]

/-! ### operators -/
@[simp] theorem oAdd_int (i j : Int) : oAdd (.int i) (.int j) = .ok (.int (i + j)) := nr rfl
@[simp] theorem oSub_int (i j : Int) : oSub (.int i) (.int j) = .ok (.int (i - j)) := nr rfl
@[simp] theorem oNeg_int (i : Int) : oNeg (.int i) = .ok (.int (-i)) := nr rfl
@[simp] theorem cI_int (p : Int → Int → Bool) (i j : Int) : cI p (.int i) (.int j) = .ok (.bl (p i j)) := nr rfl
@[simp] theorem cEq_int (i j : Int) : cEq (.int i) (.int j) = .ok (.bl (decide (i = j))) := nr rfl
@[simp] theorem cNe_int (i j : Int) : cNe (.int i) (.int j) = .ok (.bl (!decide (i = j))) := nr rfl
@[simp] theorem cEq_str (i j : Str) : cEq (.str i) (.str j) = .ok (.bl (decide (i = j))) := nr rfl
@[simp] theorem cNe_str (i j : Str) : cNe (.str i) (.str j) = .ok (.bl (!decide (i = j))) := nr rfl
@[simp] theorem oNot_bl (b : Bool) : oNot (.bl b) = .ok (.bl (!b)) := nr rfl
@[simp] theorem bInt_int (i : Int) : bInt [.int i] = .ok (.int i) := nr rfl
@[simp] theorem bAbs_int (i : Int) : bAbs [.int i] = .ok (.int (if i < 0 then -i else i)) := nr rfl
@[simp] theorem bMax_2 (i j : Int) : bMax [.int i, .int j] = .ok (.int (if j > i then j else i)) := nr rfl
@[simp] theorem bMin_2 (i j : Int) : bMin [.int i, .int j] = .ok (.int (if j < i then j else i)) := nr rfl
@[simp] theorem bGcd_2 (i j : Int) : bGcd [.int i, .int j] = .ok (.int ((Int.gcd i j : Nat) : Int)) := nr rfl
@[simp] theorem bLen_lst (ds : List D) : bLen [.lst ds] = .ok (.int ds.length) := nr rfl
@[simp] theorem bLen_scr (ds : List D) : bLen [.scr ds] = .ok (.int ds.length) := nr rfl
@[simp] theorem bLen_tup (ds : List D) : bLen [.tup ds] = .ok (.int ds.length) := nr rfl
@[simp] theorem bTup_lst (ds : List D) : bTup [.lst ds] = .ok (.tup ds) := nr rfl
@[simp] theorem bTup_tup (ds : List D) : bTup [.tup ds] = .ok (.tup ds) := nr rfl
@[simp] theorem bLst_lst (ds : List D) : bLst [.lst ds] = .ok (.lst ds) := nr rfl
@[simp] theorem bLst_tup (ds : List D) : bLst [.tup ds] = .ok (.lst ds) := nr rfl
@[simp] theorem itD_lst (ds : List D) : itD (.lst ds) = .ok ds := nr rfl
@[simp] theorem itD_scr (ds : List D) : itD (.scr ds) = .ok ds := nr rfl
@[simp] theorem itD_tup (ds : List D) : itD (.tup ds) = .ok ds := nr rfl
@[simp] theorem revD_lst (ds : List D) : revD (.lst ds) = .ok ds.reverse := nr rfl
@[simp] theorem revD_tup (ds : List D) : revD (.tup ds) = .ok ds.reverse := nr rfl
@[simp] theorem tupRevD_lst (ds : List D) : tupRevD (.lst ds) = .ok (.tup ds.reverse) := nr rfl
@[simp] theorem truD_bl (b : Bool) : truD (.bl b) = .ok b := nr rfl
@[simp] theorem truD_int (i : Int) : truD (.int i) = .ok (i != 0) := nr rfl
@[simp] theorem truD_lst (ds : List D) : truD (.lst ds) = .ok (!ds.isEmpty) := nr rfl
@[simp] theorem enmD_tup (ds : List D) : enmD [.tup ds] = .ok (enumD 0 ds) := nr rfl
@[simp] theorem enmD_lst (ds : List D) : enmD [.lst ds] = .ok (enumD 0 ds) := nr rfl
theorem oMul_ok {i j : Int} (h : mulOk i j = true) : oMul (.int i) (.int j) = .ok (.int (i * j)) := if_pos h
theorem oDiv_ok {i j : Int} (h : divOk j = true) : oDiv (.int i) (.int j) = .ok (.int (i.fdiv j)) := if_pos h
theorem oMod_ok {i j : Int} (h : j ≠ 0) : oMod (.int i) (.int j) = .ok (.int (i.fmod j)) := if_pos h
theorem oPow_ok {i j : Int} (h : powOk i j = true) : oPow (.int i) (.int j) = .ok (.int (i ^ j.toNat)) := if_pos h
theorem mulOk_r {i j : Int} (h : -(2 ^ 60) ≤ j ∧ j ≤ 2 ^ 60) : mulOk i j = true := by
  simp only [mulOk, Bool.or_eq_true, decide_eq_true_eq]
  exact .inl (.inr (by omega))
theorem mulOk_l {i j : Int} (h : -(2 ^ 60) ≤ i ∧ i ≤ 2 ^ 60) : mulOk i j = true := by
  simp only [mulOk, Bool.or_eq_true, decide_eq_true_eq]
  exact .inl (.inl (by omega))
theorem divOk_of {j : Int} (h : 0 < j) (h2 : j < 1073741824) : divOk j = true := by
  simp only [divOk, Bool.and_eq_true, Bool.or_eq_true, decide_eq_true_eq]
  exact ⟨by omega, .inl (by omega)⟩
theorem fmod_pos {i j : Int} (h : 0 < j) : i.fmod j = i % j := Int.fmod_eq_emod_of_nonneg i (Int.le_of_lt h)
theorem fdiv_pos {i j : Int} (h : 0 < j) : i.fdiv j = i / j := Int.fdiv_eq_ediv_of_nonneg i (Int.le_of_lt h)
/-- a divisor that is positive -/
theorem oMod_p {i j : Int} (h : 0 < j) : oMod (.int i) (.int j) = .ok (.int (i % j)) := by rw [oMod_ok (by omega), fmod_pos h]
theorem oDiv_p {i j : Int} (h : 0 < j) (h2 : j < 1073741824) : oDiv (.int i) (.int j) = .ok (.int (i / j)) := by rw [oDiv_ok (divOk_of h h2), fdiv_pos h]
theorem oMul_r {i j : Int} (h : -(2 ^ 60) ≤ j ∧ j ≤ 2 ^ 60) : oMul (.int i) (.int j) = .ok (.int (i * j)) := oMul_ok (mulOk_r h)
theorem oMul_l {i j : Int} (h : -(2 ^ 60) ≤ i ∧ i ≤ 2 ^ 60) : oMul (.int i) (.int j) = .ok (.int (i * j)) := oMul_ok (mulOk_l h)
@[simp] theorem oLst_nil : oLst [] = .ok (.lst []) := if_pos (by decide)
@[simp] theorem oLst_1 (a : D) : oLst [a] = .ok (.lst [a]) := if_pos (by show 1 ≤ 16777216; decide)
@[simp] theorem oLst_2 (a b : D) : oLst [a, b] = .ok (.lst [a, b]) := if_pos (by show 2 ≤ 16777216; decide)
@[simp] theorem oLst_3 (a b c : D) : oLst [a, b, c] = .ok (.lst [a, b, c]) := if_pos (by show 3 ≤ 16777216; decide)
@[simp] theorem oTup_nil : oTup [] = .ok (.tup []) := if_pos (by decide)
@[simp] theorem oTup_1 (a : D) : oTup [a] = .ok (.tup [a]) := if_pos (by show 1 ≤ 16777216; decide)
@[simp] theorem oTup_2 (a b : D) : oTup [a, b] = .ok (.tup [a, b]) := if_pos (by show 2 ≤ 16777216; decide)
@[simp] theorem oTup_3 (a b c : D) : oTup [a, b, c] = .ok (.tup [a, b, c]) := if_pos (by show 3 ≤ 16777216; decide)
@[simp] theorem oTup_4 (a b c d : D) : oTup [a, b, c, d] = .ok (.tup [a, b, c, d]) := if_pos (by show 4 ≤ 16777216; decide)
theorem oAdd_tup {xs ys : List D} (h : xs.length + ys.length ≤ 16777216) : oAdd (.tup xs) (.tup ys) = .ok (.tup (xs ++ ys)) := if_pos h
theorem oAddL_ok {xs ys : List D} (h : xs.length + ys.length ≤ 16777216) : oAddL (.lst xs) (.lst ys) = .ok (.lst (xs ++ ys)) := if_pos h
/-! ### items -/
theorem atI_nat {α : Type} (xs : List α) (n : Nat) : L2.atI xs (n : Int) = xs[n]? := by
  unfold L2.atI L2.ixN
  by_cases h : n < xs.length
  · rw [if_pos (by omega), if_pos (by omega)]
    simp
  · rw [if_pos (by omega), if_neg (by omega)]
    rw [List.getElem?_eq_none (by omega)]
    rfl
theorem oIx_tup {xs : List D} {n : Nat} {d : D} {i : Int} (hi : i = (n : Int)) (h : xs[n]? = some d) : oIx (.tup xs) (.int i) = .ok d := by
  show (match L2.atI xs i with | some d => Res.ok d | none => .bad) = _
  rw [hi, atI_nat, h]
theorem oIx_lst {xs : List D} {n : Nat} {d : D} {i : Int} (hi : i = (n : Int)) (h : xs[n]? = some d) : oIx (.lst xs) (.int i) = .ok d := by
  show (match L2.atI xs i with | some d => Res.ok d | none => .bad) = _
  rw [hi, atI_nat, h]
theorem oIx_scr {xs : List D} {n : Nat} {d : D} {i : Int} (hi : i = (n : Int)) (h : xs[n]? = some d) : oIx (.scr xs) (.int i) = .ok d := by
  show (match L2.atI xs i with | some d => Res.ok d | none => .bad) = _
  rw [hi, atI_nat, h]
/-- the n-th number, 0 beyond -/
def nth (ns : List Int) (n : Nat) : Int := ns.getD n 0
/-- the n-th item -/
def nthA {α : Type} [Inhabited α] (xs : List α) (n : Nat) : α := xs.getD n default
theorem dI_get {ns : List Int} {n : Nat} (h : n < ns.length) : (dI ns)[n]? = some (.int (nth ns n)) := by
  simp [dI, nth, List.getElem?_map, List.getElem?_eq_getElem h, List.getD_eq_getElem?_getD]
theorem map_get {α : Type} {f : α → D} {xs : List α} {n : Nat} {x : α} (h : xs[n]? = some x) : (xs.map f)[n]? = some (f x) := by rw [List.getElem?_map, h] <;> rfl

theorem atI_int {α : Type} {xs : List α} {i : Int} (h0 : 0 ≤ i) : L2.atI xs i = xs[i.toNat]? := by
  obtain ⟨n, rfl⟩ : ∃ n : Nat, i = (n : Int) := ⟨i.toNat, by omega⟩
  rw [atI_nat]
  simp
theorem oIx_lstI {ns : List Int} {i : Int} (h0 : 0 ≤ i) (h : i < ns.length) : oIx (lstI ns) (.int i) = .ok (.int (nth ns i.toNat)) := oIx_lst (n := i.toNat) (by omega) (dI_get (by omega))
theorem oIx_tupI {ns : List Int} {i : Int} (h0 : 0 ≤ i) (h : i < ns.length) : oIx (tupI ns) (.int i) = .ok (.int (nth ns i.toNat)) := oIx_tup (n := i.toNat) (by omega) (dI_get (by omega))
theorem nthA_get {α : Type} [Inhabited α] {xs : List α} {n : Nat} (h : n < xs.length) : xs[n]? = some (nthA xs n) := by
  unfold nthA
  rw [List.getD_eq_getElem?_getD, List.getElem?_eq_getElem h] <;> rfl
theorem nthA_mem {α : Type} [Inhabited α] {xs : List α} {n : Nat} (h : n < xs.length) : nthA xs n ∈ xs := by
  unfold nthA
  rw [List.getD_eq_getElem?_getD, List.getElem?_eq_getElem h]
  exact List.getElem_mem h
theorem nth_get {xs : List Int} {n : Nat} (h : n < xs.length) : xs[n]? = some (nth xs n) := by
  unfold nth
  rw [List.getD_eq_getElem?_getD, List.getElem?_eq_getElem h] <;> rfl
theorem oIx_lstM {α : Type} [Inhabited α] {f : α → D} {xs : List α} {i : Int} (h0 : 0 ≤ i) (h : i < xs.length) : oIx (.lst (xs.map f)) (.int i) = .ok (f (nthA xs i.toNat)) :=
  oIx_lst (n := i.toNat) (by omega) (map_get (nthA_get (by omega)))
theorem oIx_tupM {α : Type} [Inhabited α] {f : α → D} {xs : List α} {i : Int} (h0 : 0 ≤ i) (h : i < xs.length) : oIx (.tup (xs.map f)) (.int i) = .ok (f (nthA xs i.toNat)) :=
  oIx_tup (n := i.toNat) (by omega) (map_get (nthA_get (by omega)))
theorem nth_mem {ns : List Int} {n : Nat} (h : n < ns.length) : nth ns n ∈ ns := by
  unfold nth
  rw [List.getD_eq_getElem?_getD, List.getElem?_eq_getElem h]
  exact List.getElem_mem h
theorem oIx_dN {ns : List Int} {n : Nat} (h : n < ns.length) : oIx (tupI ns) (.int (n : Int)) = .ok (.int (nth ns n)) := oIx_tup rfl (dI_get h)
theorem oIx_dNl {ns : List Int} {n : Nat} (h : n < ns.length) : oIx (lstI ns) (.int (n : Int)) = .ok (.int (nth ns n)) := oIx_lst rfl (dI_get h)
theorem oIx_mN {α : Type} [Inhabited α] {f : α → D} {xs : List α} {n : Nat} (h : n < xs.length) : oIx (.tup (xs.map f)) (.int (n : Int)) = .ok (f (nthA xs n)) := oIx_tup rfl (map_get (nthA_get h))
theorem oIx_mNl {α : Type} [Inhabited α] {f : α → D} {xs : List α} {n : Nat} (h : n < xs.length) : oIx (.lst (xs.map f)) (.int (n : Int)) = .ok (f (nthA xs n)) := oIx_lst rfl (map_get (nthA_get h))
theorem cut_lo {xs : List D} {n : Nat} (h : n ≤ xs.length) : cutD xs none (some (n : Int)) = xs.take n := by
  unfold cutD HT.sIx
  simp
  rw [if_neg (by omega)]
  congr 1
  omega
theorem cut_hi {xs : List D} {n : Nat} (h : n ≤ xs.length) : cutD xs (some (n : Int)) none = xs.drop n := by
  unfold cutD HT.sIx
  simp
  rw [if_neg (by omega), Nat.min_eq_left (by omega)]
  exact List.take_of_length_le (by simp)
/-! ### loops -/
section
variable {β : Type} {tg : D → Env → Option Env} {body : Env → Out} {dd : β → D}
theorem loopD_nx {d : D} {r : List D} {env e1 e2 : Env} (h1 : tg d env = some e1) (h2 : body e1 = .nx e2) : loopD tg body (d :: r) env = loopD tg body r e2 := by
  conv => lhs; unfold loopD
  rw [h1]; dsimp only; rw [h2]
theorem loopD_ct {d : D} {r : List D} {env e1 e2 : Env} (h1 : tg d env = some e1) (h2 : body e1 = .ct e2) : loopD tg body (d :: r) env = loopD tg body r e2 := by
  conv => lhs; unfold loopD
  rw [h1]; dsimp only; rw [h2]
theorem loopD_ret {d : D} {r : List D} {env e1 : Env} {v : D} (h1 : tg d env = some e1) (h2 : body e1 = .ret v) : loopD tg body (d :: r) env = .ret v := by
  conv => lhs; unfold loopD
  rw [h1]; dsimp only; rw [h2]
theorem loopD_exc {d : D} {r : List D} {env e1 e2 : Env} {c : Str} {fs : List (Str × D)} (h1 : tg d env = some e1) (h2 : body e1 = .exc c fs e2) : loopD tg body (d :: r) env = .exc c fs e2 := by
  conv => lhs; unfold loopD
  rw [h1]; dsimp only; rw [h2]
@[simp] theorem loopD_nil {env : Env} : loopD tg body [] env = .nx env := nr rfl
/-- a loop that is never left: the invariant by what is still to come -/
theorem loop_inv (Inv : List β → Env → Prop) (h : ∀ x r e, Inv (x :: r) e → ∃ e1, tg (dd x) e = some e1 ∧ ∃ e2, (body e1 = .nx e2 ∨ body e1 = .ct e2) ∧ Inv r e2) : ∀ (xs : List β) (e : Env), Inv xs e → ∃ e', loopD tg body (xs.map dd) e = .nx e' ∧ Inv [] e'
  | [], e, i => ⟨e, rfl, i⟩
  | x :: r, e, i => by
    obtain ⟨e1, h1, e2, h2, h3⟩ := h x r e i
    obtain ⟨e', h4, h5⟩ := loop_inv Inv h r e2 h3
    refine ⟨e', ?_, h5⟩
    show loopD tg body (dd x :: r.map dd) e = _
    unfold loopD
    rw [h1]
    rcases h2 with h2 | h2
    · dsimp only; rw [h2]; exact h4
    · dsimp only; rw [h2]; exact h4
/-- a loop that may be left: what comes out -/
theorem loop_out (Inv : List β → Env → Prop) (Post : Out → Prop) (h : ∀ x r e, Inv (x :: r) e → ∃ e1, tg (dd x) e = some e1 ∧
      match body e1 with | .nx e2 => Inv r e2 | .ct e2 => Inv r e2 | .bk e2 => Post (.nx e2) | .ret v => Post (.ret v) | .exc c fs e2 => Post (.exc c fs e2) | .bad => Post .bad)
    (h0 : ∀ e, Inv [] e → Post (.nx e)) : ∀ (xs : List β) (e : Env), Inv xs e → Post (loopD tg body (xs.map dd) e)
  | [], e, i => h0 e i
  | x :: r, e, i => by
    obtain ⟨e1, h1, h2⟩ := h x r e i
    show Post (loopD tg body (dd x :: r.map dd) e)
    unfold loopD
    rw [h1]
    dsimp only
    cases hb : body e1 with
    | nx e2 => rw [hb] at h2; exact loop_out Inv Post h h0 r e2 h2
    | ct e2 => rw [hb] at h2; exact loop_out Inv Post h h0 r e2 h2
    | bk e2 => rw [hb] at h2; exact h2
    | ret v => rw [hb] at h2; exact h2
    | exc c fs e2 => rw [hb] at h2; exact h2
    | bad => rw [hb] at h2; exact h2
/-- .. over a range -/
theorem loop_rng {lo : Int} (n : Nat) (Inv : Nat → Env → Prop) (h : ∀ i e, i < n → Inv i e → ∃ e1, tg (.int (lo + (i : Int))) e = some e1 ∧ ∃ e2, (body e1 = .nx e2 ∨ body e1 = .ct e2) ∧ Inv (i + 1) e2) (e : Env) (h0 : Inv 0 e) :
    ∃ e', loopD tg body (rngD lo n) e = .nx e' ∧ Inv n e' := by
  obtain ⟨e', h1, i, h2, h3⟩ := loop_inv (tg := tg) (body := body) (dd := fun (i : Nat) => D.int (lo + (i : Int))) (fun r e => ∃ i, r = (List.range n).drop i ∧ i ≤ n ∧ Inv i e) (fun x r e ⟨i, hr, hi, iv⟩ => by
    have hlt : i < n := by
      rcases Nat.lt_or_ge i n with q | q
      · exact q
      · rw [List.drop_eq_nil_of_le (by simpa using q)] at hr; cases hr
    rw [List.drop_eq_getElem_cons (by simpa using hlt)] at hr
    injection hr with hx hr
    rw [List.getElem_range] at hx
    subst hx
    obtain ⟨e1, k1, e2, k2, k3⟩ := h x e hlt iv
    exact ⟨e1, k1, e2, k2, x + 1, hr, hlt, k3⟩) (List.range n) e ⟨0, rfl, Nat.zero_le _, h0⟩
  refine ⟨e', h1, ?_⟩
  have : i = n := by
    rcases Nat.lt_or_ge i n with q | q
    · have z := congrArg List.length h2
      simp at z
      omega
    · omega
  rw [← this]; exact h3.2
/-- 0, 1, .. -/
def digs (n : Nat) : List Int := (List.range n).map fun (i : Nat) => (i : Int)
theorem rngD0 (n : Nat) : rngD 0 n = dI (digs n) := by simp [rngD, dI, digs]
theorem digs_len (n : Nat) : (digs n).length = n := by simp [digs]
theorem digs_mem {n : Nat} {x : Int} : x ∈ digs n ↔ 0 ≤ x ∧ x < n := by
  simp only [digs, List.mem_map, List.mem_range]
  constructor
  · rintro ⟨i, hi, rfl⟩; omega
  · intro ⟨h1, h2⟩; exact ⟨x.toNat, by omega, by omega⟩
/-- a comprehension without tests -/
theorem lc_map {de : Env → Res D} {env : Env} {g : β → D} : ∀ {xs : List β}, (∀ x ∈ xs, ∃ e1, tg (dd x) env = some e1 ∧ de e1 = .ok (g x)) → lcGo tg dYes de env (xs.map dd) = .ok (xs.map g)
  | [], _ => rfl
  | x :: r, h => by
    obtain ⟨e1, h1, h2⟩ := h x List.mem_cons_self
    have ih := lc_map (xs := r) fun y hy => h y (List.mem_cons_of_mem _ hy)
    show lcGo tg dYes de env (dd x :: r.map dd) = .ok (g x :: r.map g)
    unfold lcGo
    rw [h1]
    dsimp only [dYes]
    rw [h2, ih]
    rfl
theorem endLc_map {γ : Type} {g : γ → D} {xs : List γ} (h : xs.length ≤ 16777216) : endLc (.ok (xs.map g)) = .ok (.lst (xs.map g)) := if_pos (by rw [List.length_map]; exact h)
end
end Fz
set_option Elab.async false
set_option linter.all false
set_option maxRecDepth 100000
/-! Functionalization: == of plain data is equality. -/
namespace Fz
open PySem

mutual
/-- None, ints, texts, lists and tuples of such -/
def D.lay : D → Bool
  | .non => true
  | .int _ => true
  | .str x => PyData.strOk x
  | .lst ds => D.lays ds
  | .tup ds => D.lays ds
  | _ => false
def D.lays : List D → Bool
  | [] => true
  | d :: r => D.lay d && D.lays r
end
mutual
def D.dep : D → Nat
  | .lst ds => D.deps ds + 1
  | .tup ds => D.deps ds + 1
  | _ => 0
def D.deps : List D → Nat
  | [] => 0
  | d :: r => max (D.dep d) (D.deps r)
end
mutual
theorem D.lay_py : ∀ d : D, d.lay = true → ∃ p, d.py = some p ∧ p.canLay0 = true ∧ p.depth = d.dep
  | .non, _ => ⟨.none, rfl, by simp [PyData.canLay0], by simp [PyData.depth, D.dep]⟩
  | .int i, _ => ⟨.int i, rfl, by simp [PyData.canLay0], by simp [PyData.depth, D.dep]⟩
  | .str x, h => ⟨.str x, rfl, by simp only [PyData.canLay0]; simpa [D.lay] using h, by simp [PyData.depth, D.dep]⟩
  | .lst ds, h => by
    obtain ⟨ps, h1, h2, h3⟩ := D.lays_py ds (by simpa [D.lay] using h)
    exact ⟨.list ps, by simp [D.py, h1], by simp only [PyData.canLay0]; exact h2, by simp [PyData.depth, D.dep, h3]⟩
  | .tup ds, h => by
    obtain ⟨ps, h1, h2, h3⟩ := D.lays_py ds (by simpa [D.lay] using h)
    exact ⟨.tuple ps, by simp [D.py, h1], by simp only [PyData.canLay0]; exact h2, by simp [PyData.depth, D.dep, h3]⟩
  | .bl _, h => by simp [D.lay] at h
  | .scr _, h => by simp [D.lay] at h
  | .ins _ _, h => by simp [D.lay] at h
  | .exn _ _, h => by simp [D.lay] at h
theorem D.lays_py : ∀ ds : List D, D.lays ds = true → ∃ ps, D.pys ds = some ps ∧ PyData.canLayAll0 ps = true ∧ PyData.depthAll ps = D.deps ds
  | [], _ => ⟨[], rfl, by simp [PyData.canLayAll0], by simp [PyData.depthAll, D.deps]⟩
  | d :: r, h => by
    obtain ⟨h1, h2⟩ : d.lay = true ∧ D.lays r = true := by simpa [D.lays] using h
    obtain ⟨p, a1, a2, a3⟩ := D.lay_py d h1
    obtain ⟨ps, b1, b2, b3⟩ := D.lays_py r h2
    exact ⟨p :: ps, by simp [D.pys, a1, b1], by simp [PyData.canLayAll0, a2, b2], by simp [PyData.depthAll, D.deps, a3, b3]⟩
end
mutual
theorem D.eqv_iff : ∀ (x y : D) (p q : PyData), x.lay = true → y.lay = true → x.py = some p → y.py = some q → (PyData.eqv p q = true ↔ x = y)
  | .non, y, p, q, _, h2, e1, e2 => by
    cases e1
    cases y with
    | non => cases e2; simp [PyData.eqv]
    | int j => cases e2; simp [PyData.eqv]
    | str j => cases e2; simp [PyData.eqv]
    | lst ds => obtain ⟨qs, _, rfl⟩ := Option.map_eq_some_iff.mp (show (D.pys ds).map PyData.list = some q from e2); simp [PyData.eqv]
    | tup ds => obtain ⟨qs, _, rfl⟩ := Option.map_eq_some_iff.mp (show (D.pys ds).map PyData.tuple = some q from e2); simp [PyData.eqv]
    | _ => simp [D.lay] at h2
  | .int i, y, p, q, _, h2, e1, e2 => by
    cases e1
    cases y with
    | non => cases e2; simp [PyData.eqv]
    | int j => cases e2; simp [PyData.eqv]
    | str j => cases e2; simp [PyData.eqv]
    | lst ds => obtain ⟨qs, _, rfl⟩ := Option.map_eq_some_iff.mp (show (D.pys ds).map PyData.list = some q from e2); simp [PyData.eqv]
    | tup ds => obtain ⟨qs, _, rfl⟩ := Option.map_eq_some_iff.mp (show (D.pys ds).map PyData.tuple = some q from e2); simp [PyData.eqv]
    | _ => simp [D.lay] at h2
  | .str i, y, p, q, _, h2, e1, e2 => by
    cases e1
    cases y with
    | non => cases e2; simp [PyData.eqv]
    | int j => cases e2; simp [PyData.eqv]
    | str j => cases e2; simp [PyData.eqv]
    | lst ds => obtain ⟨qs, _, rfl⟩ := Option.map_eq_some_iff.mp (show (D.pys ds).map PyData.list = some q from e2); simp [PyData.eqv]
    | tup ds => obtain ⟨qs, _, rfl⟩ := Option.map_eq_some_iff.mp (show (D.pys ds).map PyData.tuple = some q from e2); simp [PyData.eqv]
    | _ => simp [D.lay] at h2
  | .lst xs, y, p, q, h1, h2, e1, e2 => by
    obtain ⟨ps, k1, rfl⟩ := Option.map_eq_some_iff.mp (show (D.pys xs).map PyData.list = some p from e1)
    cases y with
    | non => cases e2; simp [PyData.eqv]
    | int j => cases e2; simp [PyData.eqv]
    | str j => cases e2; simp [PyData.eqv]
    | lst ys =>
      obtain ⟨qs, k2, rfl⟩ := Option.map_eq_some_iff.mp (show (D.pys ys).map PyData.list = some q from e2)
      have := D.eqvs_iff xs ys ps qs (by simpa [D.lay] using h1) (by simpa [D.lay] using h2) k1 k2
      simp [PyData.eqv, this]
    | tup ds => obtain ⟨qs, _, rfl⟩ := Option.map_eq_some_iff.mp (show (D.pys ds).map PyData.tuple = some q from e2); simp [PyData.eqv]
    | _ => simp [D.lay] at h2
  | .tup xs, y, p, q, h1, h2, e1, e2 => by
    obtain ⟨ps, k1, rfl⟩ := Option.map_eq_some_iff.mp (show (D.pys xs).map PyData.tuple = some p from e1)
    cases y with
    | non => cases e2; simp [PyData.eqv]
    | int j => cases e2; simp [PyData.eqv]
    | str j => cases e2; simp [PyData.eqv]
    | tup ys =>
      obtain ⟨qs, k2, rfl⟩ := Option.map_eq_some_iff.mp (show (D.pys ys).map PyData.tuple = some q from e2)
      have := D.eqvs_iff xs ys ps qs (by simpa [D.lay] using h1) (by simpa [D.lay] using h2) k1 k2
      simp [PyData.eqv, this]
    | lst ds => obtain ⟨qs, _, rfl⟩ := Option.map_eq_some_iff.mp (show (D.pys ds).map PyData.list = some q from e2); simp [PyData.eqv]
    | _ => simp [D.lay] at h2
  | .bl _, _, _, _, h, _, _, _ => by simp [D.lay] at h
  | .scr _, _, _, _, h, _, _, _ => by simp [D.lay] at h
  | .ins _ _, _, _, _, h, _, _, _ => by simp [D.lay] at h
  | .exn _ _, _, _, _, h, _, _, _ => by simp [D.lay] at h
theorem D.eqvs_iff : ∀ (xs ys : List D) (ps qs : List PyData), D.lays xs = true → D.lays ys = true → D.pys xs = some ps → D.pys ys = some qs → (PyData.eqvAll ps qs = true ↔ xs = ys)
  | [], [], ps, qs, _, _, e1, e2 => by cases e1; cases e2; simp [PyData.eqvAll]
  | [], y :: ys, ps, qs, _, h2, e1, e2 => by
    obtain ⟨a1, a2⟩ : y.lay = true ∧ D.lays ys = true := by simpa [D.lays] using h2
    obtain ⟨q, b1, _⟩ := D.lay_py y a1
    obtain ⟨qs', c1, _⟩ := D.lays_py ys a2
    simp [D.pys, b1, c1] at e2
    cases e1; subst e2
    simp [PyData.eqvAll]
  | x :: xs, [], ps, qs, h1, _, e1, e2 => by
    obtain ⟨a1, a2⟩ : x.lay = true ∧ D.lays xs = true := by simpa [D.lays] using h1
    obtain ⟨q, b1, _⟩ := D.lay_py x a1
    obtain ⟨qs', c1, _⟩ := D.lays_py xs a2
    simp [D.pys, b1, c1] at e1
    cases e2; subst e1
    simp [PyData.eqvAll]
  | x :: xs, y :: ys, ps, qs, h1, h2, e1, e2 => by
    obtain ⟨a1, a2⟩ : x.lay = true ∧ D.lays xs = true := by simpa [D.lays] using h1
    obtain ⟨b1, b2⟩ : y.lay = true ∧ D.lays ys = true := by simpa [D.lays] using h2
    obtain ⟨p, c1, _⟩ := D.lay_py x a1
    obtain ⟨ps', c2, _⟩ := D.lays_py xs a2
    obtain ⟨q, d1, _⟩ := D.lay_py y b1
    obtain ⟨qs', d2, _⟩ := D.lays_py ys b2
    simp [D.pys, c1, c2] at e1
    simp [D.pys, d1, d2] at e2
    subst e1 e2
    have k1 := D.eqv_iff x y p q a1 b1 c1 d1
    have k2 := D.eqvs_iff xs ys ps' qs' a2 b2 c2 d2
    simp [PyData.eqvAll, k1, k2]
end
theorem eqD_lay {x y : D} (h1 : x.lay = true) (h2 : y.lay = true) (k1 : x.dep ≤ 64) (k2 : y.dep ≤ 64) : ∃ b, eqD x y = some b ∧ (b = true ↔ x = y) := by
  obtain ⟨p, a1, a2, a3⟩ := D.lay_py x h1
  obtain ⟨q, b1, b2, b3⟩ := D.lay_py y h2
  refine ⟨PyData.eqv p q, ?_, D.eqv_iff x y p q h1 h2 a1 b1⟩
  have s1 : SeqAt.shaped p = true := by
    show (p.canLay0 && decide (p.depth ≤ 64)) = true
    rw [a2, a3]; simpa using k1
  have s2 : SeqAt.shaped q = true := by
    show (q.canLay0 && decide (q.depth ≤ 64)) = true
    rw [b2, b3]; simpa using k2
  unfold eqD
  rw [a1, b1]
  exact if_pos ⟨s1, s2⟩
theorem cEq_lay {x y : D} (h1 : x.lay = true) (h2 : y.lay = true) (k1 : x.dep ≤ 64) (k2 : y.dep ≤ 64) : ∃ b, cEq x y = .ok (.bl b) ∧ cNe x y = .ok (.bl (!b)) ∧ (b = true ↔ x = y) := by
  obtain ⟨b, e, hb⟩ := eqD_lay h1 h2 k1 k2
  rcases cEq_cases x y with ⟨i, j, rfl, rfl⟩ | ⟨i, j, rfl, rfl⟩ | ⟨i, j, rfl, rfl⟩ | ⟨e1, e2⟩
  · exact ⟨decide (i = j), rfl, rfl, by simp⟩
  · exact ⟨decide (i = j), rfl, rfl, by simp⟩
  · simp [D.lay] at h1
  · rw [e1, e2, e]
    exact ⟨b, rfl, rfl, hb⟩
theorem cEq_yes {x : D} (h : x.lay = true) (k : x.dep ≤ 64) : cEq x x = .ok (.bl true) := by
  obtain ⟨b, e, _, hb⟩ := cEq_lay h h k k
  rw [e, hb.mpr rfl]
theorem cNe_no {x : D} (h : x.lay = true) (k : x.dep ≤ 64) : cNe x x = .ok (.bl false) := by
  obtain ⟨b, _, e, hb⟩ := cEq_lay h h k k
  rw [e, hb.mpr rfl] <;> rfl
theorem cEq_no {x y : D} (h1 : x.lay = true) (h2 : y.lay = true) (k1 : x.dep ≤ 64) (k2 : y.dep ≤ 64) (ne : x ≠ y) : cEq x y = .ok (.bl false) := by
  obtain ⟨b, e, _, hb⟩ := cEq_lay h1 h2 k1 k2
  have : b = false := by cases b with | false => rfl | true => exact absurd (hb.mp rfl) ne
  rw [e, this]
theorem cNe_yes {x y : D} (h1 : x.lay = true) (h2 : y.lay = true) (k1 : x.dep ≤ 64) (k2 : y.dep ≤ 64) (ne : x ≠ y) : cNe x y = .ok (.bl true) := by
  obtain ⟨b, _, e, hb⟩ := cEq_lay h1 h2 k1 k2
  have : b = false := by cases b with | false => rfl | true => exact absurd (hb.mp rfl) ne
  rw [e, this] <;> rfl
/-! ### numbers -/
theorem lays_map {α : Type} {f : α → D} {xs : List α} (h : ∀ x ∈ xs, (f x).lay = true) : D.lays (xs.map f) = true := by
  induction xs with
  | nil => rfl
  | cons x r ih => simp [D.lays, h x List.mem_cons_self, ih fun y hy => h y (List.mem_cons_of_mem _ hy)]
theorem deps_map {α : Type} {f : α → D} {xs : List α} {k : Nat} (h : ∀ x ∈ xs, (f x).dep ≤ k) : D.deps (xs.map f) ≤ k := by
  induction xs with
  | nil => simp [D.deps]
  | cons x r ih =>
    have h1 := h x List.mem_cons_self
    have h2 := ih fun y hy => h y (List.mem_cons_of_mem _ hy)
    simp [D.deps]; omega
theorem lay_dI (ns : List Int) : D.lays (dI ns) = true := lays_map fun _ _ => rfl
theorem deps_dI (ns : List Int) : D.deps (dI ns) = 0 := Nat.le_zero.mp (deps_map fun _ _ => Nat.le_refl _)
end Fz
set_option Elab.async false
set_option linter.all false
set_option maxRecDepth 100000
/-! Functionalization: sizes of numbers; exact numbers. -/
namespace Fz
open PySem

/-! ### sizes -/
def Sz (n : Nat) (i : Int) : Prop := i.natAbs < 2 ^ n
theorem Sz.mono {n m : Nat} {i : Int} (h : Sz n i) (hm : n ≤ m) : Sz m i := Nat.lt_of_lt_of_le h (Nat.pow_le_pow_right (by decide) hm)
theorem Sz.mul {n m : Nat} {i j : Int} (h : Sz n i) (h2 : Sz m j) : Sz (n + m) (i * j) := by
  unfold Sz at *
  rw [Int.natAbs_mul, Nat.pow_add]
  exact Nat.mul_lt_mul'' h h2
theorem Sz.add {n m : Nat} {i j : Int} (h : Sz n i) (h2 : Sz m j) : Sz (max n m + 1) (i + j) := by
  have a := h.mono (Nat.le_max_left n m)
  have b := h2.mono (Nat.le_max_right n m)
  unfold Sz at *
  have := Int.natAbs_add_le i j
  rw [Nat.pow_succ]; omega
theorem Sz.neg {n : Nat} {i : Int} (h : Sz n i) : Sz n (-i) := by unfold Sz at *; rw [Int.natAbs_neg]; exact h
theorem Sz.sub {n m : Nat} {i j : Int} (h : Sz n i) (h2 : Sz m j) : Sz (max n m + 1) (i - j) := by rw [Int.sub_eq_add_neg]; exact h.add h2.neg
theorem Sz.le {n : Nat} {i j : Int} (h : Sz n j) (h0 : 0 ≤ i) (hij : i ≤ j) : Sz n i := by unfold Sz at *; omega
theorem Sz.of_log {n : Nat} {i : Int} (h : i.natAbs.log2 < n) : Sz n i := log2_lt_pow h
theorem Sz.log {n : Nat} {i : Int} (h : Sz n i) (hn : 0 < n) : i.natAbs.log2 < n := by
  rcases Nat.eq_zero_or_pos i.natAbs with q | q
  · rw [q, Nat.log2_zero]; exact hn
  · exact (Nat.log2_lt (by omega)).mpr h
theorem Sz.small {i : Int} {n : Nat} (h : -(2 ^ 60) ≤ i ∧ i ≤ 2 ^ 60) (hn : 61 ≤ n := by omega) : Sz n i := by
  have : Sz 61 i := by unfold Sz; omega
  exact this.mono hn
theorem Sz.tdvd {n : Nat} {i j : Int} (h : Sz n j) (hd : i ∣ j) (hj : j ≠ 0) : Sz n i := by
  unfold Sz at *
  exact Nat.lt_of_le_of_lt (Nat.le_of_dvd (Int.natAbs_pos.mpr hj) (Int.natAbs_dvd_natAbs.mpr hd)) h
theorem Sz.ediv {n : Nat} {i j : Int} (h : Sz n i) : Sz n (i / j) := by
  unfold Sz at *
  exact Nat.lt_of_le_of_lt (Int.natAbs_ediv_le_natAbs i j) h
theorem mulOk_sz {n m : Nat} {i j : Int} (h : Sz n i) (h2 : Sz m j) (hs : n + m ≤ 900000) : mulOk i j = true := by
  simp only [mulOk, Bool.or_eq_true, decide_eq_true_eq]
  have a := (h.mono (Nat.le_succ n)).log (Nat.succ_pos n)
  have b := (h2.mono (Nat.le_succ m)).log (Nat.succ_pos m)
  exact .inr (by omega)
theorem oMul_sz {n m : Nat} {i j : Int} (h : Sz n i) (h2 : Sz m j) (hs : n + m ≤ 900000 := by omega) : oMul (.int i) (.int j) = .ok (.int (i * j)) := oMul_ok (mulOk_sz h h2 hs)
theorem divOk_sz {n : Nat} {j : Int} (h : Sz n j) (hn : n ≤ 9000) (h0 : j ≠ 0) : divOk j = true := by
  simp only [divOk, Bool.and_eq_true, Bool.or_eq_true, decide_eq_true_eq]
  exact ⟨h0, .inr ((h.mono hn).log (by omega))⟩
theorem oDiv_sz {n : Nat} {i j : Int} (h : Sz n j) (h0 : 0 < j) (hn : n ≤ 9000 := by omega) : oDiv (.int i) (.int j) = .ok (.int (i / j)) := by rw [oDiv_ok (divOk_sz h hn (by omega)), fdiv_pos h0]
theorem oDiv_szn {n : Nat} {i j : Int} (h : Sz n j) (h0 : j ≠ 0) (hn : n ≤ 9000 := by omega) : oDiv (.int i) (.int j) = .ok (.int (i.fdiv j)) := oDiv_ok (divOk_sz h hn h0)

/-! ### pairs, exact numbers -/
abbrev dP (a b : Int) : D := .tup [.int a, .int b]
def dQ (q : Rat) : D := dP q.num (q.den : Int)
theorem oIx_p0 (a b : Int) : oIx (dP a b) (.int 0) = .ok (.int a) := oIx_tup (n := 0) rfl rfl
theorem oIx_p1 (a b : Int) : oIx (dP a b) (.int 1) = .ok (.int b) := oIx_tup (n := 1) rfl rfl
@[simp] theorem oIx_t0 (a b : D) : oIx (.tup [a, b]) (.int 0) = .ok a := oIx_tup (n := 0) rfl rfl
@[simp] theorem oIx_t1 (a b : D) : oIx (.tup [a, b]) (.int 1) = .ok b := oIx_tup (n := 1) rfl rfl
@[simp] theorem oIx_q0 (q : Rat) : oIx (dQ q) (.int 0) = .ok (.int q.num) := oIx_p0 _ _
@[simp] theorem oIx_q1 (q : Rat) : oIx (dQ q) (.int 1) = .ok (.int (q.den : Int)) := oIx_p1 _ _
theorem den_pos' (q : Rat) : 0 < (q.den : Int) := by have := q.den_pos; omega
theorem num_div_den' (q : Rat) : (q.num : Rat) / ((q.den : Int) : Rat) = q := by
  rw [← Rat.divInt_eq_div]
  exact Rat.num_divInt_den q
theorem low_pos (a : Int) {b : Int} (hb : 0 < b) : ((a : Rat) / (b : Rat)).num = a / ((Int.gcd a b : Nat) : Int) ∧ ((((a : Rat) / (b : Rat)).den : Nat) : Int) = b / ((Int.gcd a b : Nat) : Int) := by
  rw [← Rat.divInt_eq_div, Rat.num_divInt, Rat.den_divInt, if_neg (by omega), Int.sign_eq_one_of_pos hb, Int.one_mul, Int.gcd_comm b a]
  refine ⟨rfl, ?_⟩
  rw [Int.natCast_ediv, Int.natAbs_of_nonneg (by omega)]
theorem low_neg (a : Int) {b : Int} (hb : b < 0) : ((a : Rat) / (b : Rat)).num = a.fdiv (-((Int.gcd a b : Nat) : Int)) ∧ ((((a : Rat) / (b : Rat)).den : Nat) : Int) = b.fdiv (-((Int.gcd a b : Nat) : Int)) := by
  have hg : 0 < ((Int.gcd a b : Nat) : Int) := by have := Int.gcd_pos_of_ne_zero_right a (show b ≠ 0 by omega); omega
  have da : ((Int.gcd a b : Nat) : Int) ∣ a := Int.gcd_dvd_left ..
  have db : ((Int.gcd a b : Nat) : Int) ∣ b := Int.gcd_dvd_right ..
  rw [← Rat.divInt_eq_div, Rat.num_divInt, Rat.den_divInt, if_neg (by omega), Int.sign_eq_neg_one_of_neg hb, Int.gcd_comm b a, Int.natCast_ediv]
  obtain ⟨x, hx⟩ := da
  obtain ⟨y, hy⟩ := db
  generalize ((Int.gcd a b : Nat) : Int) = g at hg hx hy
  have key : ∀ z : Int, (g * z).fdiv (-g) = -z := fun z => by
    have e : g * z = (-g) * (-z) := (Int.neg_mul_neg g z).symm
    rw [e, Int.mul_fdiv_cancel_left _ (by omega)]
  subst hx hy
  rw [key, key]
  have hy : y < 0 := by
    rcases Int.lt_or_le y 0 with q | q
    · exact q
    · have := Int.mul_nonneg (show 0 ≤ g by omega) q
      omega
  constructor
  · have e : -1 * (g * x) = g * (-x) := by grind
    rw [e, Int.mul_ediv_cancel_left _ (by omega)]
  · have e : ((g * y).natAbs : Int) = g * (-y) := by rw [Int.mul_neg]; omega
    rw [e, Int.mul_ediv_cancel_left _ (by omega)]
/-- value of a pair -/
theorem q_of {p q : Int} (hq : 0 < q) (x : Rat) : (p : Rat) / (q : Rat) = x ↔ (p : Rat) = x * (q : Rat) := by
  have : (q : Rat) ≠ 0 := by
    have := Rat.intCast_pos.mpr hq
    grind
  constructor
  · intro h; rw [← h, Rat.div_mul_cancel this]
  · intro h; rw [h, Rat.mul_div_cancel this]
theorem den_dvd {z D : Int} (hD : 0 < D) : ((((z : Rat) / (D : Rat)).den : Nat) : Int) ∣ D := by
  rw [(low_pos z hD).2]
  exact Int.ediv_dvd_of_dvd (Int.gcd_dvd_right ..)
end Fz
set_option Elab.async false
set_option linter.all false
set_option maxRecDepth 100000
/-! What many laws share: the plain functions (printed by std.py), what they give. -/
namespace Fz.Std
open PySem Fz
def m__law_mix : Fz.Env → Out := bSeq (sSet 2 (d2 oMod (dcall bInt (dcons (d2 oAdd (d2 oAdd (d2 oMul (dv 0) (dc (.int 48271))) (d2 oMul (dv 1) (dc (.int 69621)))) (dc (.int 7919))) dnil)) (dc (.int 2147483647)))) (bSeq (sSet 3 (d2 oMod (dcall bInt (dcons (d2 oAdd (d2 oAdd (d2 oMul (dv 2) (dc (.int 40692))) (d2 oMul (dv 1) (dc (.int 52774)))) (d2 oDiv (dv 2) (dc (.int 977)))) dnil)) (dc (.int 2147483399)))) (bSeq (sRet (d2 oMod (dcall bInt (dcons (d2 oAdd (d2 oMul (dv 3) (dc (.int 39373))) (d2 oDiv (dv 3) (dc (.int 1013)))) dnil)) (dc (.int 2147483647)))) sNx))
def f__law_mix : List D → Res D := runD .z 4 m__law_mix
def b__law_row_0 : Fz.Env → Out := bSeq (sIf (Fz.tAnd (tVal (d2 cGe (dcall bAbs (dcons (dv 0) dnil)) (d2 oPow (dc (.int 10)) (dc (.int 18))))) (tVal (d2 cGt (dv 4) (dc (.int 0))))) (bSeq (sApp 3 (d2 oMod (dcall bInt (dcons (dv 4) dnil)) (dv 2))) (bSeq (sSet 4 (d2 oDiv (dv 4) (dv 2))) sNx)) (bSeq (sApp 3 (d2 oMod (dcall bInt (dcons (dcall (withD 2 [] f__law_mix) (dcons (dv 0) (dcons (dv 5) dnil))) dnil)) (dv 2))) sNx)) sNx
def m__law_row : Fz.Env → Out := bSeq (sSet 3 (dcall oLst dnil)) (bSeq (sSet 4 (dcall bAbs (dcons (dv 0) dnil))) (bSeq (sFor (iArg rng1D (dcons (dv 1) dnil)) (tgN 5) b__law_row_0) (bSeq (sRet (dv 3)) sNx)))
def f__law_row : List D → Res D := runD .z 6 m__law_row
def m__law_cell : Fz.Env → Out := bSeq (sIf (tVal (d2 cLt (dv 1) (dcall bLen (dcons (dv 0) dnil)))) (bSeq (sRet (d2 oIx (dv 0) (dv 1))) sNx) sNx) (bSeq (sRet (dc (.int 0))) sNx)
def f__law_cell : List D → Res D := runD .z 2 m__law_cell
def m__law_is_whole : Fz.Env → Out := bSeq (sRet (dAnd (d1 (fun v => bIsi .int [v]) (dv 0)) (d1 oNot (d1 (fun v => bIsi .bool [v]) (dv 0))))) sNx
def f__law_is_whole : List D → Res D := runD .z 1 m__law_is_whole
def b__law_same_row_0 : Fz.Env → Out := bSeq (sIf (Fz.tOr (Fz.tNot (tTru (dcall (withD 1 [] f__law_is_whole) (dcons (d2 oIx (dv 0) (dv 2)) dnil)))) (tVal (d2 cNe (d2 oIx (dv 0) (dv 2)) (d2 oIx (dv 1) (dv 2))))) (bSeq (sRet (dc (.bl false))) sNx) sNx) sNx
def m__law_same_row : Fz.Env → Out := bSeq (sIf (Fz.tOr (Fz.tNot (tTru (d1 (fun v => bIsi .tuple [v]) (dv 0)))) (tVal (d2 cNe (dcall bLen (dcons (dv 0) dnil)) (dcall bLen (dcons (dv 1) dnil))))) (bSeq (sRet (dc (.bl false))) sNx) sNx) (bSeq (sFor (iArg rng1D (dcons (dcall bLen (dcons (dv 1) dnil)) dnil)) (tgN 2) b__law_same_row_0) (bSeq (sRet (dc (.bl true))) sNx))
def f__law_same_row : List D → Res D := runD .z 3 m__law_same_row
def m_lowest : Fz.Env → Out := bSeq (sSet 2 (dcall bGcd (dcons (dv 0) (dcons (dv 1) dnil)))) (bSeq (sIf (tVal (d2 cLt (dv 1) (dc (.int 0)))) (bSeq (sSet 2 (d1 oNeg (dv 2))) sNx) sNx) (bSeq (sRet (dcall oTup (dcons (d2 oDiv (dv 0) (dv 2)) (dcons (d2 oDiv (dv 1) (dv 2)) dnil)))) sNx))
def f_lowest : List D → Res D := runD .z 3 m_lowest
def m_added : Fz.Env → Out := bSeq (sRet (dcall (withD 2 [] f_lowest) (dcons (d2 oAdd (d2 oMul (d2 oIx (dv 0) (dc (.int 0))) (d2 oIx (dv 1) (dc (.int 1)))) (d2 oMul (d2 oIx (dv 1) (dc (.int 0))) (d2 oIx (dv 0) (dc (.int 1))))) (dcons (d2 oMul (d2 oIx (dv 0) (dc (.int 1))) (d2 oIx (dv 1) (dc (.int 1)))) dnil)))) sNx
def f_added : List D → Res D := runD .z 2 m_added
def m_times : Fz.Env → Out := bSeq (sRet (dcall (withD 2 [] f_lowest) (dcons (d2 oMul (d2 oIx (dv 0) (dc (.int 0))) (d2 oIx (dv 1) (dc (.int 0)))) (dcons (d2 oMul (d2 oIx (dv 0) (dc (.int 1))) (d2 oIx (dv 1) (dc (.int 1)))) dnil)))) sNx
def f_times : List D → Res D := runD .z 2 m_times
def b__law_gcd_0 : Fz.Env → Out := bSeq (sIf (tVal (d2 cEq (dv 1) (dc (.int 0)))) (bSeq (sRet (dv 0)) sNx) sNx) (bSeq (sSet 3 (d2 oMod (dcall bInt (dcons (dv 0) dnil)) (dv 1))) (bSeq (sSet 0 (dv 1)) (bSeq (sSet 1 (dv 3)) sNx)))
def m__law_gcd (N : Int) : Fz.Env → Out := bSeq (sSet 0 (dcall bAbs (dcons (dv 0) dnil))) (bSeq (sSet 1 (dcall bAbs (dcons (dv 1) dnil))) (bSeq (sFor (iArg rng1D (dcons (dc (.int N)) dnil)) (tgN 2) b__law_gcd_0) (bSeq (sRet (dv 0)) sNx)))
def f__law_gcd (N : Int) : List D → Res D := runD .z 4 (m__law_gcd N)
/-! ### the law's own numbers -/
theorem mix (c k : Int) : ∃ v, f__law_mix [.int c, .int k] = .ok (.int v) := by
  simp [f__law_mix, runD_eq, m__law_mix, startE, List.replicate, oMul_r, oDiv_p, oMod_p]
theorem pow18 : oPow (.int 10) (.int 18) = .ok (.int 1000000000000000000) := by simp [oPow, powOk]
theorem rng1_ok {n : Nat} (h : n ≤ 1000000) : rng1D [.int (n : Int)] = .ok (rngD 0 n) := by
  show (if smallI (n : Int) then Res.ok (rngD 0 (n : Int).toNat) else .bad) = _
  rw [if_pos (by unfold smallI; omega), Int.toNat_natCast]
theorem row_ok (c l : Int) (n : Nat) (hn : n ≤ 1000) (hl : 0 < l) (hl2 : l < 1073741824) : ∃ row : List Int, f__law_row [.int c, .int (n : Int), .int l] = .ok (lstI row) ∧ row.length = n ∧ ∀ x ∈ row, 0 ≤ x ∧ x < l := by
  have snoc : ∀ {row : List Int} {v : Int}, (∀ x ∈ row, 0 ≤ x ∧ x < l) → ∀ x ∈ row ++ [v % l], 0 ≤ x ∧ x < l := fun {row v} hx x h => by
    rcases List.mem_append.mp h with h | h
    · exact hx x h
    · simp at h; subst h
      exact ⟨Int.emod_nonneg _ (by omega), Int.emod_lt_of_pos _ hl⟩
  obtain ⟨e', h1, row, left, o, rfl, h2, h3⟩ := loop_rng (lo := 0) (tg := tgN 5) (body := b__law_row_0) n
    (fun i e => ∃ row left o, e = [some (.int c), some (.int (n : Int)), some (.int l), some (lstI row), some (.int left), o] ∧ row.length = i ∧ ∀ x ∈ row, 0 ≤ x ∧ x < l)
    (fun i e hi ⟨row, left, o, he, hr, hx⟩ => by
      subst he
      have hz : row.length < 16777216 := by omega
      refine ⟨_, rfl, ?_⟩
      obtain ⟨v, hv⟩ := mix c i
      by_cases q1 : 1000000000000000000 ≤ (if c < 0 then -c else c)
      · by_cases q2 : 0 < left
        · simp [b__law_row_0, pow18, q1, q2, oMod_p hl, oDiv_p hl hl2, hz]
          exact ⟨row ++ [left % l], by simp, by simp [hr], snoc hx⟩
        · simp [b__law_row_0, pow18, q1, q2, hv, oMod_p hl, hz]
          exact ⟨row ++ [v % l], by simp, by simp [hr], snoc hx⟩
      · simp [b__law_row_0, pow18, q1, hv, oMod_p hl, hz]
        exact ⟨row ++ [v % l], by simp, by simp [hr], snoc hx⟩)
    [some (.int c), some (.int (n : Int)), some (.int l), some (.lst []), some (.int (if c < 0 then -c else c)), none] ⟨[], _, none, rfl, rfl, fun x h => by cases h⟩
  refine ⟨row, ?_, h2, h3⟩
  simp [f__law_row, runD_eq, m__law_row, startE, List.replicate, rng1_ok (n := n) (by omega), h1]
theorem cell_ok (ns : List Int) (k : Nat) : ∃ v, f__law_cell [.scr (dI ns), .int (k : Int)] = .ok (.int v) := by
  by_cases h : k < ns.length
  · refine ⟨nth ns k, ?_⟩
    have hx : oIx (.scr (dI ns)) (.int (k : Int)) = .ok (.int (nth ns k)) := oIx_scr rfl (dI_get h)
    have hk : (k : Int) < (ns.length : Int) := by omega
    simp [f__law_cell, runD_eq, m__law_cell, startE, List.replicate, hx, hk]
  · refine ⟨0, ?_⟩
    have hk : ¬ (k : Int) < (ns.length : Int) := by omega
    simp [f__law_cell, runD_eq, m__law_cell, startE, List.replicate, hk]
theorem whole_int (i : Int) : f__law_is_whole [.int i] = .ok (.bl true) := by
  simp [f__law_is_whole, runD_eq, m__law_is_whole, startE, bIsi, plainD, isTy]
theorem same_row_yes (xs : List Int) (h : xs.length ≤ 1000000) : f__law_same_row [tupI xs, lstI xs] = .ok (.bl true) := by
  obtain ⟨e', h1, o, rfl⟩ := loop_rng (lo := 0) (tg := tgN 2) (body := b__law_same_row_0) xs.length (fun i e => ∃ o, e = [some (tupI xs), some (lstI xs), o])
    (fun i e hi ⟨o, he⟩ => by
      subst he
      refine ⟨_, rfl, _, .inl ?_, some (.int i), rfl⟩
      simp [b__law_same_row_0, oIx_dN hi, oIx_dNl hi, whole_int]) [some (tupI xs), some (lstI xs), none] ⟨none, rfl⟩
  simp [f__law_same_row, runD_eq, m__law_same_row, startE, List.replicate, bIsi, plainD, isTy, rng1_ok h, h1]
theorem same_row_no (xs ys : List Int) (h : xs.length ≠ ys.length) : f__law_same_row [tupI xs, lstI ys] = .ok (.bl false) := by
  have h2 : ¬ (xs.length : Int) = (ys.length : Int) := by omega
  simp [f__law_same_row, runD_eq, m__law_same_row, startE, List.replicate, bIsi, plainD, isTy, h2]

/-! ### the greatest common divisor -/
theorem gcd_step (a b : Int) (h1 : 0 ≤ a) (h2 : 0 ≤ b) : Int.gcd b (a % b) = Int.gcd a b := by
  obtain ⟨m, rfl⟩ : ∃ m : Nat, a = (m : Int) := ⟨a.toNat, by omega⟩
  obtain ⟨n, rfl⟩ : ∃ n : Nat, b = (n : Int) := ⟨b.toNat, by omega⟩
  rw [← Int.natCast_emod]
  show Nat.gcd n (m % n) = Nat.gcd m n
  rw [Nat.gcd_comm m n, Nat.gcd_comm n (m % n)]
  exact (Nat.gcd_rec n m).symm
theorem gcd_loop0 (d : D) (r : List D) (a : Int) (o2 o3 : Option D) (ha : 0 ≤ a) : loopD (tgN 2) b__law_gcd_0 (d :: r) [some (.int a), some (.int 0), o2, o3] = .ret (.int (Int.gcd a 0)) := by
  have e : (a.natAbs : Int) = a := by omega
  exact loopD_ret rfl (by simp [b__law_gcd_0, e])
theorem gcd_loop1 (d : D) (r : List D) (a b : Int) (o2 o3 : Option D) (ha : 0 ≤ a) (hb : 0 < b) : loopD (tgN 2) b__law_gcd_0 (d :: r) [some (.int a), some (.int b), o2, o3] = loopD (tgN 2) b__law_gcd_0 r [some (.int b), some (.int (a % b)), some d, some (.int (a % b))] := by
  have q : ¬ b = 0 := by omega
  exact loopD_nx rfl (by simp [b__law_gcd_0, q, oMod_p hb])
/-- two turns halve the smaller number -/
theorem gcd_loop : ∀ (k : Nat) (ds : List D) (a b : Int) (o2 o3 : Option D), 0 ≤ a → 0 ≤ b → Sz k b → 2 * k + 1 ≤ ds.length → loopD (tgN 2) b__law_gcd_0 ds [some (.int a), some (.int b), o2, o3] = .ret (.int (Int.gcd a b))
  | 0, d :: r, a, b, o2, o3, h1, h2, h3, h4 => by
    have : b = 0 := by unfold Sz at h3; simp at h3; exact h3
    subst this
    exact gcd_loop0 d r a o2 o3 h1
  | k, [], a, b, o2, o3, h1, h2, h3, h4 => by simp at h4
  | k + 1, [d], a, b, o2, o3, h1, h2, h3, h4 => by simp at h4
  | k + 1, d :: d2 :: r, a, b, o2, o3, h1, h2, h3, h4 => by
    by_cases q : b = 0
    · subst q; exact gcd_loop0 d _ a o2 o3 h1
    · have hb : 0 < b := by omega
      have n1 := Int.emod_nonneg a q
      have n2 := Int.emod_lt_of_pos a hb
      rw [gcd_loop1 d _ a b o2 o3 h1 hb]
      by_cases q2 : a % b = 0
      · rw [q2, gcd_loop0 d2 r b _ _ h2, ← gcd_step a b h1 h2, q2]
      · have hc : 0 < a % b := by omega
        have n3 := Int.emod_nonneg b q2
        have n4 := Int.emod_lt_of_pos b hc
        have n5 : 2 * (b % (a % b)) < b := by
          have e := Int.mul_ediv_add_emod b (a % b)
          have e2 : 1 ≤ b / (a % b) := by rw [Int.le_ediv_iff_mul_le hc]; omega
          have e3 : (a % b) * 1 ≤ (a % b) * (b / (a % b)) := Int.mul_le_mul_of_nonneg_left e2 (by omega)
          omega
        rw [gcd_loop1 d2 r b (a % b) _ _ h2 hc]
        have h3' : Sz k (b % (a % b)) := by
          unfold Sz at h3 ⊢
          rw [Nat.pow_succ] at h3; omega
        rw [gcd_loop k r (a % b) (b % (a % b)) _ _ n1 n3 h3' (by simp at h4; omega), gcd_step b (a % b) h2 n1, gcd_step a b h1 h2]
theorem gcd_ok (N : Nat) (hN : N ≤ 1000000) (a b : Int) {k : Nat} (h : Sz k b) (hk : 2 * k + 1 ≤ N) : f__law_gcd N [.int a, .int b] = .ok (.int (Int.gcd a b)) := by
  have ea : (if a < 0 then -a else a) = (a.natAbs : Int) := by split <;> omega
  have eb : (if b < 0 then -b else b) = (b.natAbs : Int) := by split <;> omega
  have eg : Int.gcd (a.natAbs : Int) (b.natAbs : Int) = Int.gcd a b := by simp [Int.gcd]
  have hb : Sz k (b.natAbs : Int) := by unfold Sz at *; simpa using h
  have main := gcd_loop k (rngD 0 N) (a.natAbs : Int) (b.natAbs : Int) none none (by omega) (by omega) hb (by rw [rngD_length]; exact hk)
  rw [eg] at main
  simp [f__law_gcd, runD_eq, m__law_gcd, startE, List.replicate, rng1_ok hN, ea, eb, main]
/-! ### exact numbers -/
theorem lowest_ok (a : Int) {b : Int} {k : Nat} (hb : b ≠ 0) (h : Sz k b) (hk : k ≤ 9000) : f_lowest [.int a, .int b] = .ok (dQ ((a : Rat) / (b : Rat))) := by
  have hg : 0 < ((Int.gcd a b : Nat) : Int) := by have := Int.gcd_pos_of_ne_zero_right a hb; omega
  have sg : Sz k ((Int.gcd a b : Nat) : Int) := h.tdvd (Int.gcd_dvd_right ..) hb
  by_cases q : b < 0
  · obtain ⟨e1, e2⟩ := low_neg a q
    simp [f_lowest, runD_eq, m_lowest, startE, List.replicate, q, oDiv_szn sg.neg (show -((Int.gcd a b : Nat) : Int) ≠ 0 by omega) hk, dQ, e1, e2]
  · obtain ⟨e1, e2⟩ := low_pos a (show 0 < b by omega)
    simp [f_lowest, runD_eq, m_lowest, startE, List.replicate, q, oDiv_sz sg hg hk, dQ, e1, e2]
/-- a pair of which a law says that it is exact -/
theorem addQ (x y : Rat) : ((x.num * (y.den : Int) + y.num * (x.den : Int) : Int) : Rat) / (((x.den : Int) * (y.den : Int) : Int) : Rat) = x + y := by
  have h1 := num_div_den' x
  have h2 := num_div_den' y
  have p1 := Rat.intCast_pos.mpr (den_pos' x)
  have p2 := Rat.intCast_pos.mpr (den_pos' y)
  rw [Rat.intCast_add, Rat.intCast_mul, Rat.intCast_mul, Rat.intCast_mul]
  generalize ((x.den : Int) : Rat) = a at *
  generalize ((y.den : Int) : Rat) = b at *
  generalize (x.num : Rat) = c at *
  generalize (y.num : Rat) = d at *
  rw [← h1, ← h2]
  grind
theorem mulQ (x y : Rat) : ((x.num * y.num : Int) : Rat) / (((x.den : Int) * (y.den : Int) : Int) : Rat) = x * y := by
  have h1 := num_div_den' x
  have h2 := num_div_den' y
  have p1 := Rat.intCast_pos.mpr (den_pos' x)
  have p2 := Rat.intCast_pos.mpr (den_pos' y)
  rw [Rat.intCast_mul, Rat.intCast_mul]
  generalize ((x.den : Int) : Rat) = a at *
  generalize ((y.den : Int) : Rat) = b at *
  generalize (x.num : Rat) = c at *
  generalize (y.num : Rat) = d at *
  rw [← h1, ← h2]
  grind
theorem den_ne (q : Rat) : (q.den : Int) ≠ 0 := by have := den_pos' q; omega
theorem den_mul_ne (x y : Rat) : (x.den : Int) * (y.den : Int) ≠ 0 := Int.mul_ne_zero (den_ne x) (den_ne y)
theorem added_ok {x y : Rat} {n m d e : Nat} (h1 : Sz n x.num) (h2 : Sz m y.num) (h3 : Sz d (x.den : Int)) (h4 : Sz e (y.den : Int)) (hs : n + e ≤ 900000) (hs2 : m + d ≤ 900000) (hk : d + e ≤ 9000) : f_added [dQ x, dQ y] = .ok (dQ (x + y)) := by
  rw [← addQ x y]
  simp [f_added, runD_eq, m_added, startE, List.replicate, oMul_sz h1 h4 hs, oMul_sz h2 h3 hs2, oMul_sz h3 h4 (show d + e ≤ 900000 by omega), lowest_ok (x.num * (y.den : Int) + y.num * (x.den : Int)) (den_mul_ne x y) (h3.mul h4) hk]
theorem times_ok {x y : Rat} {n m d e : Nat} (h1 : Sz n x.num) (h2 : Sz m y.num) (h3 : Sz d (x.den : Int)) (h4 : Sz e (y.den : Int)) (hs : n + m ≤ 900000) (hk : d + e ≤ 9000) : f_times [dQ x, dQ y] = .ok (dQ (x * y)) := by
  rw [← mulQ x y]
  simp [f_times, runD_eq, m_times, startE, List.replicate, oMul_sz h1 h2 hs, oMul_sz h3 h4 (show d + e ≤ 900000 by omega), lowest_ok (x.num * y.num) (den_mul_ne x y) (h3.mul h4) hk]
end Fz.Std
set_option Elab.async false
set_option linter.all false
set_option maxRecDepth 100000
/-! Streets: the plain mathematics. -/
namespace P12
abbrev Row := Int × Int   -- slope, base
def pos (x : Rat) : Rat := if 0 < x then x else 0
theorem pos_nonneg (x : Rat) : 0 ≤ pos x := by unfold pos; split <;> grind
/-- the amount at level l, slopes f times as large -/
def amt (f : Rat) (l : Rat) (r : Row) : Rat := pos (l - (r.2 : Rat)) / (f * (r.1 : Rat))
structure GoodR (r : Row) : Prop where
  s : 1 ≤ r.1
  b : 0 ≤ r.2
theorem GoodR.sq {r : Row} (g : GoodR r) : 1 ≤ (r.1 : Rat) := by
  have := Rat.intCast_le_intCast.mpr g.s
  simpa using this
theorem GoodR.bq {r : Row} (g : GoodR r) : 0 ≤ (r.2 : Rat) := Rat.intCast_nonneg.mpr g.b
theorem amt_nonneg {f l : Rat} {r : Row} (hf : 1 ≤ f) (g : GoodR r) : 0 ≤ amt f l r := by
  unfold amt
  have h1 := pos_nonneg (l - (r.2 : Rat))
  have h2 := g.sq
  have h3 : 0 < f * (r.1 : Rat) := Rat.mul_pos (by grind) (by grind)
  have h4 := Rat.inv_pos.mpr h3
  rw [Rat.div_def]
  exact Rat.mul_nonneg h1 (by grind)
/-- used: the street costs the level; not used: not less -/
theorem amt_cost {f l : Rat} {r : Row} (hf : 1 ≤ f) (g : GoodR r) : (0 < amt f l r ∧ f * (r.1 : Rat) * amt f l r + (r.2 : Rat) = l) ∨ (amt f l r = 0 ∧ l ≤ (r.2 : Rat)) := by
  unfold amt pos
  have h2 := g.sq
  have h3 : 0 < f * (r.1 : Rat) := Rat.mul_pos (by grind) (by grind)
  have h4 := Rat.inv_pos.mpr h3
  by_cases q : 0 < l - (r.2 : Rat)
  · left
    rw [if_pos q]
    refine ⟨?_, ?_⟩
    · rw [Rat.div_def]; exact Rat.mul_pos q h4
    · have := Rat.div_mul_cancel (a := l - (r.2 : Rat)) (b := f * (r.1 : Rat)) (by grind)
      grind
  · right
    rw [if_neg q]
    refine ⟨?_, by grind⟩
    rw [Rat.div_def]; grind
def cost : List Row → List Rat → Rat
  | r :: rs, x :: xs => ((r.1 : Rat) * x + (r.2 : Rat)) * x + cost rs xs
  | _, _ => 0
/-- the least cost -/
theorem cost_best (m : Rat) : ∀ (rs : List Row) (ys : List Rat), (∀ r ∈ rs, GoodR r) → (∀ y ∈ ys, 0 ≤ y) → ys.length = rs.length → cost rs (rs.map (amt 2 m)) + m * (ys.sum - (rs.map (amt 2 m)).sum) ≤ cost rs ys
  | [], [], _, _, _ => by simp [cost]; grind
  | [], _ :: _, _, _, h => by simp at h
  | _ :: _, [], _, _, h => by simp at h
  | r :: rs, y :: ys, hr, hy, hl => by
    have ih := cost_best m rs ys (fun x hx => hr x (List.mem_cons_of_mem _ hx)) (fun x hx => hy x (List.mem_cons_of_mem _ hx)) (by simpa using hl)
    have g := hr r List.mem_cons_self
    have y0 := hy y List.mem_cons_self
    simp only [List.map_cons, List.sum_cons, cost]
    have s1 := g.sq
    have key : ((r.1 : Rat) * amt 2 m r + (r.2 : Rat)) * amt 2 m r + m * (y - amt 2 m r) ≤ ((r.1 : Rat) * y + (r.2 : Rat)) * y := by
      have sq : 0 ≤ (r.1 : Rat) * ((y - amt 2 m r) * (y - amt 2 m r)) := by
        refine Rat.mul_nonneg (by grind) ?_
        rcases Rat.le_total (a := 0) (b := y - amt 2 m r) with q | q
        · exact Rat.mul_nonneg q q
        · have := Rat.mul_nonneg (show 0 ≤ -(y - amt 2 m r) by grind) (show 0 ≤ -(y - amt 2 m r) by grind)
          grind
      rcases amt_cost (f := 2) (l := m) (by grind) g with ⟨_, h⟩ | ⟨h1, h2⟩
      · generalize amt 2 m r = x at *
        subst h
        grind
      · rw [h1] at sq ⊢
        have := Rat.mul_nonneg (show 0 ≤ (r.2 : Rat) - m by grind) y0
        grind
    generalize cost rs (rs.map (amt 2 m)) = A at *
    generalize cost rs ys = B at *
    generalize (rs.map (amt 2 m)).sum = C at *
    generalize ys.sum = E at *
    grind
theorem cost_even (l : Rat) : ∀ (rs : List Row), (∀ r ∈ rs, GoodR r) → cost rs (rs.map (amt 1 l)) = l * (rs.map (amt 1 l)).sum
  | [], _ => by simp [cost]
  | r :: rs, hr => by
    have ih := cost_even l rs (fun x hx => hr x (List.mem_cons_of_mem _ hx))
    simp only [List.map_cons, List.sum_cons, cost]
    rw [ih]
    rcases amt_cost (f := 1) (l := l) (by grind) (hr r List.mem_cons_self) with ⟨_, h⟩ | ⟨h1, h2⟩
    · rw [Rat.mul_add]
      congr 1
      rw [show (r.1 : Rat) * amt 1 l r + (r.2 : Rat) = l by grind]
    · rw [h1]; grind
/-- the dearness -/
theorem cost_dear (l : Rat) : ∀ (rs : List Row) (ys : List Rat), (∀ r ∈ rs, GoodR r) → (∀ y ∈ ys, 0 ≤ y) → ys.length = rs.length → 4 * (l * ys.sum) ≤ 4 * cost rs ys + cost rs (rs.map (amt 1 l))
  | [], [], _, _, _ => by simp [cost]; grind
  | [], _ :: _, _, _, h => by simp at h
  | _ :: _, [], _, _, h => by simp at h
  | r :: rs, y :: ys, hr, hy, hl => by
    have ih := cost_dear l rs ys (fun x hx => hr x (List.mem_cons_of_mem _ hx)) (fun x hx => hy x (List.mem_cons_of_mem _ hx)) (by simpa using hl)
    have g := hr r List.mem_cons_self
    have y0 := hy y List.mem_cons_self
    have a0 := amt_nonneg (f := 1) (l := l) (by grind) g
    simp only [List.map_cons, List.sum_cons, cost]
    have s1 := g.sq
    have b0 := g.bq
    have key : 4 * (l * y) ≤ 4 * (((r.1 : Rat) * y + (r.2 : Rat)) * y) + ((r.1 : Rat) * amt 1 l r + (r.2 : Rat)) * amt 1 l r := by
      have sq : 0 ≤ (r.1 : Rat) * ((2 * y - amt 1 l r) * (2 * y - amt 1 l r)) := by
        refine Rat.mul_nonneg (by grind) ?_
        rcases Rat.le_total (a := 0) (b := 2 * y - amt 1 l r) with q | q
        · exact Rat.mul_nonneg q q
        · have := Rat.mul_nonneg (show 0 ≤ -(2 * y - amt 1 l r) by grind) (show 0 ≤ -(2 * y - amt 1 l r) by grind)
          grind
      have ba := Rat.mul_nonneg b0 a0
      rcases amt_cost (f := 1) (l := l) (by grind) g with ⟨_, h⟩ | ⟨h1, h2⟩
      · generalize amt 1 l r = x at *
        subst h
        grind
      · rw [h1] at sq ⊢
        have := Rat.mul_nonneg (show 0 ≤ (r.2 : Rat) - l by grind) y0
        grind
    generalize cost rs (rs.map (amt 1 l)) = A at *
    generalize cost rs ys = B at *
    generalize ys.sum = E at *
    grind
theorem cost_nonneg : ∀ (rs : List Row) (ys : List Rat), (∀ r ∈ rs, GoodR r) → (∀ y ∈ ys, 0 ≤ y) → 0 ≤ cost rs ys
  | [], _, _, _ => by simp [cost]
  | _ :: _, [], _, _ => by simp [cost]
  | r :: rs, y :: ys, hr, hy => by
    have ih := cost_nonneg rs ys (fun x hx => hr x (List.mem_cons_of_mem _ hx)) (fun x hx => hy x (List.mem_cons_of_mem _ hx))
    have g := hr r List.mem_cons_self
    have y0 := hy y List.mem_cons_self
    have s1 := g.sq
    have b0 := g.bq
    have h1 := Rat.mul_nonneg (show 0 ≤ (r.1 : Rat) by grind) y0
    have h2 := Rat.mul_nonneg (show 0 ≤ (r.1 : Rat) * y + (r.2 : Rat) by grind) y0
    simp only [cost]
    grind
theorem sum_nonneg : ∀ {ys : List Rat}, (∀ y ∈ ys, 0 ≤ y) → 0 ≤ ys.sum
  | [], _ => by simp
  | y :: ys, hy => by
    have ih := sum_nonneg (ys := ys) (fun x hx => hy x (List.mem_cons_of_mem _ hx))
    have := hy y List.mem_cons_self
    simp only [List.sum_cons]
    grind
theorem cost_pos : ∀ (rs : List Row) (ys : List Rat), (∀ r ∈ rs, GoodR r) → (∀ y ∈ ys, 0 ≤ y) → ys.length = rs.length → 0 < ys.sum → 0 < cost rs ys
  | [], [], _, _, _, h => by simp at h
  | [], _ :: _, _, _, h, _ => by simp at h
  | _ :: _, [], _, _, h, _ => by simp at h
  | r :: rs, y :: ys, hr, hy, hl, hs => by
    have hr' : ∀ r ∈ rs, GoodR r := fun x hx => hr x (List.mem_cons_of_mem _ hx)
    have hy' : ∀ y ∈ ys, 0 ≤ y := fun x hx => hy x (List.mem_cons_of_mem _ hx)
    have g := hr r List.mem_cons_self
    have y0 := hy y List.mem_cons_self
    have s1 := g.sq
    have b0 := g.bq
    simp only [List.sum_cons] at hs
    simp only [cost]
    have c0 := cost_nonneg rs ys hr' hy'
    by_cases q : 0 < y
    · have h1 := Rat.mul_pos (show 0 < (r.1 : Rat) by grind) q
      have h2 := Rat.mul_pos (show 0 < (r.1 : Rat) * y + (r.2 : Rat) by grind) q
      grind
    · have e : y = 0 := by grind
      subst e
      have := cost_pos rs ys hr' hy' (by simpa using hl) (by grind)
      grind
theorem sum_perm {a b : List Rat} (h : a.Perm b) : a.sum = b.sum := by
  induction h with
  | nil => rfl
  | cons x _ ih => simp only [List.sum_cons, ih]
  | swap x y l => simp only [List.sum_cons]; grind
  | trans _ _ h1 h2 => exact h1.trans h2

/-! ### the level -/
/-- the loop over the sorted rows [base, slope] -/
def fill (L : Int) : List Row → Int → Int → Int × Int
  | [], T, W => (T, W)
  | r :: q, T, W => if 0 < W ∧ T ≤ r.2 * W then (T, W) else fill L q (T + r.2 * (L / r.1)) (W + L / r.1)
def share (L : Int) (P : List Row) : Int := (P.map fun r => L / r.1).sum
def weigh (L : Int) (P : List Row) : Int := (P.map fun r => r.2 * (L / r.1)).sum
structure Filled (L m : Int) (P R : List Row) (T W : Int) : Prop where
  t : T = m * L + weigh L P
  w : W = share L P
  below : ∀ r ∈ P, r.2 * W ≤ T
  above : ∀ r ∈ R, T ≤ r.2 * W
theorem share_snoc (L : Int) (P : List Row) (r : Row) : share L (P ++ [r]) = share L P + L / r.1 := by simp [share]
theorem weigh_snoc (L : Int) (P : List Row) (r : Row) : weigh L (P ++ [r]) = weigh L P + r.2 * (L / r.1) := by simp [weigh]
theorem share_nonneg {L : Int} {P : List Row} (hL : 0 < L) (h : ∀ r ∈ P, GoodR r) : 0 ≤ share L P := by
  induction P with
  | nil => simp [share]
  | cons r P ih =>
    have := ih fun x hx => h x (List.mem_cons_of_mem _ hx)
    have g := h r List.mem_cons_self
    have e : 0 ≤ L / r.1 := Int.ediv_nonneg (by omega) (by have := g.s; omega)
    simp [share] at this ⊢
    omega
theorem weigh_nonneg {L : Int} {P : List Row} (hL : 0 < L) (h : ∀ r ∈ P, GoodR r) : 0 ≤ weigh L P := by
  induction P with
  | nil => simp [weigh]
  | cons r P ih =>
    have := ih fun x hx => h x (List.mem_cons_of_mem _ hx)
    have g := h r List.mem_cons_self
    have e : 0 ≤ L / r.1 := Int.ediv_nonneg (by omega) (by have := g.s; omega)
    have := Int.mul_nonneg g.b e
    simp [weigh] at *
    omega
theorem fill_ok {L m : Int} (hL : 0 < L) (hm : 0 ≤ m) : ∀ (q P : List Row) (T W : Int), (∀ r ∈ P ++ q, GoodR r ∧ r.1 ∣ L) → (P ++ q).Pairwise (fun a b => a.2 ≤ b.2) → T = m * L + weigh L P → W = share L P → (∀ r ∈ P, r.2 * W ≤ T) →
    ∃ P' R, P ++ q = P' ++ R ∧ Filled L m P' R (fill L q T W).1 (fill L q T W).2 ∧ P.length ≤ P'.length ∧ (P ≠ [] ∨ q ≠ [] → P' ≠ [])
  | [], P, T, W, _, _, ht, hw, hb => ⟨P, [], rfl, ⟨ht, hw, hb, fun r h => by cases h⟩, Nat.le_refl _, fun h => by simpa using h⟩
  | r :: q, P, T, W, hg, hs, ht, hw, hb => by
    have e : P ++ r :: q = (P ++ [r]) ++ q := by simp
    unfold fill
    by_cases c : 0 < W ∧ T ≤ r.2 * W
    · rw [if_pos c]
      refine ⟨P, r :: q, rfl, ⟨ht, hw, hb, fun x hx => ?_⟩, Nat.le_refl _, fun _ => ?_⟩
      · rcases List.mem_cons.mp hx with z | z
        · rw [z]; exact c.2
        · have h2 := (List.pairwise_append.mp hs).2.1
          have h3 := (List.pairwise_cons.mp h2).1 x z
          have := Int.mul_le_mul_of_nonneg_right h3 (show 0 ≤ W by omega)
          exact Int.le_trans c.2 this
      · rintro rfl
        simp [share] at hw
        omega
    · rw [if_neg c]
      obtain ⟨gr, dr⟩ := hg r (by simp)
      have cp : 0 < L / r.1 := Int.ediv_pos_of_pos_of_dvd hL (by have := gr.s; omega) dr
      obtain ⟨P', R, h1, h2, h3, h4⟩ := fill_ok hL hm q (P ++ [r]) (T + r.2 * (L / r.1)) (W + L / r.1) (by rw [← e]; exact hg) (by rw [← e]; exact hs) (by rw [weigh_snoc, ht]; omega) (by rw [share_snoc, hw]) (fun x hx => by
        rcases List.mem_append.mp hx with z | z
        · have h5 := hb x z
          have h6 : x.2 ≤ r.2 := (List.pairwise_append.mp hs).2.2 x z r List.mem_cons_self
          have := Int.mul_le_mul_of_nonneg_right h6 (show 0 ≤ L / r.1 by omega)
          rw [Int.mul_add]; omega
        · simp at z; subst z
          rw [Int.mul_add]
          have : x.2 * W ≤ T := by
            by_cases w : 0 < W
            · have : ¬ T ≤ x.2 * W := fun z => c ⟨w, z⟩
              omega
            · have w0 : W = 0 := by
                have := share_nonneg hL (P := P) fun y hy => (hg y (List.mem_append_left _ hy)).1
                omega
              rw [w0, Int.mul_zero, ht]
              have h7 : 0 ≤ weigh L P := weigh_nonneg hL fun y hy => (hg y (List.mem_append_left _ hy)).1
              have := Int.mul_nonneg hm (show 0 ≤ L by omega)
              omega
          omega)
      exact ⟨P', R, by rw [e, h1], h2, by simp at h3; omega, fun _ => h4 (.inl (by simp))⟩
theorem share_pos {L : Int} {P : List Row} (hL : 0 < L) (h : ∀ r ∈ P, GoodR r ∧ r.1 ∣ L) (hP : P ≠ []) : 0 < share L P := by
  cases P with
  | nil => exact absurd rfl hP
  | cons r P =>
    have := share_nonneg hL (P := P) fun x hx => (h x (List.mem_cons_of_mem _ hx)).1
    obtain ⟨g, d⟩ := h r List.mem_cons_self
    have e : 0 < L / r.1 := Int.ediv_pos_of_pos_of_dvd hL (by have := g.s; omega) d
    simp [share] at this ⊢
    omega
theorem amt_sumP {L : Int} {l : Rat} (hL : 0 < L) : ∀ {P : List Row}, (∀ r ∈ P, GoodR r ∧ r.1 ∣ L) → (∀ r ∈ P, (r.2 : Rat) ≤ l) → (P.map (amt 1 l)).sum * (L : Rat) = l * (share L P : Rat) - (weigh L P : Rat)
  | [], _, _ => by simp [share, weigh]; grind
  | r :: P, h, hb => by
    have ih := amt_sumP hL (P := P) (fun x hx => h x (List.mem_cons_of_mem _ hx)) fun x hx => hb x (List.mem_cons_of_mem _ hx)
    obtain ⟨g, c, hc⟩ := h r List.mem_cons_self
    have b0 := hb r List.mem_cons_self
    have e1 : L / r.1 = c := by rw [hc]; exact Int.mul_ediv_cancel_left _ (by have := g.s; omega)
    have s1 := g.sq
    have key : amt 1 l r * (r.1 : Rat) = l - (r.2 : Rat) := by
      rcases amt_cost (f := 1) (l := l) (by grind) g with ⟨_, k⟩ | ⟨k1, k2⟩
      · grind
      · rw [k1]; grind
    have eL : (L : Rat) = (r.1 : Rat) * (c : Rat) := by rw [hc, Rat.intCast_mul]
    have e2 : share L (r :: P) = c + share L P := by simp [share, e1]
    have e3 : weigh L (r :: P) = r.2 * c + weigh L P := by simp [weigh, e1]
    rw [e2, e3, Rat.intCast_add, Rat.intCast_add, Rat.intCast_mul]
    simp only [List.map_cons, List.sum_cons]
    rw [Rat.add_mul, ih, eL]
    grind
theorem amt_sumR {l : Rat} : ∀ {R : List Row}, (∀ r ∈ R, l ≤ (r.2 : Rat)) → (R.map (amt 1 l)).sum = 0
  | [], _ => by simp
  | r :: R, hb => by
    have ih := amt_sumR (R := R) fun x hx => hb x (List.mem_cons_of_mem _ hx)
    have b0 := hb r List.mem_cons_self
    simp only [List.map_cons, List.sum_cons]
    rw [ih]
    unfold amt pos
    rw [if_neg (by grind), Rat.div_def]
    grind
theorem filled_level {L m : Int} {P R : List Row} {T W : Int} (hL : 0 < L) (h : ∀ r ∈ P ++ R, GoodR r ∧ r.1 ∣ L) (F : Filled L m P R T W) (hP : P ≠ []) : 0 < W ∧ ((P ++ R).map (amt 1 ((T : Rat) / (W : Rat)))).sum = (m : Rat) ∧ ∃ r ∈ P ++ R, (r.2 : Rat) ≤ (T : Rat) / (W : Rat) := by
  have hW : 0 < W := by rw [F.w]; exact share_pos hL (fun r hr => h r (List.mem_append_left _ hr)) hP
  have hWq := Rat.intCast_pos.mpr hW
  have hLq := Rat.intCast_pos.mpr hL
  have le : ∀ r ∈ P, (r.2 : Rat) ≤ (T : Rat) / (W : Rat) := fun r hr => by
    have := Rat.intCast_le_intCast.mpr (F.below r hr)
    rw [Rat.intCast_mul] at this
    exact Rat.not_lt.mp fun z => by
      have := (Rat.div_lt_iff hWq).mp z
      grind
  have ge : ∀ r ∈ R, (T : Rat) / (W : Rat) ≤ (r.2 : Rat) := fun r hr => by
    have := Rat.intCast_le_intCast.mpr (F.above r hr)
    rw [Rat.intCast_mul] at this
    exact Rat.not_lt.mp fun z => by
      have := (Rat.lt_div_iff hWq).mp z
      grind
  refine ⟨hW, ?_, ?_⟩
  · rw [List.map_append, List.sum_append, amt_sumR ge]
    have k := amt_sumP (l := (T : Rat) / (W : Rat)) hL (fun r hr => h r (List.mem_append_left _ hr)) le
    rw [← F.w, Rat.div_mul_cancel (by grind)] at k
    have e := congrArg (fun z : Int => (z : Rat)) F.t
    simp only [Rat.intCast_add, Rat.intCast_mul] at e
    have e2 : (P.map (amt 1 ((T : Rat) / (W : Rat)))).sum * (L : Rat) = (m : Rat) * (L : Rat) := by grind
    have e3 : (P.map (amt 1 ((T : Rat) / (W : Rat)))).sum = (m : Rat) := by
      have := Rat.mul_div_cancel (a := (P.map (amt 1 ((T : Rat) / (W : Rat)))).sum) (b := (L : Rat)) (by grind)
      rw [e2, Rat.mul_div_cancel (by grind)] at this
      exact this.symm
    rw [e3]; grind
  · cases P with
    | nil => exact absurd rfl hP
    | cons r P => exact ⟨r, by simp, le r List.mem_cons_self⟩
theorem sum_zero : ∀ {ys : List Rat}, (∀ y ∈ ys, 0 ≤ y) → ys.sum = 0 → ∀ y ∈ ys, y = 0
  | [], _, _, y, h => by cases h
  | x :: ys, hy, hs, y, h => by
    have n := sum_nonneg (ys := ys) fun x hx => hy x (List.mem_cons_of_mem _ hx)
    have x0 := hy x List.mem_cons_self
    simp only [List.sum_cons] at hs
    rcases List.mem_cons.mp h with z | z
    · subst z; grind
    · exact sum_zero (ys := ys) (fun x hx => hy x (List.mem_cons_of_mem _ hx)) (by grind) y z
end P12
set_option Elab.async false
set_option linter.all false
set_option maxRecDepth 100000
/-! Streets: the plain functions of the defs (printed by std.py), what they give. -/
namespace Fz.Str
open PySem Fz Fz.Std P12
def m_Streets_init : Fz.Env → Out := bSeq (sIf (Fz.tOr (tVal (d2 cEq (dcall bLen (dcons (dv 1) dnil)) (dc (.int 0)))) (Fz.tOr (tVal (d2 cNe (dcall bLen (dcons (dv 1) dnil)) (dcall bLen (dcons (dv 2) dnil)))) (Fz.tOr (tVal (d2 cLt (dcall bMin (dcons (dv 1) dnil)) (dc (.int 1)))) (tVal (d2 cLt (dcall bMin (dcons (dv 2) dnil)) (dc (.int 0))))))) (bSeq (sRaise "BadRoads") sNx) sNx) (bSeq (sIf (tVal (d2 cGt (dcall bLen (dcons (dv 1) dnil)) (dc (.int 8)))) (bSeq sNever sNx) sNx) (bSeq (sFld' 0 ["Streets"] "slopes" (dcall bTup (dcons (dv 1) dnil))) (bSeq (sFld' 0 ["Streets"] "bases" (dcall bTup (dcons (dv 2) dnil))) sNx)))
def f_Streets_init : List D → Res (List (Str × D)) := runI "Streets" 3 m_Streets_init
def b_even_share_0 : Fz.Env → Out := bSeq (sSet 2 (dcall bLcm (dcons (dv 2) (dcons (dv 3) dnil)))) sNx
def b_even_share_1 : Fz.Env → Res D := dcall oTup (dcons (dv 6) (dcons (dv 3) dnil))
def b_even_share_2 : Fz.Env → Out := bSeq (sIf (Fz.tAnd (tVal (d2 cGt (dv 5) (dc (.int 0)))) (tVal (d2 cGe (d2 oMul (dv 6) (dv 5)) (dv 4)))) (bSeq sBk sNx) sNx) (bSeq (sSet 4 (d2 oAdd (dv 4) (d2 oMul (dv 6) (d2 oDiv (dv 2) (dv 3))))) (bSeq (sSet 5 (d2 oAdd (dv 5) (d2 oDiv (dv 2) (dv 3)))) sNx))
def b_even_share_3 : Fz.Env → Out := bSeq (sApp 7 (dcall (withD 2 [] f_lowest) (dcons (dcall bMax (dcons (dc (.int 0)) (dcons (d2 oSub (dv 4) (d2 oMul (dv 6) (dv 5))) dnil))) (dcons (d2 oMul (dv 3) (dv 5)) dnil)))) sNx
def m_even_share : Fz.Env → Out := bSeq (sIf (tVal (d2 cLt (dv 1) (dc (.int 0)))) (bSeq (sRaise "BadRoads") sNx) sNx) (bSeq (sSet 2 (dc (.int 1))) (bSeq (sFor (iSeq itD (d1 (oFld ["Streets"] "slopes") (dv 0))) (tgN 3) b_even_share_0) (bSeq (sSet 4 (d2 oMul (dv 1) (dv 2))) (bSeq (sSet 5 (dc (.int 0))) (bSeq (sFor (iSeq itD (dcall bSorted (dcons (dLc (([("base", 6), ("slope", 3)] : List (Str × Nat)).map (·.2)) (iArg zp2D (dcons (d1 (oFld ["Streets"] "bases") (dv 0)) (dcons (d1 (oFld ["Streets"] "slopes") (dv 0)) dnil))) (tgT [6, 3]) dYes b_even_share_1) dnil))) (tgT [6, 3]) b_even_share_2) (bSeq (sSet 7 (dcall oLst dnil)) (bSeq (sFor (iArg zp2D (dcons (d1 (oFld ["Streets"] "slopes") (dv 0)) (dcons (d1 (oFld ["Streets"] "bases") (dv 0)) dnil))) (tgT [3, 6]) b_even_share_3) (bSeq (sRet (dcall oTup (dcons (dcall (withD 2 [] f_lowest) (dcons (dv 4) (dcons (dv 5) dnil))) (dcons (dsol (dcall bTup (dcons (dv 7) dnil))) dnil)))) sNx))))))))
def f_even_share : List D → Res D := runD .z 8 m_even_share
def m_best_share : Fz.Env → Out := bSeq (sRet (dcall (withD 2 [] f_even_share) (dcons (dcall (mkD "Streets" 2 [] f_Streets_init) (dcons (dLc (([("slope", 2)] : List (Str × Nat)).map (·.2)) (iSeq itD (d1 (oFld ["Streets"] "slopes") (dv 0))) (tgN 2) dYes (d2 oMul (dc (.int 2)) (dv 2))) (dcons (d1 (oFld ["Streets"] "bases") (dv 0)) dnil))) (dcons (dv 1) dnil)))) sNx
def f_best_share : List D → Res D := runD .z 3 m_best_share
def b_crowd_cost_0 : Fz.Env → Out := bSeq (sSet 6 (dcall (withD 2 [] f_added) (dcons (dcall (withD 2 [] f_times) (dcons (dcall oTup (dcons (dv 3) (dcons (dc (.int 1)) dnil))) (dcons (dv 5) dnil))) (dcons (dcall oTup (dcons (dv 4) (dcons (dc (.int 1)) dnil))) dnil)))) (bSeq (sSet 2 (dcall (withD 2 [] f_added) (dcons (dv 2) (dcons (dcall (withD 2 [] f_times) (dcons (dv 6) (dcons (dv 5) dnil))) dnil)))) sNx)
def m_crowd_cost : Fz.Env → Out := bSeq (sIf (tVal (d2 cNe (dcall bLen (dcons (dv 1) dnil)) (dcall bLen (dcons (d1 (oFld ["Streets"] "slopes") (dv 0)) dnil)))) (bSeq (sRaise "BadRoads") sNx) sNx) (bSeq (sSet 2 (dcall oTup (dcons (dc (.int 0)) (dcons (dc (.int 1)) dnil)))) (bSeq (sFor (iArg zp3D (dcons (d1 (oFld ["Streets"] "slopes") (dv 0)) (dcons (d1 (oFld ["Streets"] "bases") (dv 0)) (dcons (dv 1) dnil)))) (tgT [3, 4, 5]) b_crowd_cost_0) (bSeq (sRet (dv 2)) sNx)))
def f_crowd_cost : List D → Res D := runD .z 7 m_crowd_cost
def b_street_tolls_0 : Fz.Env → Res D := dcall (withD 2 [] f_times) (dcons (dcall oTup (dcons (dv 3) (dcons (dc (.int 1)) dnil))) (dcons (dv 4) dnil))
def m_street_tolls : Fz.Env → Out := bSeq (sSet 2 (d2 oIx (dcall (withD 2 [] f_best_share) (dcons (dv 0) (dcons (dv 1) dnil))) (dc (.int 1)))) (bSeq (sRet (dcall bTup (dcons (dLc (([("slope", 3), ("amount", 4)] : List (Str × Nat)).map (·.2)) (iArg zp2D (dcons (d1 (oFld ["Streets"] "slopes") (dv 0)) (dcons (dv 2) dnil))) (tgT [3, 4]) dYes b_street_tolls_0) dnil))) sNx)
def f_street_tolls : List D → Res D := runD .z 5 m_street_tolls
def m_crowd_dearness : Fz.Env → Out := bSeq (sSet 2 (dcall (withD 2 [] f_crowd_cost) (dcons (dv 0) (dcons (d2 oIx (dcall (withD 2 [] f_even_share) (dcons (dv 0) (dcons (dv 1) dnil))) (dc (.int 1))) dnil)))) (bSeq (sSet 3 (dcall (withD 2 [] f_crowd_cost) (dcons (dv 0) (dcons (d2 oIx (dcall (withD 2 [] f_best_share) (dcons (dv 0) (dcons (dv 1) dnil))) (dc (.int 1))) dnil)))) (bSeq (sIf (tVal (d2 cEq (dv 1) (dc (.int 0)))) (bSeq (sRet (dcall oTup (dcons (dc (.int 1)) (dcons (dc (.int 1)) dnil)))) sNx) sNx) (bSeq (sRet (dcall (withD 2 [] f_times) (dcons (dv 2) (dcons (dcall oTup (dcons (d2 oIx (dv 3) (dc (.int 1))) (dcons (d2 oIx (dv 3) (dc (.int 0))) dnil))) dnil)))) sNx)))
def f_crowd_dearness : List D → Res D := runD .z 4 m_crowd_dearness
def m_Streets_alike : Fz.Env → Out := bSeq (sRet (dcls 0 (dcall (mkD "Streets" 2 [] f_Streets_init) (dcons (d2 oRepL (dcall oLst (dcons (dv 2) dnil)) (dv 1)) (dcons (d2 oRepL (dcall oLst (dcons (dv 3) dnil)) (dv 1)) dnil))))) sNx
def f_Streets_alike : List D → Res D := runD .z 4 m_Streets_alike
def m__law_plus : Fz.Env → Out := bSeq (sIf (tVal (d2 cEq (d2 oIx (dv 0) (dc (.int 1))) (d2 oIx (dv 1) (dc (.int 1))))) (bSeq (sRet (dcall oTup (dcons (d2 oAdd (d2 oIx (dv 0) (dc (.int 0))) (d2 oIx (dv 1) (dc (.int 0)))) (dcons (d2 oIx (dv 0) (dc (.int 1))) dnil)))) sNx) sNx) (bSeq (sRet (dcall oTup (dcons (d2 oAdd (d2 oMul (d2 oIx (dv 0) (dc (.int 0))) (d2 oIx (dv 1) (dc (.int 1)))) (d2 oMul (d2 oIx (dv 1) (dc (.int 0))) (d2 oIx (dv 0) (dc (.int 1))))) (dcons (d2 oMul (d2 oIx (dv 0) (dc (.int 1))) (d2 oIx (dv 1) (dc (.int 1)))) dnil)))) sNx)
def f__law_plus : List D → Res D := runD .z 2 m__law_plus
def m__law_equal : Fz.Env → Out := bSeq (sRet (d2 cEq (d2 oMul (d2 oIx (dv 0) (dc (.int 0))) (d2 oIx (dv 1) (dc (.int 1)))) (d2 oMul (d2 oIx (dv 1) (dc (.int 0))) (d2 oIx (dv 0) (dc (.int 1)))))) sNx
def f__law_equal : List D → Res D := runD .z 2 m__law_equal
theorem bMin_lst {ns : List Int} {n : Int} {r : List Int} (h : ns = n :: r) : bMin [lstI ns] = .ok (.int (minZ ns)) := by
  subst h
  show (match ints? (dI (n :: r)) with | some (n :: r) => Res.ok (D.int (minZ (n :: r))) | _ => .bad) = _
  rw [ints?_map]
theorem bMin_tup {ns : List Int} {n : Int} {r : List Int} (h : ns = n :: r) : bMin [tupI ns] = .ok (.int (minZ ns)) := by
  subst h
  show (match ints? (dI (n :: r)) with | some (n :: r) => Res.ok (D.int (minZ (n :: r))) | _ => .bad) = _
  rw [ints?_map]
theorem minZ_ge {ns : List Int} {k : Int} (h0 : ns ≠ []) (h : ∀ x ∈ ns, k ≤ x) : k ≤ minZ ns := by
  cases ns with
  | nil => exact absurd rfl h0
  | cons n r => exact h _ minZ_mem

/-! ### the class -/
def fst' (rs : List Row) : List Int := rs.map (·.1)
def snd' (rs : List Row) : List Int := rs.map (·.2)
@[simp] theorem fst_len (rs : List Row) : (fst' rs).length = rs.length := by simp [fst']
@[simp] theorem snd_len (rs : List Row) : (snd' rs).length = rs.length := by simp [snd']
def dS (rs : List Row) : D := .ins "Streets" [("slopes", tupI (fst' rs)), ("bases", tupI (snd' rs))]
theorem cons_of {α β : Type} {rs : List α} (h : rs ≠ []) (f : α → β) : ∃ n r, rs.map f = n :: r := by
  cases rs with
  | nil => exact absurd rfl h
  | cons x r => exact ⟨f x, r.map f, rfl⟩
theorem init_ok {rs : List Row} (h0 : rs ≠ []) (h8 : rs.length ≤ 8) (hg : ∀ r ∈ rs, GoodR r) {a b : D} (ha : a = lstI (fst' rs) ∨ a = tupI (fst' rs)) (hb : b = lstI (snd' rs) ∨ b = tupI (snd' rs)) :
    mkD "Streets" 2 [] f_Streets_init [a, b] = .ok (dS rs) := by
  obtain ⟨n, r, e⟩ : ∃ n r, fst' rs = n :: r := cons_of h0 (·.1)
  obtain ⟨n2, r2, e2⟩ : ∃ n r, snd' rs = n :: r := cons_of h0 (·.2)
  have ne1 : fst' rs ≠ [] := fun z => h0 (List.map_eq_nil_iff.mp z)
  have ne2 : snd' rs ≠ [] := fun z => h0 (List.map_eq_nil_iff.mp z)
  have m1 : ¬ minZ (fst' rs) < 1 := by
    have := minZ_ge (k := 1) ne1 fun x hx => by obtain ⟨r, hr, rfl⟩ := List.mem_map.mp hx; exact (hg r hr).s
    omega
  have m2 : ¬ minZ (snd' rs) < 0 := by
    have := minZ_ge (k := 0) ne2 fun x hx => by obtain ⟨r, hr, rfl⟩ := List.mem_map.mp hx; exact (hg r hr).b
    omega
  have l0 : ¬ (rs.length : Int) = 0 := by
    have : 0 < rs.length := List.length_pos_iff.mpr h0
    omega
  have l8 : ¬ (8 : Int) < (rs.length : Int) := by omega
  have hl : (rs.map (·.1)).length = rs.length := by simp
  have ns : ¬ (Str.ofString "bases" = Str.ofString "slopes") := by decide
  rcases ha with rfl | rfl <;> rcases hb with rfl | rfl
  · simp [f_Streets_init, runI_eq, m_Streets_init, startE, List.replicate, bMin_lst e, bMin_lst e2, m1, m2, h0, l8, dS, putD, ns]
  · simp [f_Streets_init, runI_eq, m_Streets_init, startE, List.replicate, bMin_lst e, bMin_tup e2, m1, m2, h0, l8, dS, putD, ns]
  · simp [f_Streets_init, runI_eq, m_Streets_init, startE, List.replicate, bMin_tup e, bMin_lst e2, m1, m2, h0, l8, dS, putD, ns]
  · simp [f_Streets_init, runI_eq, m_Streets_init, startE, List.replicate, bMin_tup e, bMin_tup e2, m1, m2, h0, l8, dS, putD, ns]
/-! ### the level -/
theorem sol_map {α : Type} {f : α → D} {xs : List α} (h : ∀ x ∈ xs, (f x).sol = true) : D.sols (xs.map f) = true := by
  induction xs with
  | nil => rfl
  | cons x r ih => simp [D.sols, h x List.mem_cons_self, ih fun y hy => h y (List.mem_cons_of_mem _ hy)]
theorem sol_dQ (q : Rat) : (dQ q).sol = true := by simp [dQ, D.sol, D.sols]
theorem dsol_ok {a : Env → Res D} {d : D} {env : Env} (h : a env = .ok d) (hf : d.sol = true) : dsol a env = .ok d := by
  unfold dsol
  rw [h]
  exact if_pos hf
def lcmL (ss : List Int) (c : Int) : Int := ss.foldl (fun c s => ((Int.lcm c s : Nat) : Int)) c
theorem lcm_sz {n m : Nat} {a b : Int} (h : Sz n a) (h2 : Sz m b) : Sz (n + m) ((Int.lcm a b : Nat) : Int) := by
  unfold Sz at *
  rw [Int.natAbs_natCast, Nat.pow_add]
  exact Nat.lt_of_le_of_lt (PySem.W.mc_lcm_le _ _) (Nat.mul_lt_mul'' h h2)
theorem lcm_pos' {a b : Int} (ha : 0 < a) (hb : 0 < b) : 0 < ((Int.lcm a b : Nat) : Int) := by
  have := Int.lcm_pos (show a ≠ 0 by omega) (show b ≠ 0 by omega)
  omega
theorem bLcm_ok {n m : Nat} {a b : Int} (h : Sz n a) (h2 : Sz m b) (hn : n ≤ 12000) (hm : m ≤ 12000) : bLcm [.int a, .int b] = .ok (.int ((Int.lcm a b : Nat) : Int)) := by
  refine if_pos ?_
  simp only [lcmOk, Bool.and_eq_true, decide_eq_true_eq]
  exact ⟨(h.mono (show n ≤ 13000 by omega)).log (by omega), (h2.mono (show m ≤ 13000 by omega)).log (by omega)⟩
theorem lcm_loop : ∀ (ss : List Int) (k : Nat) (c : Int) (a b o3 : Option D) (r : List (Option D)), 0 < c → Sz k c → (∀ s ∈ ss, 0 < s ∧ Sz 111 s) → k + 111 * ss.length ≤ 9000 →
    ∃ o3', loopD (tgN 3) b_even_share_0 (dI ss) (a :: b :: some (.int c) :: o3 :: r) = .nx (a :: b :: some (.int (lcmL ss c)) :: o3' :: r) ∧ 0 < lcmL ss c ∧ Sz (k + 111 * ss.length) (lcmL ss c) ∧ c ∣ lcmL ss c ∧ ∀ s ∈ ss, s ∣ lcmL ss c
  | [], k, c, a, b, o3, r, hc, hk, hs, hl => ⟨o3, rfl, hc, hk, Int.dvd_refl _, fun s h => by cases h⟩
  | s :: ss, k, c, a, b, o3, r, hc, hk, hs, hl => by
    obtain ⟨s0, sz⟩ := hs s List.mem_cons_self
    simp only [List.length_cons] at hl
    obtain ⟨o3', h1, h2, h3, h4, h5⟩ := lcm_loop ss (k + 111) ((Int.lcm c s : Nat) : Int) a b (some (.int s)) r (lcm_pos' hc s0) (lcm_sz hk sz) (fun x hx => hs x (List.mem_cons_of_mem _ hx)) (by omega)
    refine ⟨o3', ?_, h2, ?_, Int.dvd_trans (Int.dvd_lcm_left ..) h4, fun x hx => ?_⟩
    · show loopD _ _ (.int s :: dI ss) _ = _
      rw [loopD_nx (e1 := a :: b :: some (.int c) :: some (.int s) :: r) (by simp) (by simp [b_even_share_0, bLcm_ok hk sz (by omega) (by omega)]; rfl), h1]
      rfl
    · show Sz (k + 111 * (ss.length + 1)) (lcmL ss _)
      exact h3.mono (by omega)
    · rcases List.mem_cons.mp hx with z | z
      · subst z; exact Int.dvd_trans (Int.dvd_lcm_right ..) h4
      · exact h5 x z
theorem zip_rows (rs : List Row) : zipD (dI (fst' rs)) (dI (snd' rs)) = rs.map fun r => dP r.1 r.2 := by
  induction rs with
  | nil => rfl
  | cons r q ih => simpa [zipD, fst', snd'] using ih
theorem zip_rows' (rs : List Row) : zipD (dI (snd' rs)) (dI (fst' rs)) = rs.map fun r => dP r.2 r.1 := by
  induction rs with
  | nil => rfl
  | cons r q ih => simpa [zipD, fst', snd'] using ih
@[simp] theorem zp2_tup (a b : List D) : zp2D [.tup a, .tup b] = .ok (zipD a b) := rfl
theorem lexSort_rows (rs : List Row) : ∃ q : List Row, lexSort (rs.map fun r => [r.2, r.1]) = q.map (fun r => [r.2, r.1]) ∧ q.Perm rs ∧ q.Pairwise (fun a b => a.2 ≤ b.2) := by
  have hp := lexSort_perm (rs.map fun r => [r.2, r.1])
  have hs := lexSort_sorted (rs.map fun r => [r.2, r.1])
  generalize lexSort (rs.map fun r => [r.2, r.1]) = l at hp hs
  have key := hp.map fun l : List Int => ((l.getD 1 0, l.getD 0 0) : Row)
  rw [List.map_map] at key
  have e : ((fun l : List Int => ((l.getD 1 0, l.getD 0 0) : Row)) ∘ fun r : Row => [r.2, r.1]) = id := by funext r; simp
  rw [e, List.map_id] at key
  have back : (l.map fun l : List Int => ((l.getD 1 0, l.getD 0 0) : Row)).map (fun r => [r.2, r.1]) = l := by
    rw [List.map_map]
    refine (List.map_congr_left fun x hx => ?_).trans (List.map_id _)
    obtain ⟨r, _, rfl⟩ := List.mem_map.mp (hp.mem_iff.mp hx)
    simp
  refine ⟨l.map fun l : List Int => ((l.getD 1 0, l.getD 0 0) : Row), back.symm, key, ?_⟩
  rw [List.pairwise_map]
  refine hs.imp_of_mem fun {x y} hx hy h => ?_
  obtain ⟨r, _, rfl⟩ := List.mem_map.mp (hp.mem_iff.mp hx)
  obtain ⟨s, _, rfl⟩ := List.mem_map.mp (hp.mem_iff.mp hy)
  simp only [lexLe, Bool.or_eq_true, Bool.and_eq_true, decide_eq_true_eq] at h
  simp
  omega
theorem fill_loop {n : Nat} {L : Int} (hL : Sz n L) (hn : n ≤ 9000) : ∀ (q : List Row) (k : Nat) (T W : Int) (a b o3 o6 o7 : Option D), (∀ r ∈ q, GoodR r ∧ Sz 111 r.1 ∧ Sz 111 r.2) → Sz k W → n ≤ k → k + q.length ≤ 20000 →
    ∃ o3' o6', loopD (tgT [6, 3]) b_even_share_2 (q.map fun r => dP r.2 r.1) [a, b, some (.int L), o3, some (.int T), some (.int W), o6, o7] = .nx [a, b, some (.int L), o3', some (.int (fill L q T W).1), some (.int (fill L q T W).2), o6', o7] ∧ Sz (k + q.length) (fill L q T W).2
  | [], k, T, W, a, b, o3, o6, o7, hg, hW, hk, hl => ⟨o3, o6, rfl, hW⟩
  | r :: q, k, T, W, a, b, o3, o6, o7, hg, hW, hk, hl => by
    obtain ⟨g, s1, s2⟩ := hg r List.mem_cons_self
    simp only [List.length_cons] at hl ⊢
    have m1 := oMul_sz s2 hW (by omega)
    have d1 := oDiv_sz (i := L) s1 (by have := g.s; omega)
    have m2 := oMul_sz s2 (hL.ediv (j := r.1)) (by omega)
    unfold fill
    by_cases c : 0 < W ∧ T ≤ r.2 * W
    · rw [if_pos c]
      refine ⟨some (.int r.1), some (.int r.2), ?_, hW.mono (by omega)⟩
      show loopD _ _ (dP r.2 r.1 :: _) _ = _
      conv => lhs; unfold loopD
      simp [b_even_share_2, m1, c.1, c.2]
    · rw [if_neg c]
      have hW' : Sz (k + 1) (W + L / r.1) := (hW.add (hL.ediv (j := r.1))).mono (by omega)
      obtain ⟨o3', o6', h1, h2⟩ := fill_loop hL hn q (k + 1) (T + r.2 * (L / r.1)) (W + L / r.1) a b (some (.int r.1)) (some (.int r.2)) o7 (fun x hx => hg x (List.mem_cons_of_mem _ hx)) hW' (by omega) (by omega)
      refine ⟨o3', o6', ?_, h2.mono (by omega)⟩
      show loopD _ _ (dP r.2 r.1 :: _) _ = _
      rw [loopD_nx (e1 := [a, b, some (.int L), some (.int r.1), some (.int T), some (.int W), some (.int r.2), o7]) (by simp) (e2 := [a, b, some (.int L), some (.int r.1), some (.int (T + r.2 * (L / r.1))), some (.int (W + L / r.1)), some (.int r.2), o7]), h1]
      by_cases w : 0 < W
      · have w2 : ¬ T ≤ r.2 * W := fun z => c ⟨w, z⟩
        simp [b_even_share_2, m1, m2, d1, w, w2]
      · simp [b_even_share_2, m1, m2, d1, w]
theorem amt_int {T W : Int} {r : Row} (hW : 0 < W) (g : GoodR r) : (((if T - r.2 * W > 0 then T - r.2 * W else 0 : Int)) : Rat) / ((r.1 * W : Int) : Rat) = amt 1 ((T : Rat) / (W : Rat)) r := by
  have hWq := Rat.intCast_pos.mpr hW
  have s1 := g.sq
  unfold amt pos
  have e : ((T : Rat) / (W : Rat) - (r.2 : Rat)) * (W : Rat) = ((T - r.2 * W : Int) : Rat) := by
    rw [Rat.intCast_sub, Rat.intCast_mul]
    have := Rat.div_mul_cancel (a := (T : Rat)) (b := (W : Rat)) (by grind)
    grind
  have iff : (0 < (T : Rat) / (W : Rat) - (r.2 : Rat)) ↔ T - r.2 * W > 0 := by
    rw [← Rat.mul_pos_iff_of_pos_right hWq, e, Rat.intCast_pos]
  rw [Rat.intCast_mul]
  by_cases q : T - r.2 * W > 0
  · rw [if_pos q, if_pos (iff.mpr q), ← e]
    grind
  · rw [if_neg q, if_neg fun z => q (iff.mp z)]
    simp [Rat.div_def]
theorem bSorted_rows {rs : List Row} (h0 : rs ≠ []) (h8 : rs.length ≤ 60) (hg : ∀ r ∈ rs, GoodR r) : ∃ q : List Row, bSorted [.lst (rs.map fun r => dP r.2 r.1)] = .ok (.lst (q.map fun r => dP r.2 r.1)) ∧ q.Perm rs ∧ q.Pairwise (fun a b => a.2 ≤ b.2) := by
  obtain ⟨q, h1, h2, h3⟩ := lexSort_rows rs
  refine ⟨q, ?_, h2, h3⟩
  have e : (rs.map fun r => dP r.2 r.1) = dRows (rs.map fun r => [r.2, r.1]) := by simp [dRows]
  have e2 : (q.map fun r => dP r.2 r.1) = dRows (q.map fun r => [r.2, r.1]) := by simp [dRows]
  show sortK (ints? (rs.map fun r => dP r.2 r.1)) (rows? (rs.map fun r => dP r.2 r.1)) = _
  have e3 : ints? (rs.map fun r => dP r.2 r.1) = none := by
    cases rs with
    | nil => exact absurd rfl h0
    | cons r q => rfl
  rw [e3, e, rows?_map, e2, ← h1]
  refine if_pos ?_
  simp only [okRows, Bool.and_eq_true, decide_eq_true_eq, List.all_eq_true]
  refine ⟨by simp; omega, fun x hx => ?_⟩
  obtain ⟨r, hr, rfl⟩ := List.mem_map.mp hx
  obtain ⟨x, y, rfl⟩ : ∃ x y, rs = x :: y := by
    cases rs with
    | nil => exact absurd rfl h0
    | cons x y => exact ⟨x, y, rfl⟩
  have g := hg r hr
  refine ⟨⟨by simp, by simp⟩, fun m hm => ?_⟩
  have h1 := g.s
  have h2 := g.b
  simp at hm
  rcases hm with rfl | rfl <;> omega
theorem fill_sz {n : Nat} {L : Int} (hL : Sz n L) : ∀ (q : List Row) (k : Nat) (T W : Int), (∀ r ∈ q, Sz 111 r.2) → Sz k T → 111 + n ≤ k → Sz (k + q.length) (fill L q T W).1
  | [], k, T, W, hg, hT, hk => hT
  | r :: q, k, T, W, hg, hT, hk => by
    unfold fill
    simp only [List.length_cons]
    by_cases c : 0 < W ∧ T ≤ r.2 * W
    · rw [if_pos c]; exact hT.mono (by omega)
    · rw [if_neg c]
      have h2 := (hg r List.mem_cons_self).mul (hL.ediv (j := r.1))
      have h3 : Sz (k + 1) (T + r.2 * (L / r.1)) := (hT.add h2).mono (by omega)
      exact (fill_sz hL q (k + 1) _ (W + L / r.1) (fun x hx => hg x (List.mem_cons_of_mem _ hx)) h3 (by omega)).mono (by omega)
/-- the level l of the crowd m over the streets rs -/
structure Lev (rs : List Row) (m : Int) (l : Rat) (T W : Int) : Prop where
  lq : l = (T : Rat) / (W : Rat)
  w : 0 < W
  st : Sz 1300 T
  sw : Sz 1000 W
  sum : (rs.map (amt 1 l)).sum = (m : Rat)
  low : ∃ r ∈ rs, (r.2 : Rat) ≤ l
structure GoodB (n : Nat) (r : Row) : Prop where
  g : GoodR r
  s : Sz n r.1
  b : Sz n r.2
@[simp] theorem fld_s (rs : List Row) : oFld ["Streets"] "slopes" (dS rs) = .ok (tupI (fst' rs)) := rfl
@[simp] theorem fld_b (rs : List Row) : oFld ["Streets"] "bases" (dS rs) = .ok (tupI (snd' rs)) := rfl
theorem even_share_ok {rs : List Row} (h0 : rs ≠ []) (h8 : rs.length ≤ 8) (hg : ∀ r ∈ rs, GoodB 111 r) {m : Int} (hm : 0 ≤ m) (sm : Sz 200 m) :
    ∃ l T W, f_even_share [dS rs, .int m] = .ok (.tup [dQ l, .tup (rs.map fun r => dQ (amt 1 l r))]) ∧ Lev rs m l T W := by
  have hm' : ¬ m < 0 := by omega
  obtain ⟨o3, l1, l2, l3, l4, l5⟩ := lcm_loop (fst' rs) 1 1 (some (dS rs)) (some (.int m)) none [none, none, none, none] (by decide) (by unfold Sz; decide) (fun s hs => by
    obtain ⟨r, hr, rfl⟩ := List.mem_map.mp hs
    exact ⟨by have := (hg r hr).g.s; omega, (hg r hr).s⟩) (by simp; omega)
  generalize lcmL (fst' rs) 1 = L at l1 l2 l3 l4 l5
  have sL : Sz 890 L := l3.mono (by simp; omega)
  have dv : ∀ r ∈ rs, r.1 ∣ L := fun r hr => l5 r.1 (List.mem_map.mpr ⟨r, hr, rfl⟩)
  obtain ⟨q, s1, s2, s3⟩ := bSorted_rows h0 (by omega) fun r hr => (hg r hr).g
  have ql : q.length = rs.length := s2.length_eq
  have hgq : ∀ r ∈ q, GoodB 111 r ∧ r.1 ∣ L := fun r hr => ⟨hg r (s2.mem_iff.mp hr), dv r (s2.mem_iff.mp hr)⟩
  obtain ⟨o3', o6', f1, f2⟩ := fill_loop sL (by omega) q 891 (m * L) 0 (some (dS rs)) (some (.int m)) o3 none none (fun r hr => ⟨(hgq r hr).1.g, (hgq r hr).1.s, (hgq r hr).1.b⟩) (by unfold Sz; simp; exact Nat.two_pow_pos _) (by omega) (by omega)
  obtain ⟨P, R, p1, p2, p3, p4⟩ := fill_ok (m := m) l2 hm q [] (m * L) 0 (fun r hr => ⟨(hgq r (by simpa using hr)).1.g, (hgq r (by simpa using hr)).2⟩) (by simpa using s3) (by simp [weigh]) (by simp [share]) (fun r h => by cases h)
  have qne : q ≠ [] := fun z => h0 (by subst z; exact List.length_eq_zero_iff.mp (by simpa using ql.symm))
  have f3 := fill_sz sL q 1095 (m * L) 0 (fun r hr => (hgq r hr).1.b) ((sm.mul sL).mono (by omega)) (by omega)
  generalize (fill L q (m * L) 0).1 = T at f1 p2 f3
  generalize (fill L q (m * L) 0).2 = W at f1 f2 p2
  simp only [List.nil_append] at p1
  obtain ⟨w0, w1, r0, hr0, hr1⟩ := filled_level l2 (by rw [← p1]; exact fun r hr => ⟨(hgq r hr).1.g, (hgq r hr).2⟩) p2 (p4 (.inr qne))
  rw [← p1] at w1 hr0
  have sW : Sz 1000 W := f2.mono (by omega)
  refine ⟨(T : Rat) / (W : Rat), T, W, ?_, rfl, w0, f3.mono (by omega), sW, ?_, r0, s2.mem_iff.mp hr0, hr1⟩
  · have hlc : ∀ e0 e1 e2 e4 e5 e7 : Option D, lcGo (tgT [6, 3]) dYes b_even_share_1 [e0, e1, e2, none, e4, e5, none, e7] (rs.map fun r => dP r.2 r.1) = .ok (rs.map fun r => dP r.2 r.1) := fun e0 e1 e2 e4 e5 e7 =>
      lc_map (dd := fun r : Row => dP r.2 r.1) (g := fun r => dP r.2 r.1) fun r hr => ⟨_, rfl, by simp [b_even_share_1]⟩
    have hend : endLc (.ok (rs.map fun r => dP r.2 r.1)) = .ok (.lst (rs.map fun r => dP r.2 r.1)) := endLc_map (by omega)
    obtain ⟨e', a1, acc, o3'', o6'', rfl, a2⟩ := loop_inv (tg := tgT [3, 6]) (body := b_even_share_3) (dd := fun r : Row => dP r.1 r.2) (fun r e => ∃ acc o3 o6, e = [some (dS rs), some (.int m), some (.int L), o3, some (.int T), some (.int W), o6, some (.lst acc)] ∧ ∃ d, rs = d ++ r ∧ acc = d.map fun r => dQ (amt 1 ((T : Rat) / (W : Rat)) r))
      (fun r q e ⟨acc, o3, o6, he, d, hd, ha⟩ => by
        subst he
        have hr : r ∈ rs := by rw [hd]; simp
        have g := hg r hr
        have m1 := oMul_sz g.b sW (by omega)
        have m2 := oMul_sz g.s sW (by omega)
        have lw : f_lowest [.int (if T - r.2 * W > 0 then T - r.2 * W else 0), .int (r.1 * W)] = .ok (dQ (amt 1 ((T : Rat) / (W : Rat)) r)) := by
          rw [← amt_int w0 g.g]
          exact lowest_ok _ (Int.mul_ne_zero (by have := g.g.s; omega) (by omega)) (g.s.mul sW) (by omega)
        have hz : acc.length < 16777216 := by
          rw [ha, List.length_map]
          have := congrArg List.length hd
          simp at this; omega
        refine ⟨_, rfl, _, .inl ?_, acc ++ [dQ (amt 1 ((T : Rat) / (W : Rat)) r)], some (.int r.1), some (.int r.2), rfl, d ++ [r], by rw [hd]; simp, by rw [ha]; simp⟩
        simp [b_even_share_3, m1, m2]
        simp at lw
        simp [lw, hz]) rs [some (dS rs), some (.int m), some (.int L), o3', some (.int T), some (.int W), o6', some (.lst [])] ⟨[], o3', o6', rfl, [], rfl, rfl⟩
    obtain ⟨d, hd, ha⟩ := a2
    simp at hd
    subst hd
    have hsol : (D.tup acc).sol = true := by
      rw [ha]
      show D.sols _ = true
      exact sol_map fun x _ => sol_dQ _
    subst ha
    have fin : f_lowest [.int T, .int W] = .ok (dQ ((T : Rat) / (W : Rat))) := lowest_ok T (by omega) sW (by omega)
    have mt := oMul_sz sm sL (by omega)
    have hds : dsol (dcall bTup (dcons (Fz.dv 7) dnil)) [some (dS rs), some (.int m), some (.int L), o3'', some (.int T), some (.int W), o6'', some (.lst (rs.map fun r => dQ (amt 1 ((T : Rat) / (W : Rat)) r)))] = .ok (.tup (rs.map fun r => dQ (amt 1 ((T : Rat) / (W : Rat)) r))) := dsol_ok (by simp) hsol
    simp [f_even_share, runD_eq, m_even_share, startE, List.replicate, hm', l1, mt, zip_rows', zip_rows, hlc, hend, s1, f1, a1, fin, hds]
  · rw [← w1]
    exact sum_perm (s2.symm.map _)
end Fz.Str
set_option Elab.async false
set_option linter.all false
set_option maxRecDepth 100000
/-! Streets: best shares, costs, tolls, dearness; the law's own looks. -/
namespace Fz.Str
open PySem Fz Fz.Std P12
def m__law_is_exact : Fz.Env → Out := bSeq (sIf (Fz.tOr (Fz.tNot (tTru (d1 (fun v => bIsi .tuple [v]) (dv 0)))) (tVal (d2 cNe (dcall bLen (dcons (dv 0) dnil)) (dc (.int 2))))) (bSeq (sRet (dc (.bl false))) sNx) sNx) (bSeq (sIf (Fz.tOr (Fz.tNot (tTru (dcall (withD 1 [] f__law_is_whole) (dcons (d2 oIx (dv 0) (dc (.int 0))) dnil)))) (Fz.tOr (Fz.tNot (tTru (dcall (withD 1 [] f__law_is_whole) (dcons (d2 oIx (dv 0) (dc (.int 1))) dnil)))) (tVal (d2 cLt (d2 oIx (dv 0) (dc (.int 1))) (dc (.int 1)))))) (bSeq (sRet (dc (.bl false))) sNx) sNx) (bSeq (sRet (d2 cEq (dcall (withD 2 [] (f__law_gcd 20000)) (dcons (d2 oIx (dv 0) (dc (.int 0))) (dcons (d2 oIx (dv 0) (dc (.int 1))) dnil))) (dc (.int 1)))) sNx))
def f__law_is_exact : List D → Res D := runD .z 1 m__law_is_exact
def b__law_is_share_0 : Fz.Env → Out := bSeq (sSet 7 (d2 oIx (d2 oIx (dv 0) (dc (.int 1))) (dv 6))) (bSeq (sIf (Fz.tOr (Fz.tNot (tTru (dcall (withD 1 [] f__law_is_exact) (dcons (dv 7) dnil)))) (tVal (d2 cLt (d2 oIx (dv 7) (dc (.int 0))) (dc (.int 0))))) (bSeq (sRet (dc (.bl false))) sNx) sNx) (bSeq (sSet 5 (dcall (withD 2 [] f__law_plus) (dcons (dv 5) (dcons (dv 7) dnil)))) (bSeq (sSet 8 (dcall oTup (dcons (d2 oAdd (d2 oMul (d2 oMul (dv 3) (d2 oIx (d2 oIx (dv 1) (dv 6)) (dc (.int 0)))) (d2 oIx (dv 7) (dc (.int 0)))) (d2 oMul (d2 oIx (d2 oIx (dv 1) (dv 6)) (dc (.int 1))) (d2 oIx (dv 7) (dc (.int 1))))) (dcons (d2 oIx (dv 7) (dc (.int 1))) dnil)))) (bSeq (sIf (Fz.tAnd (tVal (d2 cGt (d2 oIx (dv 7) (dc (.int 0))) (dc (.int 0)))) (Fz.tNot (tTru (dcall (withD 2 [] f__law_equal) (dcons (dv 8) (dcons (dv 4) dnil)))))) (bSeq (sRet (dc (.bl false))) sNx) sNx) (bSeq (sIf (tVal (d2 cLt (d2 oMul (d2 oIx (dv 8) (dc (.int 0))) (d2 oIx (dv 4) (dc (.int 1)))) (d2 oMul (d2 oIx (dv 4) (dc (.int 0))) (d2 oIx (dv 8) (dc (.int 1)))))) (bSeq (sRet (dc (.bl false))) sNx) sNx) sNx)))))
def m__law_is_share : Fz.Env → Out := bSeq (sIf (Fz.tOr (Fz.tNot (tTru (d1 (fun v => bIsi .tuple [v]) (dv 0)))) (Fz.tOr (tVal (d2 cNe (dcall bLen (dcons (dv 0) dnil)) (dc (.int 2)))) (Fz.tNot (tTru (dcall (withD 1 [] f__law_is_exact) (dcons (d2 oIx (dv 0) (dc (.int 0))) dnil)))))) (bSeq (sRet (dc (.bl false))) sNx) sNx) (bSeq (sSet 4 (d2 oIx (dv 0) (dc (.int 0)))) (bSeq (sIf (Fz.tOr (Fz.tNot (tTru (d1 (fun v => bIsi .tuple [v]) (d2 oIx (dv 0) (dc (.int 1)))))) (tVal (d2 cNe (dcall bLen (dcons (d2 oIx (dv 0) (dc (.int 1))) dnil)) (dcall bLen (dcons (dv 1) dnil))))) (bSeq (sRet (dc (.bl false))) sNx) sNx) (bSeq (sSet 5 (dcall oTup (dcons (dc (.int 0)) (dcons (dc (.int 1)) dnil)))) (bSeq (sFor (iArg rng1D (dcons (dcall bLen (dcons (dv 1) dnil)) dnil)) (tgN 6) b__law_is_share_0) (bSeq (sIf (Fz.tAnd (tVal (d2 cEq (dv 2) (dc (.int 0)))) (Fz.tNot (tTru (dcall (withD 2 [] f__law_equal) (dcons (dv 4) (dcons (dcall oTup (dcons (dcall bMin (dcons (dLc (([("row", 9)] : List (Str × Nat)).map (·.2)) (iSeq itD (dv 1)) (tgN 9) dYes (d2 oIx (dv 9) (dc (.int 1)))) dnil)) (dcons (dc (.int 1)) dnil))) dnil)))))) (bSeq (sRet (dc (.bl false))) sNx) sNx) (bSeq (sRet (dcall (withD 2 [] f__law_equal) (dcons (dv 5) (dcons (dcall oTup (dcons (dv 2) (dcons (dc (.int 1)) dnil))) dnil)))) sNx))))))
def f__law_is_share : List D → Res D := runD .z 10 m__law_is_share
def b__law_cost_0 : Fz.Env → Out := bSeq (sSet 4 (d2 oIx (dv 1) (dv 3))) (bSeq (sSet 2 (dcall (withD 2 [] f__law_plus) (dcons (dv 2) (dcons (dcall oTup (dcons (d2 oMul (d2 oAdd (d2 oMul (d2 oIx (d2 oIx (dv 0) (dv 3)) (dc (.int 0))) (d2 oIx (dv 4) (dc (.int 0)))) (d2 oMul (d2 oIx (d2 oIx (dv 0) (dv 3)) (dc (.int 1))) (d2 oIx (dv 4) (dc (.int 1))))) (d2 oIx (dv 4) (dc (.int 0)))) (dcons (d2 oMul (d2 oIx (dv 4) (dc (.int 1))) (d2 oIx (dv 4) (dc (.int 1)))) dnil))) dnil)))) sNx)
def m__law_cost : Fz.Env → Out := bSeq (sSet 2 (dcall oTup (dcons (dc (.int 0)) (dcons (dc (.int 1)) dnil)))) (bSeq (sFor (iArg rng1D (dcons (dcall bLen (dcons (dv 0) dnil)) dnil)) (tgN 3) b__law_cost_0) (bSeq (sRet (dv 2)) sNx))
def f__law_cost : List D → Res D := runD .z 5 m__law_cost
def m__law_is_cost : Fz.Env → Out := bSeq (sRet (dAnd (dcall (withD 1 [] f__law_is_exact) (dcons (dv 0) dnil)) (dcall (withD 2 [] f__law_equal) (dcons (dv 0) (dcons (dcall (withD 2 [] f__law_cost) (dcons (dv 1) (dcons (dv 2) dnil))) dnil))))) sNx
def f__law_is_cost : List D → Res D := runD .z 3 m__law_is_cost
/-! ### denominators -/
/-- q is a whole number of D-ths -/
def Zq (D : Int) (q : Rat) : Prop := ∃ z : Int, q * (D : Rat) = (z : Rat)
theorem Zq.add {D : Int} {x y : Rat} : Zq D x → Zq D y → Zq D (x + y)
  | ⟨a, ha⟩, ⟨b, hb⟩ => ⟨a + b, by rw [Rat.intCast_add, ← ha, ← hb, Rat.add_mul]⟩
theorem Zq.mul {D E : Int} {x y : Rat} : Zq D x → Zq E y → Zq (D * E) (x * y)
  | ⟨a, ha⟩, ⟨b, hb⟩ => ⟨a * b, by rw [Rat.intCast_mul, Rat.intCast_mul, ← ha, ← hb]; grind⟩
theorem Zq.int (D i : Int) : Zq D (i : Rat) := ⟨i * D, by rw [Rat.intCast_mul]⟩
theorem Zq.zero (D : Int) : Zq D 0 := ⟨0, by grind⟩
theorem Zq.smul {D : Int} {x : Rat} (i : Int) : Zq D x → Zq D ((i : Rat) * x)
  | ⟨a, ha⟩ => ⟨i * a, by rw [Rat.intCast_mul, ← ha]; grind⟩
theorem Zq.more {D : Int} {x : Rat} (E : Int) : Zq D x → Zq (D * E) x
  | ⟨a, ha⟩ => ⟨a * E, by rw [Rat.intCast_mul, Rat.intCast_mul, ← ha]; grind⟩
theorem Zq.eq {D : Int} (hD : 0 < D) {x : Rat} : Zq D x → ∃ z : Int, x = (z : Rat) / (D : Rat)
  | ⟨a, ha⟩ => ⟨a, by rw [← ha]; have := Rat.intCast_pos.mpr hD; rw [Rat.mul_div_cancel (by grind)]⟩
theorem Zq.of {D z : Int} (hD : 0 < D) : Zq D ((z : Rat) / (D : Rat)) := ⟨z, Rat.div_mul_cancel (by have := Rat.intCast_pos.mpr hD; grind)⟩
theorem Zq.den {D : Int} (hD : 0 < D) {x : Rat} {k : Nat} (sD : Sz k D) (h : Zq D x) : Sz k (x.den : Int) := by
  obtain ⟨z, rfl⟩ := h.eq hD
  exact sD.tdvd (den_dvd hD) (by omega)
theorem num_le (a : Int) {b : Int} (hb : 0 < b) {n : Nat} (ha : Sz n a) : Sz n ((a : Rat) / (b : Rat)).num := by
  rw [(low_pos a hb).1]; exact ha.ediv
theorem sz_addQ {x y : Rat} {n m d e : Nat} (h1 : Sz n x.num) (h2 : Sz m y.num) (h3 : Sz d (x.den : Int)) (h4 : Sz e (y.den : Int)) : Sz (max (n + e) (m + d) + 1) (x + y).num := by
  rw [← addQ x y]
  exact num_le _ (Int.mul_pos (den_pos' x) (den_pos' y)) ((h1.mul h4).add (h2.mul h3))
theorem sz_mulQ {x y : Rat} {n m : Nat} (h1 : Sz n x.num) (h2 : Sz m y.num) : Sz (n + m) (x * y).num := by
  rw [← mulQ x y]
  exact num_le _ (Int.mul_pos (den_pos' x) (den_pos' y)) (h1.mul h2)
theorem dQ_int (i : Int) : dQ (i : Rat) = dP i 1 := rfl
theorem sz1 : Sz 1 (1 : Int) := by unfold Sz; decide
theorem sz0 (n : Nat) : Sz n (0 : Int) := by unfold Sz; simp; exact Nat.two_pow_pos _
/-! ### the best share -/
def dbl (rs : List Row) : List Row := rs.map fun r => (2 * r.1, r.2)
theorem dbl_good {rs : List Row} {n : Nat} (h : ∀ r ∈ rs, GoodB n r) : ∀ r ∈ dbl rs, GoodB (n + 1) r := fun r hr => by
  obtain ⟨x, hx, rfl⟩ := List.mem_map.mp hr
  have g := h x hx
  have h1 := g.g.s
  refine ⟨⟨by show 1 ≤ 2 * x.1; omega, g.g.b⟩, ?_, g.b.mono (by omega)⟩
  have := g.s
  unfold Sz at *
  rw [Nat.pow_succ]
  show (2 * x.1).natAbs < _
  omega
theorem amt_dbl (l : Rat) (r : Row) : amt 1 l (2 * r.1, r.2) = amt 2 l r := by
  unfold amt
  simp only [Rat.intCast_mul]
  congr 1
  simp [Rat.one_mul]
theorem best_share_ok {rs : List Row} (h0 : rs ≠ []) (h8 : rs.length ≤ 8) (hg : ∀ r ∈ rs, GoodB 110 r) {m : Int} (hm : 0 ≤ m) (sm : Sz 200 m) :
    ∃ l T W, f_best_share [dS rs, .int m] = .ok (.tup [dQ l, .tup (rs.map fun r => dQ (amt 2 l r))]) ∧ Lev (dbl rs) m l T W := by
  have d0 : dbl rs ≠ [] := fun z => h0 (List.map_eq_nil_iff.mp z)
  have dl : (dbl rs).length = rs.length := by simp [dbl]
  have dg := dbl_good hg
  obtain ⟨l, T, W, h1, h2⟩ := even_share_ok d0 (by omega) dg hm sm
  refine ⟨l, T, W, ?_, h2⟩
  have e : (dbl rs).map (fun r => dQ (amt 1 l r)) = rs.map fun r => dQ (amt 2 l r) := by
    simp [dbl, amt_dbl]
  rw [e] at h1
  have hi := init_ok d0 (by omega) (fun r hr => (dg r hr).g) (a := lstI (fst' (dbl rs))) (b := tupI (snd' (dbl rs))) (.inl rfl) (.inr rfl)
  have es : snd' (dbl rs) = snd' rs := by simp [snd', dbl]
  have ef : dI (fst' (dbl rs)) = (fst' rs).map fun s => D.int (2 * s) := by simp [fst', dbl]
  rw [es] at hi
  have hlc : ∀ e0 e1 : Option D, lcGo (tgN 2) dYes (d2 oMul (dc (.int 2)) (dv 2)) [e0, e1, none] (dI (fst' rs)) = .ok ((fst' rs).map fun s => D.int (2 * s)) := fun e0 e1 =>
    lc_map (dd := D.int) (g := fun s => D.int (2 * s)) fun s hs => ⟨_, rfl, by simp [oMul_l]⟩
  have hend : endLc (.ok ((fst' rs).map fun s => D.int (2 * s))) = .ok (.lst ((fst' rs).map fun s => D.int (2 * s))) := endLc_map (by simp; omega)
  rw [lstI, ef] at hi
  simp only [mkD_ev] at hi
  simp [f_best_share, runD_eq, m_best_share, startE, List.replicate, hlc, hend]
  simp at hi
  simp [hi, h1]
/-! ### what a share costs -/
structure OkQ (D : Int) (n : Nat) (y : Rat) : Prop where
  z : Zq D y
  s : Sz n y.num
theorem cost_loop {D : Int} {k n : Nat} (hD : 0 < D) (sD : Sz k D) (hk : k ≤ 2200) (hn : n ≤ 20000) : ∀ (rs : List Row) (ys : List Rat) (j : Nat) (t : Rat) (a b o3 o4 o5 o6 : Option Fz.D), ys.length = rs.length → (∀ r ∈ rs, GoodB 112 r) → (∀ y ∈ ys, OkQ D n y) →
    Zq (D * D) t → Sz j t.num → 60000 ≤ j → j + rs.length * 5000 ≤ 200000 →
    ∃ o3' o4' o5' o6', loopD (tgT [3, 4, 5]) b_crowd_cost_0 (zipD3 (dI (fst' rs)) (dI (snd' rs)) (ys.map dQ)) [a, b, some (dQ t), o3, o4, o5, o6] = .nx [a, b, some (dQ (t + cost rs ys)), o3', o4', o5', o6']
  | [], [], j, t, a, b, o3, o4, o5, o6, hl, hg, hy, ht, st, hj, hjl => ⟨o3, o4, o5, o6, by simp [fst', snd', zipD3, cost, Rat.add_zero]⟩
  | [], _ :: _, _, _, _, _, _, _, _, _, h, _, _, _, _, _, _ => by simp at h
  | _ :: _, [], _, _, _, _, _, _, _, _, h, _, _, _, _, _, _ => by simp at h
  | r :: rs, y :: ys, j, t, a, b, o3, o4, o5, o6, hl, hg, hy, ht, st, hj, hjl => by
    have g := hg r List.mem_cons_self
    obtain ⟨zy, sy⟩ := hy y List.mem_cons_self
    have dy := zy.den hD sD
    simp only [List.length_cons] at hjl
    have hDD : 0 < D * D := Int.mul_pos hD hD
    -- slope * y
    have z1 : Zq D ((r.1 : Rat) * y) := zy.smul r.1
    have e1 : f_times [dP r.1 1, dQ y] = .ok (dQ ((r.1 : Rat) * y)) := by
      rw [← dQ_int]
      exact times_ok (x := (r.1 : Rat)) (y := y) (by simpa using g.s) sy (by simpa using sz1) dy (by omega) (by omega)
    have s1 : Sz (112 + n) ((r.1 : Rat) * y).num := sz_mulQ (x := (r.1 : Rat)) (by simpa using g.s) sy
    have d1 := z1.den hD sD
    -- + base
    have z2 : Zq D ((r.1 : Rat) * y + (r.2 : Rat)) := z1.add (Zq.int D r.2)
    have e2 : f_added [dQ ((r.1 : Rat) * y), dP r.2 1] = .ok (dQ ((r.1 : Rat) * y + (r.2 : Rat))) := by
      rw [← dQ_int]
      exact added_ok (y := (r.2 : Rat)) s1 (by simpa using g.b) d1 (by simpa using sz1) (by omega) (by omega) (by omega)
    have s2 : Sz 25000 ((r.1 : Rat) * y + (r.2 : Rat)).num := (sz_addQ (y := (r.2 : Rat)) s1 (m := 112) (e := 1) (by simpa using g.b) d1 (by simpa using sz1)).mono (by omega)
    have d2 := z2.den hD sD
    -- times y
    have z3 : Zq (D * D) (((r.1 : Rat) * y + (r.2 : Rat)) * y) := z2.mul zy
    have e3 : f_times [dQ ((r.1 : Rat) * y + (r.2 : Rat)), dQ y] = .ok (dQ (((r.1 : Rat) * y + (r.2 : Rat)) * y)) := times_ok s2 sy d2 dy (by omega) (by omega)
    have s3 : Sz 45000 (((r.1 : Rat) * y + (r.2 : Rat)) * y).num := (sz_mulQ s2 sy).mono (by omega)
    have d3 := z3.den hDD (sD.mul sD)
    -- the sum
    have dt := ht.den hDD (sD.mul sD)
    have e4 : f_added [dQ t, dQ (((r.1 : Rat) * y + (r.2 : Rat)) * y)] = .ok (dQ (t + ((r.1 : Rat) * y + (r.2 : Rat)) * y)) := added_ok st s3 dt d3 (by omega) (by omega) (by omega)
    have s4 : Sz (j + 5000) (t + ((r.1 : Rat) * y + (r.2 : Rat)) * y).num := (sz_addQ st s3 dt d3).mono (by omega)
    obtain ⟨o3', o4', o5', o6', h⟩ := cost_loop hD sD hk hn rs ys (j + 5000) (t + ((r.1 : Rat) * y + (r.2 : Rat)) * y) a b (some (.int r.1)) (some (.int r.2)) (some (dQ y)) (some (dQ ((r.1 : Rat) * y + (r.2 : Rat)))) (by simpa using hl) (fun x hx => hg x (List.mem_cons_of_mem _ hx)) (fun x hx => hy x (List.mem_cons_of_mem _ hx)) (ht.add z3) s4 (by omega) (by omega)
    refine ⟨o3', o4', o5', o6', ?_⟩
    show loopD _ _ (.tup [.int r.1, .int r.2, dQ y] :: zipD3 (dI (fst' rs)) (dI (snd' rs)) (ys.map dQ)) _ = _
    rw [loopD_nx (e1 := [a, b, some (dQ t), some (.int r.1), some (.int r.2), some (dQ y), o6]) (by simp) (e2 := [a, b, some (dQ (t + ((r.1 : Rat) * y + (r.2 : Rat)) * y)), some (.int r.1), some (.int r.2), some (dQ y), some (dQ ((r.1 : Rat) * y + (r.2 : Rat)))]) (by simp [b_crowd_cost_0, e1, e2, e3, e4]), h]
    simp only [cost, Rat.add_assoc]
theorem cost_ok {rs : List Row} {ys : List Rat} {D : Int} {k n : Nat} (hD : 0 < D) (sD : Sz k D) (hk : k ≤ 2200) (hn : n ≤ 20000) (h8 : rs.length ≤ 8) (hl : ys.length = rs.length) (hg : ∀ r ∈ rs, GoodB 112 r) (hy : ∀ y ∈ ys, OkQ D n y) {a : Fz.D} (ha : a = .tup (ys.map dQ) ∨ a = .lst (ys.map dQ)) :
    f_crowd_cost [dS rs, a] = .ok (dQ (cost rs ys)) := by
  have h2 : (ys.length : Int) = (rs.length : Int) := by omega
  have dz : dP 0 1 = dQ 0 := rfl
  rcases ha with rfl | rfl
  · obtain ⟨o3, o4, o5, o6, h⟩ := cost_loop hD sD hk hn rs ys 60000 0 (some (dS rs)) (some (.tup (ys.map dQ))) none none none none hl hg hy (Zq.zero _) (sz0 _) (by omega) (by omega)
    have zz : zp3D [tupI (fst' rs), tupI (snd' rs), .tup (ys.map dQ)] = .ok (zipD3 (dI (fst' rs)) (dI (snd' rs)) (ys.map dQ)) := rfl
    rw [Rat.zero_add] at h
    simp [f_crowd_cost, runD_eq, m_crowd_cost, startE, List.replicate, h2, zz, dz, h]
  · obtain ⟨o3, o4, o5, o6, h⟩ := cost_loop hD sD hk hn rs ys 60000 0 (some (dS rs)) (some (.lst (ys.map dQ))) none none none none hl hg hy (Zq.zero _) (sz0 _) (by omega) (by omega)
    have zz : zp3D [tupI (fst' rs), tupI (snd' rs), .lst (ys.map dQ)] = .ok (zipD3 (dI (fst' rs)) (dI (snd' rs)) (ys.map dQ)) := rfl
    rw [Rat.zero_add] at h
    simp [f_crowd_cost, runD_eq, m_crowd_cost, startE, List.replicate, h2, zz, dz, h]
theorem Lev.okQ {rs : List Row} {m : Int} {l : Rat} {T W : Int} {f : Nat} (L : Lev rs m l T W) (hg : ∀ r ∈ rs, GoodB 112 r) {B : Int} (hB : ∀ r ∈ rs, r.1 ∣ B) : ∀ r ∈ rs, OkQ (B * W) 20000 (amt 1 l r) := fun r hr => by
  have g := hg r hr
  have h1 := g.g.s
  obtain ⟨c, hc⟩ := hB r hr
  have e := amt_int (T := T) L.w g.g
  rw [← L.lq] at e
  have p : 0 < r.1 * W := Int.mul_pos (by omega) L.w
  have sb := g.b.mul L.sw
  have st := L.st.sub sb
  have top : Sz 1400 (if T - r.2 * W > 0 then T - r.2 * W else 0) := by
    split
    · exact st.mono (by omega)
    · exact sz0 _
  refine ⟨?_, ?_⟩
  · rw [← e, hc]
    have z := (Zq.of (z := if T - r.2 * W > 0 then T - r.2 * W else 0) p).more c
    rwa [show r.1 * W * c = r.1 * c * W by grind] at z
  · rw [← e]
    exact (num_le _ p top).mono (by omega)
/-! ### the law's looks -/
theorem q_gcd (q : Rat) : Int.gcd q.num (q.den : Int) = 1 := by
  show q.num.natAbs.gcd ((q.den : Int).natAbs) = 1
  rw [Int.natAbs_natCast]; exact q.reduced
theorem exact_ok {q : Rat} {k : Nat} (h : Sz k (q.den : Int)) (hk : k ≤ 9000) : f__law_is_exact [dQ q] = .ok (.bl true) := by
  have g := gcd_ok 20000 (by omega) q.num (q.den : Int) h (by omega)
  rw [q_gcd] at g
  have p := den_pos' q
  have p' : ¬ (q.den : Int) < 1 := by omega
  have e : dQ q = .tup [.int q.num, .int (q.den : Int)] := rfl
  have g' : f__law_gcd 20000 [.int q.num, .int (q.den : Int)] = .ok (.int 1) := g
  rw [e]
  simp [f__law_is_exact, runD_eq, m__law_is_exact, startE, List.replicate, bIsi, plainD, isTy, whole_int, p', g']
/-- the value of a pair -/
abbrev pv (a b : Int) : Rat := (a : Rat) / (b : Rat)
theorem pv_add {a b c d : Int} (hb : 0 < b) (hd : 0 < d) : pv (a * d + c * b) (b * d) = pv a b + pv c d := by
  have h1 := Rat.intCast_pos.mpr hb
  have h2 := Rat.intCast_pos.mpr hd
  unfold pv
  rw [Rat.intCast_add, Rat.intCast_mul, Rat.intCast_mul, Rat.intCast_mul]
  grind
theorem pv_eq {a b c d : Int} (hb : 0 < b) (hd : 0 < d) : a * d = c * b ↔ pv a b = pv c d := by
  have h1 := Rat.intCast_pos.mpr hb
  have h2 := Rat.intCast_pos.mpr hd
  unfold pv
  rw [← Rat.intCast_inj, Rat.intCast_mul, Rat.intCast_mul]
  constructor
  · intro h; grind
  · intro h; grind
theorem pv_lt {a b c d : Int} (hb : 0 < b) (hd : 0 < d) : a * d < c * b ↔ pv a b < pv c d := by
  have h1 := Rat.intCast_pos.mpr hb
  have h2 := Rat.intCast_pos.mpr hd
  unfold pv
  rw [Rat.div_lt_iff h1, ← Rat.intCast_lt_intCast, Rat.intCast_mul, Rat.intCast_mul]
  have e : (c : Rat) / (d : Rat) * (b : Rat) = (c : Rat) * (b : Rat) / (d : Rat) := by grind
  rw [e, Rat.lt_div_iff h2]
theorem pv_q (q : Rat) : pv q.num (q.den : Int) = q := num_div_den' q
theorem pv_1 (a : Int) : pv a 1 = (a : Rat) := by unfold pv; grind
theorem plus_ok {a b c d : Int} {n m : Nat} (hb : 0 < b) (hd : 0 < d) (sa : Sz n a) (sb : Sz n b) (sc : Sz m c) (sd : Sz m d) (h : n + m ≤ 900000) : ∃ p q, f__law_plus [dP a b, dP c d] = .ok (dP p q) ∧ 0 < q ∧ pv p q = pv a b + pv c d ∧ Sz (n + m + 1) p ∧ Sz (n + m + 1) q := by
  by_cases e : b = d
  · subst e
    refine ⟨a + c, b, ?_, hb, ?_, (sa.add sc).mono (by omega), sb.mono (by omega)⟩
    · simp [f__law_plus, runD_eq, m__law_plus, startE, List.replicate]
    · have h1 := Rat.intCast_pos.mpr hb
      unfold pv
      rw [Rat.intCast_add]
      grind
  · refine ⟨a * d + c * b, b * d, ?_, Int.mul_pos hb hd, pv_add hb hd, ((sa.mul sd).add (sc.mul sb)).mono (by omega), (sb.mul sd).mono (by omega)⟩
    simp [f__law_plus, runD_eq, m__law_plus, startE, List.replicate, e, oMul_sz sa sd h, oMul_sz sc sb (by omega), oMul_sz sb sd h]
theorem equal_ok {a b c d : Int} {n m : Nat} (hb : 0 < b) (hd : 0 < d) (sa : Sz n a) (sb : Sz n b) (sc : Sz m c) (sd : Sz m d) (h : n + m ≤ 900000) : f__law_equal [dP a b, dP c d] = .ok (.bl (decide (pv a b = pv c d))) := by
  have e : decide (pv a b = pv c d) = decide (a * d = c * b) := by simp only [pv_eq hb hd]
  rw [e]
  simp [f__law_equal, runD_eq, m__law_equal, startE, List.replicate, oMul_sz sa sd h, oMul_sz sc sb (by omega)]
theorem take_snoc {α : Type} {xs : List α} {i : Nat} {x : α} (h : xs[i]? = some x) : xs.take (i + 1) = xs.take i ++ [x] := by
  rw [List.take_succ, h] <;> rfl
theorem sum_snoc (xs : List Rat) (x : Rat) : (xs ++ [x]).sum = xs.sum + x := by simp [Rat.add_zero]
/-- what a share must be: its amounts, its level -/
structure Shr (f : Int) (rs : List Row) (m : Int) (l : Rat) : Prop where
  f1 : 1 ≤ f ∧ f ≤ 2
  good : ∀ r ∈ rs, GoodB 111 r
  sum : (rs.map (amt (f : Rat) l)).sum = (m : Rat)
  low : ∃ r ∈ rs, (r.2 : Rat) ≤ l
  sl : Sz 2200 l.num ∧ Sz 2200 (l.den : Int)
  ok : ∀ r ∈ rs, Sz 20000 (amt (f : Rat) l r).num ∧ Sz 2200 ((amt (f : Rat) l r).den : Int)
theorem Shr.fq {f : Int} {rs : List Row} {m : Int} {l : Rat} (S : Shr f rs m l) : 1 ≤ (f : Rat) := by
  have := Rat.intCast_le_intCast.mpr S.f1.1
  simpa using this
/-- the level of no crowd -/
theorem Shr.zero {f : Int} {rs : List Row} {l : Rat} (S : Shr f rs 0 l) (h0 : rs ≠ []) : l = (minZ (snd' rs) : Rat) := by
  have z := sum_zero (ys := rs.map (amt (f : Rat) l)) (fun y hy => by
    obtain ⟨r, hr, rfl⟩ := List.mem_map.mp hy
    exact amt_nonneg S.fq (S.good r hr).g) (by rw [S.sum]; rfl)
  have le : ∀ r ∈ rs, l ≤ (r.2 : Rat) := fun r hr => by
    rcases amt_cost (l := l) S.fq (S.good r hr).g with ⟨h1, _⟩ | ⟨_, h2⟩
    · have := z _ (List.mem_map.mpr ⟨r, hr, rfl⟩); grind
    · exact h2
  obtain ⟨n, q, e⟩ : ∃ n r, snd' rs = n :: r := cons_of h0 (·.2)
  have mem : minZ (snd' rs) ∈ snd' rs := by rw [e]; exact minZ_mem
  obtain ⟨r1, h1, e1⟩ := List.mem_map.mp mem
  obtain ⟨r0, h2, e2⟩ := S.low
  have a1 : l ≤ (minZ (snd' rs) : Rat) := by rw [← e1]; exact le r1 h1
  have a2 : minZ (snd' rs) ≤ r0.2 := by
    have : r0.2 ∈ snd' rs := List.mem_map.mpr ⟨r0, h2, rfl⟩
    rw [e] at this ⊢
    exact minZ_le this
  have a3 := Rat.intCast_le_intCast.mpr a2
  grind
theorem is_share_ok {f : Int} {rs : List Row} {m : Int} {l : Rat} (h0 : rs ≠ []) (h8 : rs.length ≤ 8) (sm : Sz 200 m) (S : Shr f rs m l) :
    f__law_is_share [.tup [dQ l, .tup (rs.map fun r => dQ (amt (f : Rat) l r))], .lst (rs.map fun r => dP r.1 r.2), .int m, .int f] = .ok (.bl true) := by
  have ex := exact_ok S.sl.2 (by omega)
  have sf : Sz 2 f := by have := S.f1; unfold Sz; omega
  obtain ⟨e', a1, p, q, o6, o7, o8, rfl, q0, hv, sp, sq⟩ := loop_rng (lo := 0) (tg := tgN 6) (body := b__law_is_share_0) rs.length
    (fun i e => ∃ p q o6 o7 o8, e = [some (.tup [dQ l, .tup (rs.map fun r => dQ (amt (f : Rat) l r))]), some (.lst (rs.map fun r => dP r.1 r.2)), some (.int m), some (.int f), some (dQ l), some (dP p q), o6, o7, o8, none] ∧ 0 < q ∧ pv p q = ((rs.take i).map (amt (f : Rat) l)).sum ∧ Sz (10 + i * 30000) p ∧ Sz (10 + i * 30000) q)
    (fun i e hi ⟨p, q, o6, o7, o8, he, q0, hv, sp, sq⟩ => by
      subst he
      have hr : rs[i] ∈ rs := List.getElem_mem hi
      have eg : rs[i]? = some rs[i] := List.getElem?_eq_getElem hi
      generalize hR : rs[i] = r at hr eg
      obtain ⟨s1, s2⟩ := S.ok r hr
      have g := S.good r hr
      have ix1 : oIx (.tup (rs.map fun r => dQ (amt (f : Rat) l r))) (.int (i : Int)) = .ok (dQ (amt (f : Rat) l r)) := oIx_tup rfl (map_get (f := fun r => dQ (amt (f : Rat) l r)) eg)
      have ix2 : oIx (.lst (rs.map fun r => dP r.1 r.2)) (.int (i : Int)) = .ok (dP r.1 r.2) := oIx_lst rfl (map_get (f := fun r : Row => dP r.1 r.2) eg)
      have n0 := amt_nonneg (l := l) S.fq g.g
      have nn : ¬ (amt (f : Rat) l r).num < 0 := by have := Rat.num_nonneg.mpr n0; omega
      have hx := amt_cost (l := l) S.fq g.g
      have exa := exact_ok s2 (by omega)
      have tk := take_snoc eg
      generalize hX : amt (f : Rat) l r = x at *
      have pd := den_pos' x
      obtain ⟨p', q', h1, h2, h3, h4, h5⟩ := plus_ok (c := x.num) (d := (x.den : Int)) (m := 20000) q0 pd sp sq s1 (s2.mono (by omega)) (by omega)
      have h1' : f__law_plus [dP p q, dQ x] = .ok (dP p' q') := h1
      -- what it costs
      have m1 := oMul_sz sf g.s (by omega)
      have m2 := oMul_sz (sf.mul g.s) s1 (by omega)
      have m3 := oMul_sz g.b s2 (by omega)
      have sh : Sz 30000 (f * r.1 * x.num + r.2 * (x.den : Int)) := (((sf.mul g.s).mul s1).add (g.b.mul s2)).mono (by omega)
      have hv2 : pv (f * r.1 * x.num + r.2 * (x.den : Int)) (x.den : Int) = (f : Rat) * (r.1 : Rat) * x + (r.2 : Rat) := by
        have e1 := num_div_den' x
        have e2 := Rat.intCast_pos.mpr pd
        unfold pv
        rw [Rat.intCast_add, Rat.intCast_mul, Rat.intCast_mul, Rat.intCast_mul]
        generalize ((x.den : Int) : Rat) = dd at *
        generalize (x.num : Rat) = nn' at *
        rw [← e1]
        grind
      have eq1 := equal_ok (a := f * r.1 * x.num + r.2 * (x.den : Int)) (b := (x.den : Int)) (c := l.num) (d := (l.den : Int)) (n := 30000) (m := 2200) pd (den_pos' l) sh (s2.mono (by omega)) S.sl.1 S.sl.2 (by omega)
      rw [hv2, pv_q] at eq1
      have eq1' : f__law_equal [dP (f * r.1 * x.num + r.2 * (x.den : Int)) (x.den : Int), dQ l] = _ := eq1
      have m4 := oMul_sz sh S.sl.2 (by omega)
      have m5 := oMul_sz S.sl.1 s2 (by omega)
      have ge : ¬ (f * r.1 * x.num + r.2 * (x.den : Int)) * (l.den : Int) < l.num * (x.den : Int) := by
        rw [pv_lt pd (den_pos' l), hv2, pv_q]
        rcases hx with ⟨_, h⟩ | ⟨h, h'⟩
        · rw [h]; exact Rat.lt_irrefl
        · rw [h]; grind
      refine ⟨_, rfl, _, .inl ?_, p', q', some (.int i), some (dQ x), some (dP (f * r.1 * x.num + r.2 * (x.den : Int)) (x.den : Int)), rfl, h2, ?_, h4.mono (by rw [Nat.add_mul]; omega), h5.mono (by rw [Nat.add_mul]; omega)⟩
      · by_cases c : 0 < x.num
        · have xp : 0 < x := by
            have := Rat.num_eq_zero (q := x)
            grind
          have lev : (f : Rat) * (r.1 : Rat) * x + (r.2 : Rat) = l := by
            rcases hx with ⟨_, h⟩ | ⟨h, _⟩
            · exact h
            · grind
          rw [lev] at eq1'
          simp [b__law_is_share_0, ix1, ix2, exa, nn, h1', m1, m2, m3, m4, m5, ge, eq1']
        · simp [b__law_is_share_0, ix1, ix2, exa, nn, h1', m1, m2, m3, m4, m5, ge, c]
      · rw [h3, hv, tk, List.map_append, List.map_cons, List.map_nil, sum_snoc, pv_q, hX]) [some (.tup [dQ l, .tup (rs.map fun r => dQ (amt (f : Rat) l r))]), some (.lst (rs.map fun r => dP r.1 r.2)), some (.int m), some (.int f), some (dQ l), some (dP 0 1), none, none, none, none]
    ⟨0, 1, none, none, none, rfl, by decide, by simp [pv, Rat.div_def], sz0 _, sz1.mono (by omega)⟩
  rw [List.take_length, S.sum] at hv
  have fin := equal_ok (c := m) (d := 1) (m := 200) q0 (by decide) sp sq sm (sz1.mono (by omega)) (by omega)
  rw [hv, pv_1] at fin
  have hl1 : (rs.length : Int) = (rs.map fun r => dQ (amt (f : Rat) l r)).length := by simp
  have rg : rng1D [.int (rs.length : Int)] = .ok (rngD 0 rs.length) := rng1_ok (by omega)
  by_cases m0 : m = 0
  · subst m0
    have z := S.zero h0
    obtain ⟨n, qq, e⟩ : ∃ n r, snd' rs = n :: r := cons_of h0 (·.2)
    have hlc : ∀ e0 e1 e2 e3 e4 e5 e6 e7 e8 : Option Fz.D, lcGo (tgN 9) dYes (d2 oIx (dv 9) (dc (.int 1))) [e0, e1, e2, e3, e4, e5, e6, e7, e8, none] (rs.map fun r => dP r.1 r.2) = .ok (rs.map fun r => .int r.2) := fun e0 e1 e2 e3 e4 e5 e6 e7 e8 =>
      lc_map (dd := fun r : Row => dP r.1 r.2) (g := fun r => .int r.2) fun r hr => ⟨_, rfl, by simp⟩
    have hend : endLc (.ok (rs.map fun r => Fz.D.int r.2)) = .ok (.lst (rs.map fun r => .int r.2)) := endLc_map (by omega)
    have es : (Fz.D.lst (rs.map fun r => Fz.D.int r.2)) = lstI (snd' rs) := by simp [snd']
    have smin : Sz 111 (minZ (snd' rs)) := by
      have mem : minZ (snd' rs) ∈ snd' rs := by rw [e]; exact minZ_mem
      obtain ⟨r1, h1, e1⟩ := List.mem_map.mp mem
      rw [← e1]; exact (S.good r1 h1).b
    have eq2 := equal_ok (a := l.num) (b := (l.den : Int)) (c := minZ (snd' rs)) (d := 1) (n := 2200) (m := 111) (den_pos' l) (by decide) S.sl.1 S.sl.2 smin (sz1.mono (by omega)) (by omega)
    rw [pv_q, pv_1, ← z] at eq2
    have eq2' : f__law_equal [dQ l, dP (minZ (snd' rs)) 1] = _ := eq2
    have bm := bMin_lst e
    simp [f__law_is_share, runD_eq, m__law_is_share, startE, List.replicate, bIsi, plainD, isTy, ex, rg, a1, hlc, hend, es, bm, eq2', fin]
  · simp [f__law_is_share, runD_eq, m__law_is_share, startE, List.replicate, bIsi, plainD, isTy, ex, rg, a1, m0, fin]
end Fz.Str
set_option Elab.async false
set_option linter.all false
set_option maxRecDepth 100000
/-! Streets: costs by the law, tolls, dearness, alike. -/
namespace Fz.Str
open PySem Fz Fz.Std P12
theorem cost_snoc : ∀ {rs : List Row} {ys : List Rat} {i : Nat} {r : Row} {y : Rat}, rs[i]? = some r → ys[i]? = some y → cost (rs.take (i + 1)) (ys.take (i + 1)) = cost (rs.take i) (ys.take i) + ((r.1 : Rat) * y + (r.2 : Rat)) * y
  | [], _, i, r, y, h, _ => by simp at h
  | _ :: _, [], i, r, y, _, h => by simp at h
  | a :: rs, b :: ys, 0, r, y, h1, h2 => by
    simp at h1 h2
    subst h1 h2
    simp [cost, Rat.zero_add, Rat.add_zero]
  | a :: rs, b :: ys, i + 1, r, y, h1, h2 => by
    have ih := cost_snoc (rs := rs) (ys := ys) (i := i) (r := r) (y := y) (by simpa using h1) (by simpa using h2)
    rw [List.take_succ_cons, List.take_succ_cons, List.take_succ_cons, List.take_succ_cons]
    simp only [cost]
    rw [ih, Rat.add_assoc]
theorem cost_zq {D : Int} : ∀ {rs : List Row} {ys : List Rat}, (∀ y ∈ ys, Zq D y) → Zq (D * D) (cost rs ys)
  | [], _, _ => by simp only [cost]; exact Zq.zero _
  | _ :: _, [], _ => by simp only [cost]; exact Zq.zero _
  | r :: rs, y :: ys, h => by
    have ih := cost_zq (rs := rs) (ys := ys) fun x hx => h x (List.mem_cons_of_mem _ hx)
    have hy := h y List.mem_cons_self
    exact (((hy.smul r.1).add (Zq.int D r.2)).mul hy).add ih
/-- a bound of the cost -/
theorem cost_le {S M : Rat} (hS : 0 ≤ S) (hM : 0 ≤ M) : ∀ {rs : List Row} {ys : List Rat}, (∀ r ∈ rs, GoodR r ∧ (r.1 : Rat) ≤ S ∧ (r.2 : Rat) ≤ S) → (∀ y ∈ ys, 0 ≤ y ∧ y ≤ M) → cost rs ys ≤ (rs.length : Rat) * ((S * M + S) * M)
  | [], _, _, _ => by simp [cost]
  | r :: rs, [], _, _ => by
    simp only [cost]
    have h1 := Rat.mul_nonneg hS hM
    have h2 := Rat.mul_nonneg (show 0 ≤ S * M + S by grind) hM
    have h3 : 0 ≤ ((r :: rs).length : Rat) := Rat.natCast_nonneg
    exact Rat.mul_nonneg h3 h2
  | r :: rs, y :: ys, hr, hy => by
    have ih := cost_le hS hM (rs := rs) (ys := ys) (fun x hx => hr x (List.mem_cons_of_mem _ hx)) fun x hx => hy x (List.mem_cons_of_mem _ hx)
    obtain ⟨g, a1, a2⟩ := hr r List.mem_cons_self
    obtain ⟨y0, y1⟩ := hy y List.mem_cons_self
    have s1 := g.sq
    have b0 := g.bq
    have k1 : (r.1 : Rat) * y ≤ S * M := by
      have e1 := Rat.mul_le_mul_of_nonneg_right a1 y0
      have e2 := Rat.mul_le_mul_of_nonneg_left y1 hS
      grind
    have k0 := Rat.mul_nonneg (show 0 ≤ (r.1 : Rat) by grind) y0
    have k2 : ((r.1 : Rat) * y + (r.2 : Rat)) * y ≤ (S * M + S) * M := by
      have e1 := Rat.mul_le_mul_of_nonneg_right (show (r.1 : Rat) * y + (r.2 : Rat) ≤ S * M + S by grind) y0
      have e2 := Rat.mul_le_mul_of_nonneg_left y1 (show 0 ≤ S * M + S by grind)
      grind
    have e : ((r :: rs).length : Rat) = (rs.length : Rat) + 1 := by simp
    simp only [cost]
    rw [e, Rat.add_mul]
    grind
theorem num_of_val {q : Rat} {V : Int} {v d : Nat} (h0 : 0 ≤ q) (hV : q ≤ (V : Rat)) (sV : Sz v V) (sd : Sz d (q.den : Int)) : Sz (v + d) q.num := by
  have n0 := Rat.num_nonneg.mpr h0
  have p := den_pos' q
  have h : q.num ≤ V * (q.den : Int) := by
    have e := num_div_den' q
    have p2 := Rat.intCast_pos.mpr p
    rw [← Rat.intCast_le_intCast, Rat.intCast_mul]
    have : (q.num : Rat) = q * ((q.den : Int) : Rat) := by
      have := Rat.div_mul_cancel (a := (q.num : Rat)) (b := ((q.den : Int) : Rat)) (by grind)
      rw [e] at this
      exact this.symm
    rw [this]
    exact Rat.mul_le_mul_of_nonneg_right hV (by grind)
  exact (sV.mul sd).le n0 h
theorem mem_le_sum : ∀ {ys : List Rat}, (∀ y ∈ ys, 0 ≤ y) → ∀ y ∈ ys, y ≤ ys.sum
  | [], _, y, h => by cases h
  | x :: ys, hy, y, h => by
    have n := sum_nonneg (ys := ys) fun x hx => hy x (List.mem_cons_of_mem _ hx)
    have x0 := hy x List.mem_cons_self
    simp only [List.sum_cons]
    rcases List.mem_cons.mp h with z | z
    · subst z; grind
    · have := mem_le_sum (ys := ys) (fun x hx => hy x (List.mem_cons_of_mem _ hx)) y z
      grind
theorem cost_num {rs : List Row} {ys : List Rat} {m : Int} {D : Int} {k : Nat} (h8 : rs.length ≤ 8) (hg : ∀ r ∈ rs, GoodB 111 r) (hy : ∀ y ∈ ys, 0 ≤ y) (hs : ys.sum = (m : Rat)) (sm : Sz 200 m) (hD : 0 < D) (sD : Sz k D) (hz : ∀ y ∈ ys, Zq D y) : Sz (520 + (k + k)) (cost rs ys).num := by
  have m0 : 0 ≤ m := by
    have := sum_nonneg hy
    rw [hs] at this
    exact Rat.intCast_nonneg.mp this
  have mq := Rat.intCast_nonneg.mpr m0
  have c0 := cost_nonneg rs ys (fun r hr => (hg r hr).g) hy
  have P : ∀ i : Int, Sz 111 i → i ≤ 2 ^ 111 := fun i hi => by unfold Sz at hi; omega
  have b1 := cost_le (S := ((2 ^ 111 : Int) : Rat)) (M := (m : Rat)) (Rat.intCast_nonneg.mpr (by decide)) mq (rs := rs) (ys := ys) (fun r hr => ⟨(hg r hr).g, Rat.intCast_le_intCast.mpr (P _ (hg r hr).s), Rat.intCast_le_intCast.mpr (P _ (hg r hr).b)⟩) fun y h => ⟨hy y h, by rw [← hs]; exact mem_le_sum hy y h⟩
  have b2 : cost rs ys ≤ ((8 * ((2 ^ 111 * m + 2 ^ 111) * m) : Int) : Rat) := by
    rw [Rat.intCast_mul, Rat.intCast_mul, Rat.intCast_add, Rat.intCast_mul]
    have n0 : 0 ≤ (((2 ^ 111 : Int) : Rat) * (m : Rat) + ((2 ^ 111 : Int) : Rat)) * (m : Rat) := by
      have s0 : 0 ≤ ((2 ^ 111 : Int) : Rat) := Rat.intCast_nonneg.mpr (by decide)
      have h1 := Rat.mul_nonneg s0 mq
      exact Rat.mul_nonneg (by grind) mq
    have l8 : (rs.length : Rat) ≤ ((8 : Int) : Rat) := by
      have : ((rs.length : Int) : Rat) ≤ ((8 : Int) : Rat) := Rat.intCast_le_intCast.mpr (by omega)
      rwa [Rat.intCast_natCast] at this
    have := Rat.mul_le_mul_of_nonneg_right l8 n0
    grind
  have s111 : Sz 112 (2 ^ 111) := by unfold Sz; decide
  have sV : Sz 520 (8 * ((2 ^ 111 * m + 2 ^ 111) * m)) := ((Sz.mul (n := 5) (by unfold Sz; decide) (((s111.mul sm).add s111).mul sm))).mono (by omega)
  exact num_of_val c0 b2 sV ((cost_zq hz).den (Int.mul_pos hD hD) (sD.mul sD))
theorem pv_term (s b : Int) (y : Rat) : pv ((s * y.num + b * (y.den : Int)) * y.num) ((y.den : Int) * (y.den : Int)) = ((s : Rat) * y + (b : Rat)) * y := by
  have pd := den_pos' y
  have e1 := num_div_den' y
  have e2 := Rat.intCast_pos.mpr pd
  unfold pv
  rw [Rat.intCast_mul, Rat.intCast_add, Rat.intCast_mul, Rat.intCast_mul, Rat.intCast_mul]
  generalize ((y.den : Int) : Rat) = dd at *
  generalize (y.num : Rat) = nn' at *
  rw [← e1]
  grind
theorem lcost_ok {rs : List Row} {ys : List Rat} {D : Int} {k n : Nat} (hD : 0 < D) (sD : Sz k D) (hk : k ≤ 2200) (hn : n ≤ 20000) (h8 : rs.length ≤ 8) (hl : ys.length = rs.length) (hg : ∀ r ∈ rs, GoodB 112 r) (hy : ∀ y ∈ ys, OkQ D n y) {a : Fz.D} (ha : a = .tup (ys.map dQ) ∨ a = .lst (ys.map dQ)) :
    ∃ p q, f__law_cost [.lst (rs.map fun r => dP r.1 r.2), a] = .ok (dP p q) ∧ 0 < q ∧ pv p q = cost rs ys ∧ Sz 400000 p ∧ Sz 400000 q := by
  obtain ⟨e', a1, p, q, o3, o4, rfl, q0, hv, sp, sq⟩ := loop_rng (lo := 0) (tg := tgN 3) (body := b__law_cost_0) rs.length
    (fun i e => ∃ p q o3 o4, e = [some (.lst (rs.map fun r => dP r.1 r.2)), some a, some (dP p q), o3, o4] ∧ 0 < q ∧ pv p q = cost (rs.take i) (ys.take i) ∧ Sz (10 + i * 45000) p ∧ Sz (10 + i * 45000) q)
    (fun i e hi ⟨p, q, o3, o4, he, q0, hv, sp, sq⟩ => by
      subst he
      have eg : rs[i]? = some rs[i] := List.getElem?_eq_getElem hi
      have hr : rs[i] ∈ rs := List.getElem_mem hi
      generalize rs[i] = r at hr eg
      have hi2 : i < ys.length := by omega
      have ey : ys[i]? = some ys[i] := List.getElem?_eq_getElem hi2
      have hY : ys[i] ∈ ys := List.getElem_mem hi2
      generalize ys[i] = y at hY ey
      have g := hg r hr
      obtain ⟨zy, sy⟩ := hy y hY
      have dy := zy.den hD sD
      have pd := den_pos' y
      have ix1 : oIx a (.int (i : Int)) = .ok (dQ y) := by
        rcases ha with rfl | rfl
        · exact oIx_tup rfl (map_get ey)
        · exact oIx_lst rfl (map_get ey)
      have ix2 : oIx (.lst (rs.map fun r => dP r.1 r.2)) (.int (i : Int)) = .ok (dP r.1 r.2) := oIx_lst rfl (map_get (f := fun r : Row => dP r.1 r.2) eg)
      have m1 := oMul_sz g.s sy (by omega)
      have m2 := oMul_sz g.b dy (by omega)
      have s1 : Sz 23000 (r.1 * y.num + r.2 * (y.den : Int)) := ((g.s.mul sy).add (g.b.mul dy)).mono (by omega)
      have m3 := oMul_sz s1 sy (by omega)
      have m4 := oMul_sz dy dy (by omega)
      have s3 : Sz 44000 ((r.1 * y.num + r.2 * (y.den : Int)) * y.num) := (s1.mul sy).mono (by omega)
      have s4 : Sz 44000 ((y.den : Int) * (y.den : Int)) := (dy.mul dy).mono (by omega)
      obtain ⟨p', q', h1, h2, h3, h4, h5⟩ := plus_ok q0 (Int.mul_pos pd pd) sp sq s3 s4 (by omega)
      refine ⟨_, rfl, _, .inl ?_, p', q', some (.int i), some (dQ y), rfl, h2, ?_, h4.mono (by rw [Nat.add_mul]; omega), h5.mono (by rw [Nat.add_mul]; omega)⟩
      · simp [b__law_cost_0, ix1, ix2, m1, m2, m3, m4, h1]
      · have cs := cost_snoc eg ey
        have pt := pv_term r.1 r.2 y
        exact h3.trans ((congr (congrArg _ hv) pt).trans cs.symm)) [some (.lst (rs.map fun r => dP r.1 r.2)), some a, some (dP 0 1), none, none]
    ⟨0, 1, none, none, rfl, by decide, by simp [pv, Rat.div_def, cost], sz0 _, sz1.mono (by omega)⟩
  rw [List.take_length, ← hl, List.take_length] at hv
  have rg : rng1D [.int (rs.length : Int)] = .ok (rngD 0 rs.length) := rng1_ok (by omega)
  refine ⟨p, q, ?_, q0, hv, sp.mono (by omega), sq.mono (by omega)⟩
  simp [f__law_cost, runD_eq, m__law_cost, startE, List.replicate, rg, a1]
theorem is_cost_ok {rs : List Row} {ys : List Rat} {D : Int} {k n : Nat} (hD : 0 < D) (sD : Sz k D) (hk : k ≤ 2200) (hn : n ≤ 20000) (h8 : rs.length ≤ 8) (hl : ys.length = rs.length) (hg : ∀ r ∈ rs, GoodB 112 r) (hy : ∀ y ∈ ys, OkQ D n y) {a : Fz.D} (ha : a = .tup (ys.map dQ) ∨ a = .lst (ys.map dQ)) :
    f__law_is_cost [dQ (cost rs ys), .lst (rs.map fun r => dP r.1 r.2), a] = .ok (.bl true) := by
  obtain ⟨p, q, h1, q0, hv, sp, sq⟩ := lcost_ok hD sD hk hn h8 hl hg hy ha
  have dn := (cost_zq (rs := rs) fun y h => (hy y h).z).den (Int.mul_pos hD hD) (sD.mul sD)
  have ex := exact_ok dn (by omega)
  have sn : Sz 400000 (cost rs ys).num := by
    rw [← hv]; exact num_le _ q0 sp
  have eq := equal_ok (a := (cost rs ys).num) (b := ((cost rs ys).den : Int)) (den_pos' _) q0 sn (dn.mono (by omega)) sp sq (by omega)
  rw [pv_q, hv] at eq
  have eq' : f__law_equal [dQ (cost rs ys), dP p q] = _ := eq
  simp [f__law_is_cost, runD_eq, m__law_is_cost, startE, List.replicate, ex, h1, eq']
end Fz.Str
set_option Elab.async false
set_option linter.all false
set_option maxRecDepth 100000
set_option maxHeartbeats 0
/-! Printed by gen.py: the plain functions of the defs, their walks. -/
namespace K12
open PySem PySem.Spec PyProof.Rows L2 Fz
def top (i : Nat) : Stmt := PySem.Challenge.pw_slipsgrowrare_k12_even_and_best_shares_o.main.body.getD i (.Pass ⟨0, 0, 0, 0⟩)
/-! ### _law_mix -/
abbrev st__law_mix : Stmt := (top 20)
def d__law_mix : He.DefD := ⟨("_law_mix", none), "_law_mix", "_law_mix", defArgs st__law_mix, defBody st__law_mix, defScope st__law_mix, [], []⟩
def m__law_mix : Fz.Env → Out := bSeq (sSet 2 (d2 oMod (dcall bInt (dcons (d2 oAdd (d2 oAdd (d2 oMul (dv 0) (dc (.int 48271))) (d2 oMul (dv 1) (dc (.int 69621)))) (dc (.int 7919))) dnil)) (dc (.int 2147483647)))) (bSeq (sSet 3 (d2 oMod (dcall bInt (dcons (d2 oAdd (d2 oAdd (d2 oMul (dv 2) (dc (.int 40692))) (d2 oMul (dv 1) (dc (.int 52774)))) (d2 oDiv (dv 2) (dc (.int 977)))) dnil)) (dc (.int 2147483399)))) (bSeq (sRet (d2 oMod (dcall bInt (dcons (d2 oAdd (d2 oMul (dv 3) (dc (.int 39373))) (d2 oDiv (dv 3) (dc (.int 1013)))) dnil)) (dc (.int 2147483647)))) sNx))
def f__law_mix : List D → Res D := runD .z 4 m__law_mix
/-! ### _law_row -/
abbrev st__law_row : Stmt := (top 21)
def d__law_row : He.DefD := ⟨("_law_row", none), "_law_row", "_law_row", defArgs st__law_row, defBody st__law_row, defScope st__law_row, [], []⟩
def b__law_row_0 : Fz.Env → Out := bSeq (sIf (Fz.tAnd (tVal (d2 cGe (dcall bAbs (dcons (dv 0) dnil)) (d2 oPow (dc (.int 10)) (dc (.int 18))))) (tVal (d2 cGt (dv 4) (dc (.int 0))))) (bSeq (sApp 3 (d2 oMod (dcall bInt (dcons (dv 4) dnil)) (dv 2))) (bSeq (sSet 4 (d2 oDiv (dv 4) (dv 2))) sNx)) (bSeq (sApp 3 (d2 oMod (dcall bInt (dcons (dcall (withD 2 [] f__law_mix) (dcons (dv 0) (dcons (dv 5) dnil))) dnil)) (dv 2))) sNx)) sNx
def m__law_row : Fz.Env → Out := bSeq (sSet 3 (dcall oLst dnil)) (bSeq (sSet 4 (dcall bAbs (dcons (dv 0) dnil))) (bSeq (sFor (iArg rng1D (dcons (dv 1) dnil)) (tgN 5) b__law_row_0) (bSeq (sRet (dv 3)) sNx)))
def f__law_row : List D → Res D := runD .z 6 m__law_row
/-! ### _law_cell -/
abbrev st__law_cell : Stmt := (top 19)
def d__law_cell : He.DefD := ⟨("_law_cell", none), "_law_cell", "_law_cell", defArgs st__law_cell, defBody st__law_cell, defScope st__law_cell, [], []⟩
def m__law_cell : Fz.Env → Out := bSeq (sIf (tVal (d2 cLt (dv 1) (dcall bLen (dcons (dv 0) dnil)))) (bSeq (sRet (d2 oIx (dv 0) (dv 1))) sNx) sNx) (bSeq (sRet (dc (.int 0))) sNx)
def f__law_cell : List D → Res D := runD .z 2 m__law_cell
/-! ### _law_rows -/
abbrev st__law_rows : Stmt := (top 27)
def d__law_rows : He.DefD := ⟨("_law_rows", none), "_law_rows", "_law_rows", defArgs st__law_rows, defBody st__law_rows, defScope st__law_rows, [], []⟩
def b__law_rows_0 : Fz.Env → Out := bSeq (sIf (tVal (d2 cLt (dv 2) (dc (.int 2)))) (bSeq (sApp 5 (dcall oTup (dcons (d2 oAdd (dc (.int 1)) (d2 oMod (dcall bInt (dcons (d2 oIx (dv 3) (dv 6)) dnil)) (dc (.int 3)))) (dcons (d2 oMod (dcall bInt (dcons (d2 oIx (dv 4) (dv 6)) dnil)) (dc (.int 3))) dnil)))) sNx) (bSeq (sIf (tVal (d2 cLt (dv 2) (dc (.int 4)))) (bSeq (sApp 5 (dcall oTup (dcons (d2 oAdd (dc (.int 1)) (d2 oMod (dcall bInt (dcons (d2 oIx (dv 3) (dv 6)) dnil)) (dc (.int 100)))) (dcons (d2 oMod (dcall bInt (dcons (d2 oIx (dv 4) (dv 6)) dnil)) (dc (.int 101))) dnil)))) sNx) (bSeq (sIf (tVal (d2 cEq (dv 2) (dc (.int 4)))) (bSeq (sApp 5 (dcall oTup (dcons (d2 oAdd (d2 oAdd (d2 oMul (d2 oIx (dv 3) (dv 6)) (d2 oPow (dc (.int 10)) (dc (.int 24)))) (d2 oIx (dv 3) (dv 6))) (dc (.int 1))) (dcons (d2 oAdd (d2 oMul (d2 oIx (dv 4) (dv 6)) (d2 oPow (dc (.int 10)) (dc (.int 24)))) (d2 oMul (dc (.int 7)) (d2 oIx (dv 4) (dv 6)))) dnil)))) sNx) (bSeq (sApp 5 (dcall oTup (dcons (d2 oIx (dcall oLst (dcons (dc (.int 1)) (dcons (dc (.int 2)) (dcons (dc (.int 3)) (dcons (dc (.int 4)) (dcons (dc (.int 6)) (dcons (dc (.int 12)) dnil))))))) (d2 oMod (dcall bInt (dcons (d2 oIx (dv 3) (dv 6)) dnil)) (dc (.int 6)))) (dcons (d2 oMul (dc (.int 24)) (d2 oMod (dcall bInt (dcons (d2 oIx (dv 4) (dv 6)) dnil)) (dc (.int 5)))) dnil)))) sNx)) sNx)) sNx)) sNx
def m__law_rows : Fz.Env → Out := bSeq (sSet 2 (d2 oMod (dcall bInt (dcons (d2 oIx (dv 1) (dc (.int 1))) dnil)) (dc (.int 8)))) (bSeq (sSet 3 (dcall (withD 3 [] f__law_row) (dcons (dcall (withD 2 [] f__law_cell) (dcons (dv 0) (dcons (dc (.int 1)) dnil))) (dcons (dc (.int 8)) (dcons (dc (.int 999983)) dnil))))) (bSeq (sSet 4 (dcall (withD 3 [] f__law_row) (dcons (d2 oAdd (dcall (withD 2 [] f__law_cell) (dcons (dv 0) (dcons (dc (.int 2)) dnil))) (dc (.int 5))) (dcons (dc (.int 8)) (dcons (dc (.int 999983)) dnil))))) (bSeq (sSet 5 (dcall oLst dnil)) (bSeq (sFor (iArg rng1D (dcons (d2 oAdd (dc (.int 1)) (d2 oMod (dcall bInt (dcons (d2 oIx (dv 1) (dc (.int 0))) dnil)) (dc (.int 8)))) dnil)) (tgN 6) b__law_rows_0) (bSeq (sRet (dv 5)) sNx)))))
def f__law_rows : List D → Res D := runD .z 7 m__law_rows
/-! ### _law_crowd -/
abbrev st__law_crowd : Stmt := (top 28)
def d__law_crowd : He.DefD := ⟨("_law_crowd", none), "_law_crowd", "_law_crowd", defArgs st__law_crowd, defBody st__law_crowd, defScope st__law_crowd, [], []⟩
def b__law_crowd_0 : Fz.Env → Out := bSeq (sSet 4 (d2 oAdd (dv 4) (d2 oDiv (dcall bMax (dcons (dc (.int 0)) (dcons (d2 oSub (dv 3) (d2 oIx (dv 5) (dc (.int 1)))) dnil))) (d2 oMul (d2 oIx (dv 5) (dc (.int 0))) (d2 oSub (dv 2) (dc (.int 3))))))) sNx
def m__law_crowd : Fz.Env → Out := bSeq (sSet 2 (d2 oMod (dcall bInt (dcons (d2 oIx (dv 1) (dc (.int 2))) dnil)) (dc (.int 6)))) (bSeq (sIf (tVal (d2 cEq (dv 2) (dc (.int 0)))) (bSeq (sRet (dc (.int 0))) sNx) sNx) (bSeq (sIf (tVal (d2 cEq (dv 2) (dc (.int 1)))) (bSeq (sRet (d2 oAdd (d2 oMul (d2 oAdd (d2 oMul (d2 oIx (dv 1) (dc (.int 3))) (dc (.int 3600))) (d2 oIx (dv 1) (dc (.int 4)))) (d2 oPow (dc (.int 10)) (dc (.int 22)))) (d2 oIx (dv 1) (dc (.int 5))))) sNx) sNx) (bSeq (sIf (Fz.tOr (tVal (d2 cLt (dv 2) (dc (.int 4)))) (tVal (d2 cLt (d2 oMod (dcall bInt (dcons (d2 oIx (dv 1) (dc (.int 1))) dnil)) (dc (.int 8))) (dc (.int 5))))) (bSeq (sRet (d2 oMod (dcall bInt (dcons (d2 oIx (dv 1) (dc (.int 3))) dnil)) (dc (.int 41)))) sNx) sNx) (bSeq (sSet 3 (d2 oIx (d2 oIx (dv 0) (d2 oMod (dcall bInt (dcons (d2 oIx (dv 1) (dc (.int 4))) dnil)) (dcall bLen (dcons (dv 0) dnil)))) (dc (.int 1)))) (bSeq (sSet 4 (dc (.int 0))) (bSeq (sFor (iSeq itD (dv 0)) (tgN 5) b__law_crowd_0) (bSeq (sRet (dcall bMax (dcons (dc (.int 0)) (dcons (d2 oSub (d2 oAdd (dv 4) (d2 oMod (dcall bInt (dcons (d2 oIx (dv 1) (dc (.int 5))) dnil)) (dc (.int 3)))) (dc (.int 1))) dnil)))) sNx)))))))
def f__law_crowd : List D → Res D := runD .z 6 m__law_crowd
/-! ### Streets.__init__ -/
abbrev st_Streets_init : Stmt := ((clsB (top 11)).getD 0 (.Pass ⟨0, 0, 0, 0⟩))
def d_Streets_init : He.DefD := ⟨("Streets", some "__init__"), "__init__", "Streets.__init__", defArgs st_Streets_init, defBody st_Streets_init, defScope st_Streets_init, [], []⟩
def m_Streets_init : Fz.Env → Out := bSeq (sIf (Fz.tOr (tVal (d2 cEq (dcall bLen (dcons (dv 1) dnil)) (dc (.int 0)))) (Fz.tOr (tVal (d2 cNe (dcall bLen (dcons (dv 1) dnil)) (dcall bLen (dcons (dv 2) dnil)))) (Fz.tOr (tVal (d2 cLt (dcall bMin (dcons (dv 1) dnil)) (dc (.int 1)))) (tVal (d2 cLt (dcall bMin (dcons (dv 2) dnil)) (dc (.int 0))))))) (bSeq (sRaise "BadRoads") sNx) sNx) (bSeq (sIf (tVal (d2 cGt (dcall bLen (dcons (dv 1) dnil)) (dc (.int 8)))) (bSeq sNever sNx) sNx) (bSeq (sFld' 0 ["Streets"] "slopes" (dcall bTup (dcons (dv 1) dnil))) (bSeq (sFld' 0 ["Streets"] "bases" (dcall bTup (dcons (dv 2) dnil))) sNx)))
def f_Streets_init : List D → Res (List (Str × D)) := runI "Streets" 3 m_Streets_init
/-! ### _law_is_whole -/
abbrev st__law_is_whole : Stmt := (top 18)
def d__law_is_whole : He.DefD := ⟨("_law_is_whole", none), "_law_is_whole", "_law_is_whole", defArgs st__law_is_whole, defBody st__law_is_whole, defScope st__law_is_whole, [], []⟩
def m__law_is_whole : Fz.Env → Out := bSeq (sRet (dAnd (d1 (fun v => bIsi .int [v]) (dv 0)) (d1 oNot (d1 (fun v => bIsi .bool [v]) (dv 0))))) sNx
def f__law_is_whole : List D → Res D := runD .z 1 m__law_is_whole
/-! ### _law_same_row -/
abbrev st__law_same_row : Stmt := (top 23)
def d__law_same_row : He.DefD := ⟨("_law_same_row", none), "_law_same_row", "_law_same_row", defArgs st__law_same_row, defBody st__law_same_row, defScope st__law_same_row, [], []⟩
def b__law_same_row_0 : Fz.Env → Out := bSeq (sIf (Fz.tOr (Fz.tNot (tTru (dcall (withD 1 [] f__law_is_whole) (dcons (d2 oIx (dv 0) (dv 2)) dnil)))) (tVal (d2 cNe (d2 oIx (dv 0) (dv 2)) (d2 oIx (dv 1) (dv 2))))) (bSeq (sRet (dc (.bl false))) sNx) sNx) sNx
def m__law_same_row : Fz.Env → Out := bSeq (sIf (Fz.tOr (Fz.tNot (tTru (d1 (fun v => bIsi .tuple [v]) (dv 0)))) (tVal (d2 cNe (dcall bLen (dcons (dv 0) dnil)) (dcall bLen (dcons (dv 1) dnil))))) (bSeq (sRet (dc (.bl false))) sNx) sNx) (bSeq (sFor (iArg rng1D (dcons (dcall bLen (dcons (dv 1) dnil)) dnil)) (tgN 2) b__law_same_row_0) (bSeq (sRet (dc (.bl true))) sNx))
def f__law_same_row : List D → Res D := runD .z 3 m__law_same_row
/-! ### _law_is_streets -/
abbrev st__law_is_streets : Stmt := (top 35)
def d__law_is_streets : He.DefD := ⟨("_law_is_streets", none), "_law_is_streets", "_law_is_streets", defArgs st__law_is_streets, defBody st__law_is_streets, defScope st__law_is_streets, [], []⟩
def m__law_is_streets : Fz.Env → Out := bSeq (sIf (Fz.tNot (tTru (d1 (isO [("Streets", true)]) (dv 0)))) (bSeq (sRet (dc (.bl false))) sNx) sNx) (bSeq (sRet (dAnd (dcall (withD 2 [] f__law_same_row) (dcons (d1 (oFld ["Streets"] "slopes") (dv 0)) (dcons (dv 1) dnil))) (dcall (withD 2 [] f__law_same_row) (dcons (d1 (oFld ["Streets"] "bases") (dv 0)) (dcons (dv 2) dnil))))) sNx)
def f__law_is_streets : List D → Res D := runD .z 3 m__law_is_streets
/-! ### lowest -/
abbrev st_lowest : Stmt := (top 2)
def d_lowest : He.DefD := ⟨("lowest", none), "lowest", "lowest", defArgs st_lowest, defBody st_lowest, defScope st_lowest, [], []⟩
def m_lowest : Fz.Env → Out := bSeq (sSet 2 (dcall bGcd (dcons (dv 0) (dcons (dv 1) dnil)))) (bSeq (sIf (tVal (d2 cLt (dv 1) (dc (.int 0)))) (bSeq (sSet 2 (d1 oNeg (dv 2))) sNx) sNx) (bSeq (sRet (dcall oTup (dcons (d2 oDiv (dv 0) (dv 2)) (dcons (d2 oDiv (dv 1) (dv 2)) dnil)))) sNx))
def f_lowest : List D → Res D := runD .z 3 m_lowest
/-! ### even_share -/
abbrev st_even_share : Stmt := (top 12)
def d_even_share : He.DefD := ⟨("even_share", none), "even_share", "even_share", defArgs st_even_share, defBody st_even_share, defScope st_even_share, [], []⟩
def b_even_share_0 : Fz.Env → Out := bSeq (sSet 2 (dcall bLcm (dcons (dv 2) (dcons (dv 3) dnil)))) sNx
def b_even_share_1 : Fz.Env → Res D := dcall oTup (dcons (dv 6) (dcons (dv 3) dnil))
def b_even_share_2 : Fz.Env → Out := bSeq (sIf (Fz.tAnd (tVal (d2 cGt (dv 5) (dc (.int 0)))) (tVal (d2 cGe (d2 oMul (dv 6) (dv 5)) (dv 4)))) (bSeq sBk sNx) sNx) (bSeq (sSet 4 (d2 oAdd (dv 4) (d2 oMul (dv 6) (d2 oDiv (dv 2) (dv 3))))) (bSeq (sSet 5 (d2 oAdd (dv 5) (d2 oDiv (dv 2) (dv 3)))) sNx))
def b_even_share_3 : Fz.Env → Out := bSeq (sApp 7 (dcall (withD 2 [] f_lowest) (dcons (dcall bMax (dcons (dc (.int 0)) (dcons (d2 oSub (dv 4) (d2 oMul (dv 6) (dv 5))) dnil))) (dcons (d2 oMul (dv 3) (dv 5)) dnil)))) sNx
def m_even_share : Fz.Env → Out := bSeq (sIf (tVal (d2 cLt (dv 1) (dc (.int 0)))) (bSeq (sRaise "BadRoads") sNx) sNx) (bSeq (sSet 2 (dc (.int 1))) (bSeq (sFor (iSeq itD (d1 (oFld ["Streets"] "slopes") (dv 0))) (tgN 3) b_even_share_0) (bSeq (sSet 4 (d2 oMul (dv 1) (dv 2))) (bSeq (sSet 5 (dc (.int 0))) (bSeq (sFor (iSeq itD (dcall bSorted (dcons (dLc (([("base", 6), ("slope", 3)] : List (Str × Nat)).map (·.2)) (iArg zp2D (dcons (d1 (oFld ["Streets"] "bases") (dv 0)) (dcons (d1 (oFld ["Streets"] "slopes") (dv 0)) dnil))) (tgT [6, 3]) dYes b_even_share_1) dnil))) (tgT [6, 3]) b_even_share_2) (bSeq (sSet 7 (dcall oLst dnil)) (bSeq (sFor (iArg zp2D (dcons (d1 (oFld ["Streets"] "slopes") (dv 0)) (dcons (d1 (oFld ["Streets"] "bases") (dv 0)) dnil))) (tgT [3, 6]) b_even_share_3) (bSeq (sRet (dcall oTup (dcons (dcall (withD 2 [] f_lowest) (dcons (dv 4) (dcons (dv 5) dnil))) (dcons (dsol (dcall bTup (dcons (dv 7) dnil))) dnil)))) sNx))))))))
def f_even_share : List D → Res D := runD .z 8 m_even_share
/-! ### best_share -/
abbrev st_best_share : Stmt := (top 13)
def d_best_share : He.DefD := ⟨("best_share", none), "best_share", "best_share", defArgs st_best_share, defBody st_best_share, defScope st_best_share, [], []⟩
def m_best_share : Fz.Env → Out := bSeq (sRet (dcall (withD 2 [] f_even_share) (dcons (dcall (mkD "Streets" 2 [] f_Streets_init) (dcons (dLc (([("slope", 2)] : List (Str × Nat)).map (·.2)) (iSeq itD (d1 (oFld ["Streets"] "slopes") (dv 0))) (tgN 2) dYes (d2 oMul (dc (.int 2)) (dv 2))) (dcons (d1 (oFld ["Streets"] "bases") (dv 0)) dnil))) (dcons (dv 1) dnil)))) sNx
def f_best_share : List D → Res D := runD .z 3 m_best_share
/-! ### _law_gcd -/
abbrev st__law_gcd : Stmt := (top 22)
def d__law_gcd : He.DefD := ⟨("_law_gcd", none), "_law_gcd", "_law_gcd", defArgs st__law_gcd, defBody st__law_gcd, defScope st__law_gcd, [], []⟩
def b__law_gcd_0 : Fz.Env → Out := bSeq (sIf (tVal (d2 cEq (dv 1) (dc (.int 0)))) (bSeq (sRet (dv 0)) sNx) sNx) (bSeq (sSet 3 (d2 oMod (dcall bInt (dcons (dv 0) dnil)) (dv 1))) (bSeq (sSet 0 (dv 1)) (bSeq (sSet 1 (dv 3)) sNx)))
def m__law_gcd : Fz.Env → Out := bSeq (sSet 0 (dcall bAbs (dcons (dv 0) dnil))) (bSeq (sSet 1 (dcall bAbs (dcons (dv 1) dnil))) (bSeq (sFor (iArg rng1D (dcons (dc (.int 20000)) dnil)) (tgN 2) b__law_gcd_0) (bSeq (sRet (dv 0)) sNx)))
def f__law_gcd : List D → Res D := runD .z 4 m__law_gcd
/-! ### _law_is_exact -/
abbrev st__law_is_exact : Stmt := (top 26)
def d__law_is_exact : He.DefD := ⟨("_law_is_exact", none), "_law_is_exact", "_law_is_exact", defArgs st__law_is_exact, defBody st__law_is_exact, defScope st__law_is_exact, [], []⟩
def m__law_is_exact : Fz.Env → Out := bSeq (sIf (Fz.tOr (Fz.tNot (tTru (d1 (fun v => bIsi .tuple [v]) (dv 0)))) (tVal (d2 cNe (dcall bLen (dcons (dv 0) dnil)) (dc (.int 2))))) (bSeq (sRet (dc (.bl false))) sNx) sNx) (bSeq (sIf (Fz.tOr (Fz.tNot (tTru (dcall (withD 1 [] f__law_is_whole) (dcons (d2 oIx (dv 0) (dc (.int 0))) dnil)))) (Fz.tOr (Fz.tNot (tTru (dcall (withD 1 [] f__law_is_whole) (dcons (d2 oIx (dv 0) (dc (.int 1))) dnil)))) (tVal (d2 cLt (d2 oIx (dv 0) (dc (.int 1))) (dc (.int 1)))))) (bSeq (sRet (dc (.bl false))) sNx) sNx) (bSeq (sRet (d2 cEq (dcall (withD 2 [] f__law_gcd) (dcons (d2 oIx (dv 0) (dc (.int 0))) (dcons (d2 oIx (dv 0) (dc (.int 1))) dnil))) (dc (.int 1)))) sNx))
def f__law_is_exact : List D → Res D := runD .z 1 m__law_is_exact
/-! ### _law_plus -/
abbrev st__law_plus : Stmt := (top 24)
def d__law_plus : He.DefD := ⟨("_law_plus", none), "_law_plus", "_law_plus", defArgs st__law_plus, defBody st__law_plus, defScope st__law_plus, [], []⟩
def m__law_plus : Fz.Env → Out := bSeq (sIf (tVal (d2 cEq (d2 oIx (dv 0) (dc (.int 1))) (d2 oIx (dv 1) (dc (.int 1))))) (bSeq (sRet (dcall oTup (dcons (d2 oAdd (d2 oIx (dv 0) (dc (.int 0))) (d2 oIx (dv 1) (dc (.int 0)))) (dcons (d2 oIx (dv 0) (dc (.int 1))) dnil)))) sNx) sNx) (bSeq (sRet (dcall oTup (dcons (d2 oAdd (d2 oMul (d2 oIx (dv 0) (dc (.int 0))) (d2 oIx (dv 1) (dc (.int 1)))) (d2 oMul (d2 oIx (dv 1) (dc (.int 0))) (d2 oIx (dv 0) (dc (.int 1))))) (dcons (d2 oMul (d2 oIx (dv 0) (dc (.int 1))) (d2 oIx (dv 1) (dc (.int 1)))) dnil)))) sNx)
def f__law_plus : List D → Res D := runD .z 2 m__law_plus
/-! ### _law_equal -/
abbrev st__law_equal : Stmt := (top 25)
def d__law_equal : He.DefD := ⟨("_law_equal", none), "_law_equal", "_law_equal", defArgs st__law_equal, defBody st__law_equal, defScope st__law_equal, [], []⟩
def m__law_equal : Fz.Env → Out := bSeq (sRet (d2 cEq (d2 oMul (d2 oIx (dv 0) (dc (.int 0))) (d2 oIx (dv 1) (dc (.int 1)))) (d2 oMul (d2 oIx (dv 1) (dc (.int 0))) (d2 oIx (dv 0) (dc (.int 1)))))) sNx
def f__law_equal : List D → Res D := runD .z 2 m__law_equal
/-! ### _law_is_share -/
abbrev st__law_is_share : Stmt := (top 29)
def d__law_is_share : He.DefD := ⟨("_law_is_share", none), "_law_is_share", "_law_is_share", defArgs st__law_is_share, defBody st__law_is_share, defScope st__law_is_share, [], []⟩
def b__law_is_share_0 : Fz.Env → Out := bSeq (sSet 7 (d2 oIx (d2 oIx (dv 0) (dc (.int 1))) (dv 6))) (bSeq (sIf (Fz.tOr (Fz.tNot (tTru (dcall (withD 1 [] f__law_is_exact) (dcons (dv 7) dnil)))) (tVal (d2 cLt (d2 oIx (dv 7) (dc (.int 0))) (dc (.int 0))))) (bSeq (sRet (dc (.bl false))) sNx) sNx) (bSeq (sSet 5 (dcall (withD 2 [] f__law_plus) (dcons (dv 5) (dcons (dv 7) dnil)))) (bSeq (sSet 8 (dcall oTup (dcons (d2 oAdd (d2 oMul (d2 oMul (dv 3) (d2 oIx (d2 oIx (dv 1) (dv 6)) (dc (.int 0)))) (d2 oIx (dv 7) (dc (.int 0)))) (d2 oMul (d2 oIx (d2 oIx (dv 1) (dv 6)) (dc (.int 1))) (d2 oIx (dv 7) (dc (.int 1))))) (dcons (d2 oIx (dv 7) (dc (.int 1))) dnil)))) (bSeq (sIf (Fz.tAnd (tVal (d2 cGt (d2 oIx (dv 7) (dc (.int 0))) (dc (.int 0)))) (Fz.tNot (tTru (dcall (withD 2 [] f__law_equal) (dcons (dv 8) (dcons (dv 4) dnil)))))) (bSeq (sRet (dc (.bl false))) sNx) sNx) (bSeq (sIf (tVal (d2 cLt (d2 oMul (d2 oIx (dv 8) (dc (.int 0))) (d2 oIx (dv 4) (dc (.int 1)))) (d2 oMul (d2 oIx (dv 4) (dc (.int 0))) (d2 oIx (dv 8) (dc (.int 1)))))) (bSeq (sRet (dc (.bl false))) sNx) sNx) sNx)))))
def m__law_is_share : Fz.Env → Out := bSeq (sIf (Fz.tOr (Fz.tNot (tTru (d1 (fun v => bIsi .tuple [v]) (dv 0)))) (Fz.tOr (tVal (d2 cNe (dcall bLen (dcons (dv 0) dnil)) (dc (.int 2)))) (Fz.tNot (tTru (dcall (withD 1 [] f__law_is_exact) (dcons (d2 oIx (dv 0) (dc (.int 0))) dnil)))))) (bSeq (sRet (dc (.bl false))) sNx) sNx) (bSeq (sSet 4 (d2 oIx (dv 0) (dc (.int 0)))) (bSeq (sIf (Fz.tOr (Fz.tNot (tTru (d1 (fun v => bIsi .tuple [v]) (d2 oIx (dv 0) (dc (.int 1)))))) (tVal (d2 cNe (dcall bLen (dcons (d2 oIx (dv 0) (dc (.int 1))) dnil)) (dcall bLen (dcons (dv 1) dnil))))) (bSeq (sRet (dc (.bl false))) sNx) sNx) (bSeq (sSet 5 (dcall oTup (dcons (dc (.int 0)) (dcons (dc (.int 1)) dnil)))) (bSeq (sFor (iArg rng1D (dcons (dcall bLen (dcons (dv 1) dnil)) dnil)) (tgN 6) b__law_is_share_0) (bSeq (sIf (Fz.tAnd (tVal (d2 cEq (dv 2) (dc (.int 0)))) (Fz.tNot (tTru (dcall (withD 2 [] f__law_equal) (dcons (dv 4) (dcons (dcall oTup (dcons (dcall bMin (dcons (dLc (([("row", 9)] : List (Str × Nat)).map (·.2)) (iSeq itD (dv 1)) (tgN 9) dYes (d2 oIx (dv 9) (dc (.int 1)))) dnil)) (dcons (dc (.int 1)) dnil))) dnil)))))) (bSeq (sRet (dc (.bl false))) sNx) sNx) (bSeq (sRet (dcall (withD 2 [] f__law_equal) (dcons (dv 5) (dcons (dcall oTup (dcons (dv 2) (dcons (dc (.int 1)) dnil))) dnil)))) sNx))))))
def f__law_is_share : List D → Res D := runD .z 10 m__law_is_share
/-! ### added -/
abbrev st_added : Stmt := (top 3)
def d_added : He.DefD := ⟨("added", none), "added", "added", defArgs st_added, defBody st_added, defScope st_added, [], []⟩
def m_added : Fz.Env → Out := bSeq (sRet (dcall (withD 2 [] f_lowest) (dcons (d2 oAdd (d2 oMul (d2 oIx (dv 0) (dc (.int 0))) (d2 oIx (dv 1) (dc (.int 1)))) (d2 oMul (d2 oIx (dv 1) (dc (.int 0))) (d2 oIx (dv 0) (dc (.int 1))))) (dcons (d2 oMul (d2 oIx (dv 0) (dc (.int 1))) (d2 oIx (dv 1) (dc (.int 1)))) dnil)))) sNx
def f_added : List D → Res D := runD .z 2 m_added
/-! ### times -/
abbrev st_times : Stmt := (top 4)
def d_times : He.DefD := ⟨("times", none), "times", "times", defArgs st_times, defBody st_times, defScope st_times, [], []⟩
def m_times : Fz.Env → Out := bSeq (sRet (dcall (withD 2 [] f_lowest) (dcons (d2 oMul (d2 oIx (dv 0) (dc (.int 0))) (d2 oIx (dv 1) (dc (.int 0)))) (dcons (d2 oMul (d2 oIx (dv 0) (dc (.int 1))) (d2 oIx (dv 1) (dc (.int 1)))) dnil)))) sNx
def f_times : List D → Res D := runD .z 2 m_times
/-! ### crowd_cost -/
abbrev st_crowd_cost : Stmt := (top 14)
def d_crowd_cost : He.DefD := ⟨("crowd_cost", none), "crowd_cost", "crowd_cost", defArgs st_crowd_cost, defBody st_crowd_cost, defScope st_crowd_cost, [], []⟩
def b_crowd_cost_0 : Fz.Env → Out := bSeq (sSet 6 (dcall (withD 2 [] f_added) (dcons (dcall (withD 2 [] f_times) (dcons (dcall oTup (dcons (dv 3) (dcons (dc (.int 1)) dnil))) (dcons (dv 5) dnil))) (dcons (dcall oTup (dcons (dv 4) (dcons (dc (.int 1)) dnil))) dnil)))) (bSeq (sSet 2 (dcall (withD 2 [] f_added) (dcons (dv 2) (dcons (dcall (withD 2 [] f_times) (dcons (dv 6) (dcons (dv 5) dnil))) dnil)))) sNx)
def m_crowd_cost : Fz.Env → Out := bSeq (sIf (tVal (d2 cNe (dcall bLen (dcons (dv 1) dnil)) (dcall bLen (dcons (d1 (oFld ["Streets"] "slopes") (dv 0)) dnil)))) (bSeq (sRaise "BadRoads") sNx) sNx) (bSeq (sSet 2 (dcall oTup (dcons (dc (.int 0)) (dcons (dc (.int 1)) dnil)))) (bSeq (sFor (iArg zp3D (dcons (d1 (oFld ["Streets"] "slopes") (dv 0)) (dcons (d1 (oFld ["Streets"] "bases") (dv 0)) (dcons (dv 1) dnil)))) (tgT [3, 4, 5]) b_crowd_cost_0) (bSeq (sRet (dv 2)) sNx)))
def f_crowd_cost : List D → Res D := runD .z 7 m_crowd_cost
/-! ### _law_cost -/
abbrev st__law_cost : Stmt := (top 30)
def d__law_cost : He.DefD := ⟨("_law_cost", none), "_law_cost", "_law_cost", defArgs st__law_cost, defBody st__law_cost, defScope st__law_cost, [], []⟩
def b__law_cost_0 : Fz.Env → Out := bSeq (sSet 4 (d2 oIx (dv 1) (dv 3))) (bSeq (sSet 2 (dcall (withD 2 [] f__law_plus) (dcons (dv 2) (dcons (dcall oTup (dcons (d2 oMul (d2 oAdd (d2 oMul (d2 oIx (d2 oIx (dv 0) (dv 3)) (dc (.int 0))) (d2 oIx (dv 4) (dc (.int 0)))) (d2 oMul (d2 oIx (d2 oIx (dv 0) (dv 3)) (dc (.int 1))) (d2 oIx (dv 4) (dc (.int 1))))) (d2 oIx (dv 4) (dc (.int 0)))) (dcons (d2 oMul (d2 oIx (dv 4) (dc (.int 1))) (d2 oIx (dv 4) (dc (.int 1)))) dnil))) dnil)))) sNx)
def m__law_cost : Fz.Env → Out := bSeq (sSet 2 (dcall oTup (dcons (dc (.int 0)) (dcons (dc (.int 1)) dnil)))) (bSeq (sFor (iArg rng1D (dcons (dcall bLen (dcons (dv 0) dnil)) dnil)) (tgN 3) b__law_cost_0) (bSeq (sRet (dv 2)) sNx))
def f__law_cost : List D → Res D := runD .z 5 m__law_cost
/-! ### _law_is_cost -/
abbrev st__law_is_cost : Stmt := (top 31)
def d__law_is_cost : He.DefD := ⟨("_law_is_cost", none), "_law_is_cost", "_law_is_cost", defArgs st__law_is_cost, defBody st__law_is_cost, defScope st__law_is_cost, [], []⟩
def m__law_is_cost : Fz.Env → Out := bSeq (sRet (dAnd (dcall (withD 1 [] f__law_is_exact) (dcons (dv 0) dnil)) (dcall (withD 2 [] f__law_equal) (dcons (dv 0) (dcons (dcall (withD 2 [] f__law_cost) (dcons (dv 1) (dcons (dv 2) dnil))) dnil))))) sNx
def f__law_is_cost : List D → Res D := runD .z 3 m__law_is_cost
/-! ### _law_shares -/
abbrev st__law_shares : Stmt := (top 32)
def d__law_shares : He.DefD := ⟨("_law_shares", none), "_law_shares", "_law_shares", defArgs st__law_shares, defBody st__law_shares, defScope st__law_shares, [], []⟩
def b__law_shares_0 : Fz.Env → Res D := d2 oAdd (dc (.int 1)) (d2 oMod (dcall bInt (dcons (d2 oIx (dv 3) (d2 oAdd (dc (.int 6)) (dv 5))) dnil)) (dc (.int 9)))
def b__law_shares_1 : Fz.Env → Out := bSeq (sSet 7 (dcall (withD 2 [] f__law_gcd) (dcons (d2 oMul (dv 1) (d2 oIx (dv 4) (dv 5))) (dcons (dcall bSum (dcons (dv 4) dnil)) dnil)))) (bSeq (sApp 6 (dcall oTup (dcons (d2 oDiv (d2 oMul (dv 1) (d2 oIx (dv 4) (dv 5))) (dv 7)) (dcons (d2 oDiv (dcall bSum (dcons (dv 4) dnil)) (dv 7)) dnil)))) sNx)
def b__law_shares_2 : Fz.Env → Out := bSeq (sSet 7 (dcall (withD 2 [] f__law_gcd) (dcons (d2 oIx (oIxO 8 (dv 5)) (dc (.int 0))) (dcons (d2 oIx (oIxO 8 (dv 5)) (dc (.int 1))) dnil)))) (bSeq (sPut 8 (dv 5) (dcall oTup (dcons (d2 oDiv (d2 oIx (oIxO 8 (dv 5)) (dc (.int 0))) (dv 7)) (dcons (d2 oDiv (d2 oIx (oIxO 8 (dv 5)) (dc (.int 1))) (dv 7)) dnil)))) sNx)
def m__law_shares : Fz.Env → Out := bSeq (sSet 4 (dLc (([("k", 5)] : List (Str × Nat)).map (·.2)) (iArg rng1D (dcons (dcall bLen (dcons (dv 0) dnil)) dnil)) (tgN 5) dYes b__law_shares_0)) (bSeq (sSet 6 (dcall oLst dnil)) (bSeq (sFor (iArg rng1D (dcons (dcall bLen (dcons (dv 0) dnil)) dnil)) (tgN 5) b__law_shares_1) (bSeq (sSet 8 (dcall bLst (dcons (dv 2) dnil))) (bSeq (sSet 9 (d2 oMod (dcall bInt (dcons (d2 oIx (dv 3) (dc (.int 14))) dnil)) (dcall bLen (dcons (dv 0) dnil)))) (bSeq (sSet 10 (d2 oMod (dcall bInt (dcons (d2 oIx (dv 3) (dc (.int 15))) dnil)) (dcall bLen (dcons (dv 0) dnil)))) (bSeq (sIf (tVal (d2 cNe (dv 9) (dv 10))) (bSeq (sSet 11 (d2 oAdd (dc (.int 2)) (d2 oMod (dcall bInt (dcons (d2 oIx (dv 3) (dc (.int 3))) dnil)) (dc (.int 8))))) (bSeq (sPut 8 (dv 9) (dcall oTup (dcons (d2 oMul (d2 oIx (d2 oIx (dv 2) (dv 9)) (dc (.int 0))) (d2 oSub (dv 11) (dc (.int 1)))) (dcons (d2 oMul (d2 oIx (d2 oIx (dv 2) (dv 9)) (dc (.int 1))) (dv 11)) dnil)))) (bSeq (sPut 8 (dv 10) (dcall (withD 2 [] f__law_plus) (dcons (d2 oIx (dv 2) (dv 10)) (dcons (dcall oTup (dcons (d2 oIx (d2 oIx (dv 2) (dv 9)) (dc (.int 0))) (dcons (d2 oMul (d2 oIx (d2 oIx (dv 2) (dv 9)) (dc (.int 1))) (dv 11)) dnil))) dnil)))) sNx))) sNx) (bSeq (sFor (iArg rng1D (dcons (dcall bLen (dcons (dv 0) dnil)) dnil)) (tgN 5) b__law_shares_2) (bSeq (sRet (dcall oLst (dcons (dv 6) (dcons (dv 8) dnil)))) sNx))))))))
def f__law_shares : List D → Res D := runD .z 12 m__law_shares
/-! ### crowd_dearness -/
abbrev st_crowd_dearness : Stmt := (top 16)
def d_crowd_dearness : He.DefD := ⟨("crowd_dearness", none), "crowd_dearness", "crowd_dearness", defArgs st_crowd_dearness, defBody st_crowd_dearness, defScope st_crowd_dearness, [], []⟩
def m_crowd_dearness : Fz.Env → Out := bSeq (sSet 2 (dcall (withD 2 [] f_crowd_cost) (dcons (dv 0) (dcons (d2 oIx (dcall (withD 2 [] f_even_share) (dcons (dv 0) (dcons (dv 1) dnil))) (dc (.int 1))) dnil)))) (bSeq (sSet 3 (dcall (withD 2 [] f_crowd_cost) (dcons (dv 0) (dcons (d2 oIx (dcall (withD 2 [] f_best_share) (dcons (dv 0) (dcons (dv 1) dnil))) (dc (.int 1))) dnil)))) (bSeq (sIf (tVal (d2 cEq (dv 1) (dc (.int 0)))) (bSeq (sRet (dcall oTup (dcons (dc (.int 1)) (dcons (dc (.int 1)) dnil)))) sNx) sNx) (bSeq (sRet (dcall (withD 2 [] f_times) (dcons (dv 2) (dcons (dcall oTup (dcons (d2 oIx (dv 3) (dc (.int 1))) (dcons (d2 oIx (dv 3) (dc (.int 0))) dnil))) dnil)))) sNx)))
def f_crowd_dearness : List D → Res D := runD .z 4 m_crowd_dearness
/-! ### _law_costs -/
abbrev st__law_costs : Stmt := (top 33)
def d__law_costs : He.DefD := ⟨("_law_costs", none), "_law_costs", "_law_costs", defArgs st__law_costs, defBody st__law_costs, defScope st__law_costs, [], []⟩
def b__law_costs_0 : Fz.Env → Out := bSeq (sSet 6 (dcall (withD 2 [] f_crowd_cost) (dcons (dv 0) (dcons (dcall bLst (dcons (dv 8) dnil)) dnil)))) (bSeq (sIf (Fz.tNot (tTru (dcall (withD 3 [] f__law_is_cost) (dcons (dv 6) (dcons (dv 1) (dcons (dv 8) dnil)))))) (bSeq (sRet (dc (.bl false))) sNx) sNx) (bSeq (sIf (tVal (d2 cLt (d2 oMul (d2 oIx (dv 6) (dc (.int 0))) (d2 oIx (dv 7) (dc (.int 1)))) (d2 oMul (d2 oIx (dv 7) (dc (.int 0))) (d2 oIx (dv 6) (dc (.int 1)))))) (bSeq (sRet (dc (.bl false))) sNx) sNx) sNx))
def m__law_costs : Fz.Env → Out := bSeq (sSet 6 (dcall (withD 2 [] f_crowd_cost) (dcons (dv 0) (dcons (dv 4) dnil)))) (bSeq (sSet 7 (dcall (withD 2 [] f__law_cost) (dcons (dv 1) (dcons (dv 4) dnil)))) (bSeq (sIf (Fz.tOr (Fz.tNot (tTru (dcall (withD 3 [] f__law_is_cost) (dcons (dv 6) (dcons (dv 1) (dcons (dv 4) dnil)))))) (Fz.tNot (tTru (dcall (withD 3 [] f__law_is_cost) (dcons (dcall (withD 2 [] f_crowd_cost) (dcons (dv 0) (dcons (dcall bLst (dcons (dv 3) dnil)) dnil))) (dcons (dv 1) (dcons (dv 3) dnil))))))) (bSeq (sRet (dc (.bl false))) sNx) sNx) (bSeq (sFor (iSeq itD (dcall (withD 4 [] f__law_shares) (dcons (dv 1) (dcons (dv 2) (dcons (dv 4) (dcons (dv 5) dnil)))))) (tgN 8) b__law_costs_0) (bSeq (sSet 6 (dcall (withD 2 [] f_crowd_dearness) (dcons (dv 0) (dcons (dv 2) dnil)))) (bSeq (sIf (Fz.tOr (Fz.tNot (tTru (dcall (withD 1 [] f__law_is_exact) (dcons (dv 6) dnil)))) (Fz.tOr (tVal (d2 cLt (d2 oIx (dv 6) (dc (.int 0))) (d2 oIx (dv 6) (dc (.int 1))))) (tVal (d2 cGt (d2 oMul (dc (.int 3)) (d2 oIx (dv 6) (dc (.int 0)))) (d2 oMul (dc (.int 4)) (d2 oIx (dv 6) (dc (.int 1)))))))) (bSeq (sRet (dc (.bl false))) sNx) sNx) (bSeq (sIf (tVal (d2 cEq (dv 2) (dc (.int 0)))) (bSeq (sRet (dAnd (d2 cEq (d2 oIx (dv 6) (dc (.int 0))) (dc (.int 1))) (d2 cEq (d2 oIx (dv 6) (dc (.int 1))) (dc (.int 1))))) sNx) sNx) (bSeq (sRet (dcall (withD 2 [] f__law_equal) (dcons (dcall oTup (dcons (d2 oMul (d2 oIx (dv 6) (dc (.int 0))) (d2 oIx (dv 7) (dc (.int 0)))) (dcons (d2 oMul (d2 oIx (dv 6) (dc (.int 1))) (d2 oIx (dv 7) (dc (.int 1)))) dnil))) (dcons (dcall (withD 2 [] f__law_cost) (dcons (dv 1) (dcons (dv 3) dnil))) dnil)))) sNx)))))))
def f__law_costs : List D → Res D := runD .z 9 m__law_costs
/-! ### street_tolls -/
abbrev st_street_tolls : Stmt := (top 15)
def d_street_tolls : He.DefD := ⟨("street_tolls", none), "street_tolls", "street_tolls", defArgs st_street_tolls, defBody st_street_tolls, defScope st_street_tolls, [], []⟩
def b_street_tolls_0 : Fz.Env → Res D := dcall (withD 2 [] f_times) (dcons (dcall oTup (dcons (dv 3) (dcons (dc (.int 1)) dnil))) (dcons (dv 4) dnil))
def m_street_tolls : Fz.Env → Out := bSeq (sSet 2 (d2 oIx (dcall (withD 2 [] f_best_share) (dcons (dv 0) (dcons (dv 1) dnil))) (dc (.int 1)))) (bSeq (sRet (dcall bTup (dcons (dLc (([("slope", 3), ("amount", 4)] : List (Str × Nat)).map (·.2)) (iArg zp2D (dcons (d1 (oFld ["Streets"] "slopes") (dv 0)) (dcons (dv 2) dnil))) (tgT [3, 4]) dYes b_street_tolls_0) dnil))) sNx)
def f_street_tolls : List D → Res D := runD .z 5 m_street_tolls
/-! ### _law_tolls -/
abbrev st__law_tolls : Stmt := (top 34)
def d__law_tolls : He.DefD := ⟨("_law_tolls", none), "_law_tolls", "_law_tolls", defArgs st__law_tolls, defBody st__law_tolls, defScope st__law_tolls, [], []⟩
def b__law_tolls_0 : Fz.Env → Out := bSeq (sIf (Fz.tOr (Fz.tNot (tTru (dcall (withD 1 [] f__law_is_exact) (dcons (d2 oIx (dv 4) (dv 5)) dnil)))) (Fz.tNot (tTru (dcall (withD 2 [] f__law_equal) (dcons (d2 oIx (dv 4) (dv 5)) (dcons (dcall oTup (dcons (d2 oMul (d2 oIx (d2 oIx (dv 1) (dv 5)) (dc (.int 0))) (d2 oIx (d2 oIx (dv 3) (dv 5)) (dc (.int 0)))) (dcons (d2 oIx (d2 oIx (dv 3) (dv 5)) (dc (.int 1))) dnil))) dnil)))))) (bSeq (sRet (dc (.bl false))) sNx) sNx) sNx
def m__law_tolls : Fz.Env → Out := bSeq (sSet 4 (dcall (withD 2 [] f_street_tolls) (dcons (dv 0) (dcons (dv 2) dnil)))) (bSeq (sIf (Fz.tOr (Fz.tNot (tTru (d1 (fun v => bIsi .tuple [v]) (dv 4)))) (tVal (d2 cNe (dcall bLen (dcons (dv 4) dnil)) (dcall bLen (dcons (dv 1) dnil))))) (bSeq (sRet (dc (.bl false))) sNx) sNx) (bSeq (sFor (iArg rng1D (dcons (dcall bLen (dcons (dv 1) dnil)) dnil)) (tgN 5) b__law_tolls_0) (bSeq (sRet (dc (.bl true))) sNx)))
def f__law_tolls : List D → Res D := runD .z 6 m__law_tolls
/-! ### Streets.alike -/
abbrev st_Streets_alike : Stmt := ((clsB (top 11)).getD 1 (.Pass ⟨0, 0, 0, 0⟩))
def d_Streets_alike : He5.DefA := ⟨fun K => He5.wf K (He.ga K "Streets") "classmethod" "alike", "alike", "Streets.alike", defArgs st_Streets_alike, defBody st_Streets_alike, defScope st_Streets_alike, [], [("slope", .int 1), ("base", .int 0)]⟩
def m_Streets_alike : Fz.Env → Out := bSeq (sRet (dcls 0 (dcall (mkD "Streets" 2 [] f_Streets_init) (dcons (d2 oRepL (dcall oLst (dcons (dv 2) dnil)) (dv 1)) (dcons (d2 oRepL (dcall oLst (dcons (dv 3) dnil)) (dv 1)) dnil))))) sNx
def f_Streets_alike : List D → Res D := runD .z 4 m_Streets_alike
/-! ### _law_alike -/
abbrev st__law_alike : Stmt := (top 36)
def d__law_alike : He.DefD := ⟨("_law_alike", none), "_law_alike", "_law_alike", defArgs st__law_alike, defBody st__law_alike, defScope st__law_alike, [], []⟩
def b__law_alike_0 : Fz.Env → Out := bSeq (sIf (Fz.tNot (tTru (dcall (withD 2 [] f__law_equal) (dcons (dv 5) (dcons (dcall oTup (dcons (dv 1) (dcons (dv 2) dnil))) dnil))))) (bSeq (sRet (dc (.bl false))) sNx) sNx) sNx
def m__law_alike : Fz.Env → Out := bSeq (sSet 2 (dcall bLen (dcons (dv 0) dnil))) (bSeq (sSet 3 (dcm "Streets" [(0, 0), (0, 1), (2, 0), (2, 1)] 2 2 [] f_Streets_alike (dcons (dv 2) dnil) (dcons (d2 oIx (d2 oIx (dv 0) (dc (.int 0))) (dc (.int 0))) (dcons (d2 oIx (d2 oIx (dv 0) (dc (.int 0))) (dc (.int 1))) dnil)))) (bSeq (sIf (Fz.tNot (tTru (dcall (withD 3 [] f__law_is_streets) (dcons (dv 3) (dcons (d2 oRepL (dcall oLst (dcons (d2 oIx (d2 oIx (dv 0) (dc (.int 0))) (dc (.int 0))) dnil)) (dv 2)) (dcons (d2 oRepL (dcall oLst (dcons (d2 oIx (d2 oIx (dv 0) (dc (.int 0))) (dc (.int 1))) dnil)) (dv 2)) dnil)))))) (bSeq (sRet (dc (.bl false))) sNx) sNx) (bSeq (sIf (Fz.tNot (tTru (dcall (withD 3 [] f__law_is_streets) (dcons (dcm "Streets" [(0, 0), (0, 1), (1, 0), (1, 1)] 2 0 [.int 1, .int 0] f_Streets_alike (dcons (dv 2) dnil) dnil) (dcons (d2 oRepL (dcall oLst (dcons (dc (.int 1)) dnil)) (dv 2)) (dcons (d2 oRepL (dcall oLst (dcons (dc (.int 0)) dnil)) (dv 2)) dnil)))))) (bSeq (sRet (dc (.bl false))) sNx) sNx) (bSeq (sIf (Fz.tNot (tTru (dcall (withD 3 [] f__law_is_streets) (dcons (dcm "Streets" [(0, 0), (0, 1), (1, 0), (2, 0)] 2 1 [.int 1] f_Streets_alike (dcons (dv 2) dnil) (dcons (d2 oIx (d2 oIx (dv 0) (dc (.int 0))) (dc (.int 1))) dnil)) (dcons (d2 oRepL (dcall oLst (dcons (dc (.int 1)) dnil)) (dv 2)) (dcons (d2 oRepL (dcall oLst (dcons (d2 oIx (d2 oIx (dv 0) (dc (.int 0))) (dc (.int 1))) dnil)) (dv 2)) dnil)))))) (bSeq (sRet (dc (.bl false))) sNx) sNx) (bSeq (sSet 4 (dcall (withD 2 [] f_even_share) (dcons (dv 3) (dcons (dv 1) dnil)))) (bSeq (sIf (Fz.tNot (tTru (dcall (withD 4 [] f__law_is_share) (dcons (dv 4) (dcons (d2 oRepL (dcall oLst (dcons (d2 oIx (dv 0) (dc (.int 0))) dnil)) (dv 2)) (dcons (dv 1) (dcons (dc (.int 1)) dnil))))))) (bSeq (sRet (dc (.bl false))) sNx) sNx) (bSeq (sFor (iSeq itD (d2 oIx (dv 4) (dc (.int 1)))) (tgN 5) b__law_alike_0) (bSeq (sRet (dc (.bl true))) sNx))))))))
def f__law_alike : List D → Res D := runD .z 6 m__law_alike
/-! ### law -/
abbrev st_law : Stmt := (top 37)
def d_law : He.DefD := ⟨("law", none), "law", "law", defArgs st_law, defBody st_law, defScope st_law, [], []⟩
def m_law : Fz.Env → Out := bSeq (sSet 1 (dcall (withD 3 [] f__law_row) (dcons (dcall (withD 2 [] f__law_cell) (dcons (dv 0) (dcons (dc (.int 0)) dnil))) (dcons (dc (.int 16)) (dcons (dc (.int 3600)) dnil))))) (bSeq (sSet 2 (dcall (withD 2 [] f__law_rows) (dcons (dv 0) (dcons (dv 1) dnil)))) (bSeq (sSet 3 (dcall (withD 2 [] f__law_crowd) (dcons (dv 2) (dcons (dv 1) dnil)))) (bSeq (sSet 4 (dLc (([("row", 5)] : List (Str × Nat)).map (·.2)) (iSeq itD (dv 2)) (tgN 5) dYes (d2 oIx (dv 5) (dc (.int 0))))) (bSeq (sSet 6 (dLc (([("row", 5)] : List (Str × Nat)).map (·.2)) (iSeq itD (dv 2)) (tgN 5) dYes (d2 oIx (dv 5) (dc (.int 1))))) (bSeq (sSet 7 (dcall bLst (dcons (dv 4) dnil))) (bSeq (sSet 8 (dcall bLst (dcons (dv 6) dnil))) (bSeq (sSet 9 (dsol (dsol (dcall (mkD "Streets" 2 [] f_Streets_init) (dcons (dv 7) (dcons (dv 8) dnil)))))) (bSeq (sIf (tflat (tflat (Fz.tOr (tVal (d2 cNe (dv 7) (dv 4))) (tVal (d2 cNe (dv 8) (dv 6)))))) (bSeq (sRet (dc (.bl false))) sNx) sNx) (bSeq (sPut 7 (dc (.int 0)) (d2 oAdd (oIxO 7 (dc (.int 0))) (dc (.int 1)))) (bSeq (sApp 7 (dc (.int 1))) (bSeq (sPut 8 (dc (.int 0)) (d2 oAdd (oIxO 8 (dc (.int 0))) (dc (.int 7)))) (bSeq (sApp 8 (dc (.int 0))) (bSeq (sIf (Fz.tNot (tTru (dcall (withD 3 [] f__law_is_streets) (dcons (dv 9) (dcons (dv 4) (dcons (dv 6) dnil)))))) (bSeq (sRet (dc (.bl false))) sNx) sNx) (bSeq (sSet 10 (dcall (withD 2 [] f_even_share) (dcons (dv 9) (dcons (dv 3) dnil)))) (bSeq (sSet 11 (dcall (withD 2 [] f_best_share) (dcons (dv 9) (dcons (dv 3) dnil)))) (bSeq (sIf (Fz.tOr (Fz.tNot (tTru (dcall (withD 4 [] f__law_is_share) (dcons (dv 10) (dcons (dv 2) (dcons (dv 3) (dcons (dc (.int 1)) dnil))))))) (Fz.tNot (tTru (dcall (withD 4 [] f__law_is_share) (dcons (dv 11) (dcons (dv 2) (dcons (dv 3) (dcons (dc (.int 2)) dnil)))))))) (bSeq (sRet (dc (.bl false))) sNx) sNx) (bSeq (sIf (Fz.tNot (tTru (dcall (withD 6 [] f__law_costs) (dcons (dv 9) (dcons (dv 2) (dcons (dv 3) (dcons (d2 oIx (dv 10) (dc (.int 1))) (dcons (d2 oIx (dv 11) (dc (.int 1))) (dcons (dv 1) dnil))))))))) (bSeq (sRet (dc (.bl false))) sNx) sNx) (bSeq (sIf (Fz.tOr (Fz.tNot (tTru (dcall (withD 4 [] f__law_tolls) (dcons (dv 9) (dcons (dv 2) (dcons (dv 3) (dcons (d2 oIx (dv 11) (dc (.int 1))) dnil))))))) (Fz.tNot (tTru (dcall (withD 2 [] f__law_alike) (dcons (dv 2) (dcons (dv 3) dnil)))))) (bSeq (sRet (dc (.bl false))) sNx) sNx) (bSeq (sSet 12 (dcall (mkD "Streets" 2 [] f_Streets_init) (dcons (dcall bTup (dcons (dv 4) dnil)) (dcons (dcall bTup (dcons (dv 6) dnil)) dnil)))) (bSeq (sIf (Fz.tOr (tVal (d2 cNe (dcall (withD 2 [] f_even_share) (dcons (dv 9) (dcons (dv 3) dnil))) (dv 10))) (tVal (d2 cNe (dcall (withD 2 [] f_best_share) (dcons (dv 12) (dcons (dv 3) dnil))) (dv 11)))) (bSeq (sRet (dc (.bl false))) sNx) sNx) (bSeq (sRet (dAnd (dcall (withD 3 [] f__law_is_streets) (dcons (dv 9) (dcons (dv 4) (dcons (dv 6) dnil)))) (dcall (withD 4 [] f__law_is_share) (dcons (dcall (withD 2 [] f_even_share) (dcons (dv 12) (dcons (dc (.int 0)) dnil))) (dcons (dv 2) (dcons (dc (.int 0)) (dcons (dc (.int 1)) dnil))))))) sNx)))))))))))))))))))))
def f_law : List D → Res D := runD .z 13 m_law
def fn : List He.DefD := [d__law_mix, d__law_row, d__law_cell, d__law_rows, d__law_crowd, d_Streets_init, d__law_is_whole, d__law_same_row, d__law_is_streets, d_lowest, d_even_share, d_best_share, d__law_gcd, d__law_is_exact, d__law_plus, d__law_equal, d__law_is_share, d_added, d_times, d_crowd_cost, d__law_cost, d__law_is_cost, d__law_shares, d_crowd_dearness, d__law_costs, d_street_tolls, d__law_tolls, d__law_alike, d_law]
def fm : List He5.DefA := [d_Streets_alike]
def fa : List He.Fa := [.free "abs", .free "range", .free "int", .free "len", .free "max", .free "list", .free "min", .glo "BadRoads", .exc "BadRoads", .int "MOST_STREETS" 8, .free "tuple", .cls "Streets", .noat "Streets" "slopes", .noat "Streets" "bases", .glo "Streets", .free "isinstance", .free "bool", .free "zip", .free "sorted", .free "sum", .glo "_law_mix", .glo "_law_row", .glo "_law_cell", .glo "_law_rows", .glo "_law_crowd", .mkr "Streets", .glo "_law_is_whole", .glo "_law_same_row", .glo "_law_is_streets", .glo "lowest", .glo "even_share", .glo "best_share", .glo "_law_gcd", .glo "_law_is_exact", .glo "_law_plus", .glo "_law_equal", .glo "_law_is_share", .glo "added", .glo "times", .glo "crowd_cost", .glo "_law_cost", .glo "_law_is_cost", .glo "_law_shares", .glo "crowd_dearness", .glo "_law_costs", .glo "street_tolls", .glo "_law_tolls", .glo "_law_alike", .glo "law"]
def fb : List Fb := [.ins "Streets", .kit "Streets" "Streets" true, .blt "lcm" "math.lcm", .blt "gcd" "math.gcd", .cm "Streets" "alike"]
section
variable {P : Program} {wd : World} {K : Fr} {mg : Str → Option Value} {base : Heap}
theorem sc__law_mix : FnScope ["cell", "k", "first", "second"] ["cell", "k"] (defScope st__law_mix) := ⟨rfl, rfl, rfl, by decide +kernel, rfl, by decide +kernel, by decide +kernel⟩
theorem body__law_mix (C : Ctx fa fn fb fm K mg) {fd : FuncData} {a : Addr} (F : FunD K (d__law_mix).name (d__law_mix).qual (d__law_mix).params (d__law_mix).body (d__law_mix).scope ((d__law_mix).dvs K) ((d__law_mix).kws K) a fd) : FnOk P wd K mg base (L2.CX P wd) 1 a fd ["cell", "k"] (spD K 2 f__law_mix .z) :=
  have S := sc__law_mix
  fn_ok (w := [.z, .z, .z, .z]) (w1 := [.z, .z, .z, .z]) F S rfl rfl fun cdv A outer s H E hr => (ss_cons (w1 := [.z, .z, .z, .z]) (s_set 2 (e_op op_modA od_mod (e_callT call_int1 cd_int (C.free 2) boot_int (a_cons (e_op op_addAll od_add (e_op op_addAll od_add (e_op op_mulA od_mul (e_var 0) e_int) (e_op op_mulA od_mul (e_var 1) e_int)) e_int) a_nil)) e_int) (hN := S.nd)) (ss_cons (w1 := [.z, .z, .z, .z]) (s_set 3 (e_op op_modA od_mod (e_callT call_int1 cd_int (C.free 2) boot_int (a_cons (e_op op_addAll od_add (e_op op_addAll od_add (e_op op_mulA od_mul (e_var 2) e_int) (e_op op_mulA od_mul (e_var 1) e_int)) (e_op op_divA od_div (e_var 2) e_int)) a_nil)) e_int) (hN := S.nd)) (ss_cons (w1 := [.z, .z, .z, .z]) (s_ret (e_op op_modA od_mod (e_callT call_int1 cd_int (C.free 2) boot_int (a_cons (e_op op_addAll od_add (e_op op_mulA od_mul (e_var 3) e_int) (e_op op_divA od_div (e_var 3) e_int)) a_nil)) e_int)) ss_nil)))
theorem ok__law_mix (C : Ctx fa fn fb fm K mg) : Fn P wd K mg base 1 "_law_mix" 2 [] f__law_mix .z := by
  obtain ⟨fd, F⟩ := C.c.def_ 0 (d := d__law_mix) rfl
  obtain ⟨us, hv, hb⟩ : ∃ us, Vals ([] : List V) us ∧ Binds K fd ["cell", "k"] us := ⟨[], .nil, F.bindsN fun _ _ _ _ _ _ us hl => match us, hl with | [_, _], _ => rfl⟩
  exact ⟨⟨_, fd, ["cell", "k"], [], us, C.glo 20, F.kp, hb, hv, fun _ => .nil, body__law_mix C F⟩⟩
theorem sc__law_row : FnScope ["cell", "count", "limit", "row", "left", "k"] ["cell", "count", "limit"] (defScope st__law_row) := ⟨rfl, rfl, rfl, by decide +kernel, rfl, by decide +kernel, by decide +kernel⟩
theorem body__law_row (C : Ctx fa fn fb fm K mg) {fd : FuncData} {a : Addr} (F : FunD K (d__law_row).name (d__law_row).qual (d__law_row).params (d__law_row).body (d__law_row).scope ((d__law_row).dvs K) ((d__law_row).kws K) a fd) : FnOk P wd K mg base (L2.CX P wd) 2 a fd ["cell", "count", "limit"] (spD K 3 f__law_row .z) :=
  have S := sc__law_row
  fn_ok (w := [.z, .z, .z, .z, .z, .z]) (w1 := [.z, .z, .z, .z, .z, .z]) F S rfl rfl fun cdv A outer s H E hr => (ss_cons (w1 := [.z, .z, .z, .l .z, .z, .z]) (s_set 3 (e_lst a_nil) (hN := S.nd)) (ss_cons (w1 := [.z, .z, .z, .l .z, .z, .z]) (s_set 4 (e_callB call_abs cd_abs (C.free 0) boot_abs (a_cons (e_var 0) a_nil)) (hN := S.nd)) (ss_cons (w1 := [.z, .z, .z, .l .z, .z, .z]) (s_for (vs := [5]) (i_range1 (C.free 1) (a_cons (e_var 1) a_nil)) (g_name 5 (hN := S.nd)) (ss_cons (w1 := [.z, .z, .z, .l .z, .z, .z]) (s_if (PW.pt (w_and (t_cmp (OpR.rI0 op_ge) od_cmp (e_callB call_abs cd_abs (C.free 0) boot_abs (a_cons (e_var 0) a_nil)) (e_op op_pow od_pow e_int e_int)) (w_and1 (t_cmp (OpR.rI0 op_gt) od_cmp (e_var 4) e_int)))) (ss_cons (w1 := [.z, .z, .z, .l .z, .z, .z]) (s_app 3 (he := (e_op op_modA od_mod (e_callT call_int1 cd_int (C.free 2) boot_int (a_cons (e_var 4) a_nil)) (e_var 2)))) (ss_cons (w1 := [.z, .z, .z, .l .z, .z, .z]) (s_set 4 (e_op op_divA od_div (e_var 4) (e_var 2)) (hN := S.nd)) ss_nil)) (ss_cons (w1 := [.z, .z, .z, .l .z, .z, .z]) (s_app 3 (he := (e_op op_modA od_mod (e_callT call_int1 cd_int (C.free 2) boot_int (a_cons (e_call (ok__law_mix C) (hr.mono (by decide)) (takes_E rfl rfl rfl rfl) (a_cons (e_var 0) (a_cons (e_var 5) a_nil))) a_nil)) (e_var 2)))) ss_nil)) ss_nil) (passes_of rfl)) (ss_fz (w' := [.z, .z, .z, .z, .z, .z]) (ss_cons (w1 := [.z, .z, .z, .z, .z, .z]) (s_ret (e_var 3)) ss_nil)))))
theorem ok__law_row (C : Ctx fa fn fb fm K mg) : Fn P wd K mg base 2 "_law_row" 3 [] f__law_row .z := by
  obtain ⟨fd, F⟩ := C.c.def_ 1 (d := d__law_row) rfl
  obtain ⟨us, hv, hb⟩ : ∃ us, Vals ([] : List V) us ∧ Binds K fd ["cell", "count", "limit"] us := ⟨[], .nil, F.bindsN fun _ _ _ _ _ _ us hl => match us, hl with | [_, _, _], _ => rfl⟩
  exact ⟨⟨_, fd, ["cell", "count", "limit"], [], us, C.glo 21, F.kp, hb, hv, fun _ => .nil, body__law_row C F⟩⟩
theorem sc__law_cell : FnScope ["script", "k"] ["script", "k"] (defScope st__law_cell) := ⟨rfl, rfl, rfl, by decide +kernel, rfl, by decide +kernel, by decide +kernel⟩
theorem body__law_cell (C : Ctx fa fn fb fm K mg) {fd : FuncData} {a : Addr} (F : FunD K (d__law_cell).name (d__law_cell).qual (d__law_cell).params (d__law_cell).body (d__law_cell).scope ((d__law_cell).dvs K) ((d__law_cell).kws K) a fd) : FnOk P wd K mg base (L2.CX P wd) 1 a fd ["script", "k"] (spD K 2 f__law_cell .z) :=
  have S := sc__law_cell
  fn_ok (w := [.z, .z]) (w1 := [.z, .z]) F S rfl rfl fun cdv A outer s H E hr => (ss_cons (w1 := [.z, .z]) (s_if (t_cmp (OpR.rI0 op_lt) od_cmp (e_var 1) (e_callB call_len cd_len (C.free 3) boot_len (a_cons (e_var 0) a_nil))) (ss_cons (w1 := [.z, .z]) (s_ret (e_ix (e_var 0) (e_var 1))) ss_nil) ss_nil) (ss_cons (w1 := [.z, .z]) (s_ret e_int) ss_nil))
theorem ok__law_cell (C : Ctx fa fn fb fm K mg) : Fn P wd K mg base 1 "_law_cell" 2 [] f__law_cell .z := by
  obtain ⟨fd, F⟩ := C.c.def_ 2 (d := d__law_cell) rfl
  obtain ⟨us, hv, hb⟩ : ∃ us, Vals ([] : List V) us ∧ Binds K fd ["script", "k"] us := ⟨[], .nil, F.bindsN fun _ _ _ _ _ _ us hl => match us, hl with | [_, _], _ => rfl⟩
  exact ⟨⟨_, fd, ["script", "k"], [], us, C.glo 22, F.kp, hb, hv, fun _ => .nil, body__law_cell C F⟩⟩
theorem sc__law_rows : FnScope ["script", "numbers", "kind", "feet", "tops", "rows", "k"] ["script", "numbers"] (defScope st__law_rows) := ⟨rfl, rfl, rfl, by decide +kernel, rfl, by decide +kernel, by decide +kernel⟩
theorem body__law_rows (C : Ctx fa fn fb fm K mg) {fd : FuncData} {a : Addr} (F : FunD K (d__law_rows).name (d__law_rows).qual (d__law_rows).params (d__law_rows).body (d__law_rows).scope ((d__law_rows).dvs K) ((d__law_rows).kws K) a fd) : FnOk P wd K mg base (L2.CX P wd) 3 a fd ["script", "numbers"] (spD K 2 f__law_rows .z) :=
  have S := sc__law_rows
  fn_ok (w := [.z, .z, .z, .z, .z, .z, .z]) (w1 := [.z, .z, .z, .z, .z, .z, .z]) F S rfl rfl fun cdv A outer s H E hr => (ss_cons (w1 := [.z, .z, .z, .z, .z, .z, .z]) (s_set 2 (e_op op_modA od_mod (e_callT call_int1 cd_int (C.free 2) boot_int (a_cons (e_ix (e_var 1) e_int) a_nil)) e_int) (hN := S.nd)) (ss_cons (w1 := [.z, .z, .z, .z, .z, .z, .z]) (s_set 3 (e_call (ok__law_row C) (hr.mono (by decide)) (takes_E rfl rfl rfl rfl) (a_cons (e_call (ok__law_cell C) (hr.mono (by decide)) (takes_E rfl rfl rfl rfl) (a_cons (e_var 0) (a_cons e_int a_nil))) (a_cons e_int (a_cons e_int a_nil)))) (hN := S.nd)) (ss_cons (w1 := [.z, .z, .z, .z, .z, .z, .z]) (s_set 4 (e_call (ok__law_row C) (hr.mono (by decide)) (takes_E rfl rfl rfl rfl) (a_cons (e_op op_addAll od_add (e_call (ok__law_cell C) (hr.mono (by decide)) (takes_E rfl rfl rfl rfl) (a_cons (e_var 0) (a_cons e_int a_nil))) e_int) (a_cons e_int (a_cons e_int a_nil)))) (hN := S.nd)) (ss_cons (w1 := [.z, .z, .z, .z, .z, .l .z, .z]) (s_set 5 (e_lst a_nil) (hN := S.nd)) (ss_cons (w1 := [.z, .z, .z, .z, .z, .l .z, .z]) (s_for (vs := [6]) (i_range1 (C.free 1) (a_cons (e_op op_addAll od_add e_int (e_op op_modA od_mod (e_callT call_int1 cd_int (C.free 2) boot_int (a_cons (e_ix (e_var 1) e_int) a_nil)) e_int)) a_nil)) (g_name 6 (hN := S.nd)) (ss_cons (w1 := [.z, .z, .z, .z, .z, .l .z, .z]) (s_if (t_cmp (OpR.rI0 op_lt) od_cmp (e_var 2) e_int) (ss_cons (w1 := [.z, .z, .z, .z, .z, .l .z, .z]) (s_app 5 (he := (e_tup (a_cons (e_op op_addAll od_add e_int (e_op op_modA od_mod (e_callT call_int1 cd_int (C.free 2) boot_int (a_cons (e_ix (e_var 3) (e_var 6)) a_nil)) e_int)) (a_cons (e_op op_modA od_mod (e_callT call_int1 cd_int (C.free 2) boot_int (a_cons (e_ix (e_var 4) (e_var 6)) a_nil)) e_int) a_nil))))) ss_nil) (ss_cons (w1 := [.z, .z, .z, .z, .z, .l .z, .z]) (s_if (t_cmp (OpR.rI0 op_lt) od_cmp (e_var 2) e_int) (ss_cons (w1 := [.z, .z, .z, .z, .z, .l .z, .z]) (s_app 5 (he := (e_tup (a_cons (e_op op_addAll od_add e_int (e_op op_modA od_mod (e_callT call_int1 cd_int (C.free 2) boot_int (a_cons (e_ix (e_var 3) (e_var 6)) a_nil)) e_int)) (a_cons (e_op op_modA od_mod (e_callT call_int1 cd_int (C.free 2) boot_int (a_cons (e_ix (e_var 4) (e_var 6)) a_nil)) e_int) a_nil))))) ss_nil) (ss_cons (w1 := [.z, .z, .z, .z, .z, .l .z, .z]) (s_if (t_cmp (op_eqA hr.units) od_eq (e_var 2) e_int) (ss_cons (w1 := [.z, .z, .z, .z, .z, .l .z, .z]) (s_app 5 (he := (e_tup (a_cons (e_op op_addAll od_add (e_op op_addAll od_add (e_op op_mulA od_mul (e_ix (e_var 3) (e_var 6)) (e_op op_pow od_pow e_int e_int)) (e_ix (e_var 3) (e_var 6))) e_int) (a_cons (e_op op_addAll od_add (e_op op_mulA od_mul (e_ix (e_var 4) (e_var 6)) (e_op op_pow od_pow e_int e_int)) (e_op op_mulA od_mul e_int (e_ix (e_var 4) (e_var 6)))) a_nil))))) ss_nil) (ss_cons (w1 := [.z, .z, .z, .z, .z, .l .z, .z]) (s_app 5 (he := (e_tup (a_cons (e_ix (e_fz (e_lst (a_cons e_int (a_cons e_int (a_cons e_int (a_cons e_int (a_cons e_int (a_cons e_int a_nil)))))))) (e_op op_modA od_mod (e_callT call_int1 cd_int (C.free 2) boot_int (a_cons (e_ix (e_var 3) (e_var 6)) a_nil)) e_int)) (a_cons (e_op op_mulA od_mul e_int (e_op op_modA od_mod (e_callT call_int1 cd_int (C.free 2) boot_int (a_cons (e_ix (e_var 4) (e_var 6)) a_nil)) e_int)) a_nil))))) ss_nil)) ss_nil)) ss_nil)) ss_nil) (passes_of rfl)) (ss_fz (w' := [.z, .z, .z, .z, .z, .z, .z]) (ss_cons (w1 := [.z, .z, .z, .z, .z, .z, .z]) (s_ret (e_var 5)) ss_nil)))))))
theorem ok__law_rows (C : Ctx fa fn fb fm K mg) : Fn P wd K mg base 3 "_law_rows" 2 [] f__law_rows .z := by
  obtain ⟨fd, F⟩ := C.c.def_ 3 (d := d__law_rows) rfl
  obtain ⟨us, hv, hb⟩ : ∃ us, Vals ([] : List V) us ∧ Binds K fd ["script", "numbers"] us := ⟨[], .nil, F.bindsN fun _ _ _ _ _ _ us hl => match us, hl with | [_, _], _ => rfl⟩
  exact ⟨⟨_, fd, ["script", "numbers"], [], us, C.glo 23, F.kp, hb, hv, fun _ => .nil, body__law_rows C F⟩⟩
theorem sc__law_crowd : FnScope ["rows", "numbers", "kind", "foot", "many", "row"] ["rows", "numbers"] (defScope st__law_crowd) := ⟨rfl, rfl, rfl, by decide +kernel, rfl, by decide +kernel, by decide +kernel⟩
theorem body__law_crowd (C : Ctx fa fn fb fm K mg) {fd : FuncData} {a : Addr} (F : FunD K (d__law_crowd).name (d__law_crowd).qual (d__law_crowd).params (d__law_crowd).body (d__law_crowd).scope ((d__law_crowd).dvs K) ((d__law_crowd).kws K) a fd) : FnOk P wd K mg base (L2.CX P wd) 1 a fd ["rows", "numbers"] (spD K 2 f__law_crowd .z) :=
  have S := sc__law_crowd
  fn_ok (w := [.z, .z, .z, .z, .z, .z]) (w1 := [.z, .z, .z, .z, .z, .z]) F S rfl rfl fun cdv A outer s H E hr => (ss_cons (w1 := [.z, .z, .z, .z, .z, .z]) (s_set 2 (e_op op_modA od_mod (e_callT call_int1 cd_int (C.free 2) boot_int (a_cons (e_ix (e_var 1) e_int) a_nil)) e_int) (hN := S.nd)) (ss_cons (w1 := [.z, .z, .z, .z, .z, .z]) (s_if (t_cmp (op_eqA hr.units) od_eq (e_var 2) e_int) (ss_cons (w1 := [.z, .z, .z, .z, .z, .z]) (s_ret e_int) ss_nil) ss_nil) (ss_cons (w1 := [.z, .z, .z, .z, .z, .z]) (s_if (t_cmp (op_eqA hr.units) od_eq (e_var 2) e_int) (ss_cons (w1 := [.z, .z, .z, .z, .z, .z]) (s_ret (e_op op_addAll od_add (e_op op_mulA od_mul (e_op op_addAll od_add (e_op op_mulA od_mul (e_ix (e_var 1) e_int) e_int) (e_ix (e_var 1) e_int)) (e_op op_pow od_pow e_int e_int)) (e_ix (e_var 1) e_int))) ss_nil) ss_nil) (ss_cons (w1 := [.z, .z, .z, .z, .z, .z]) (s_if (PW.pt (w_or (t_cmp (OpR.rI0 op_lt) od_cmp (e_var 2) e_int) (w_or1 (t_cmp (OpR.rI0 op_lt) od_cmp (e_op op_modA od_mod (e_callT call_int1 cd_int (C.free 2) boot_int (a_cons (e_ix (e_var 1) e_int) a_nil)) e_int) e_int)))) (ss_cons (w1 := [.z, .z, .z, .z, .z, .z]) (s_ret (e_op op_modA od_mod (e_callT call_int1 cd_int (C.free 2) boot_int (a_cons (e_ix (e_var 1) e_int) a_nil)) e_int)) ss_nil) ss_nil) (ss_cons (w1 := [.z, .z, .z, .z, .z, .z]) (s_set 3 (e_ix (e_ix (e_var 0) (e_op op_modA od_mod (e_callT call_int1 cd_int (C.free 2) boot_int (a_cons (e_ix (e_var 1) e_int) a_nil)) (e_callB call_len cd_len (C.free 3) boot_len (a_cons (e_var 0) a_nil)))) e_int) (hN := S.nd)) (ss_cons (w1 := [.z, .z, .z, .z, .z, .z]) (s_set 4 e_int (hN := S.nd)) (ss_cons (w1 := [.z, .z, .z, .z, .z, .z]) (s_for (vs := [5]) (i_seq (e_var 0)) (g_name 5 (hN := S.nd)) (ss_cons (w1 := [.z, .z, .z, .z, .z, .z]) (s_set 4 (e_op op_addAll od_add (e_var 4) (e_op op_divA od_div (e_callB (cr_maxA rfl) cd_max (C.free 4) boot_max (a_cons e_int (a_cons (e_op (OpR.rI0 op_sub) od_sub (e_var 3) (e_ix (e_var 5) e_int)) a_nil))) (e_op op_mulA od_mul (e_ix (e_var 5) e_int) (e_op (OpR.rI0 op_sub) od_sub (e_var 2) e_int)))) (hN := S.nd)) ss_nil) (passes_of rfl)) (ss_cons (w1 := [.z, .z, .z, .z, .z, .z]) (s_ret (e_callB (cr_maxA rfl) cd_max (C.free 4) boot_max (a_cons e_int (a_cons (e_op (OpR.rI0 op_sub) od_sub (e_op op_addAll od_add (e_var 4) (e_op op_modA od_mod (e_callT call_int1 cd_int (C.free 2) boot_int (a_cons (e_ix (e_var 1) e_int) a_nil)) e_int)) e_int) a_nil)))) ss_nil))))))))
theorem ok__law_crowd (C : Ctx fa fn fb fm K mg) : Fn P wd K mg base 1 "_law_crowd" 2 [] f__law_crowd .z := by
  obtain ⟨fd, F⟩ := C.c.def_ 4 (d := d__law_crowd) rfl
  obtain ⟨us, hv, hb⟩ : ∃ us, Vals ([] : List V) us ∧ Binds K fd ["rows", "numbers"] us := ⟨[], .nil, F.bindsN fun _ _ _ _ _ _ us hl => match us, hl with | [_, _], _ => rfl⟩
  exact ⟨⟨_, fd, ["rows", "numbers"], [], us, C.glo 24, F.kp, hb, hv, fun _ => .nil, body__law_crowd C F⟩⟩
theorem sc_Streets_init : FnScope ["self", "slopes", "bases"] ["self", "slopes", "bases"] (defScope st_Streets_init) := ⟨rfl, rfl, rfl, by decide +kernel, rfl, by decide +kernel, by decide +kernel⟩
theorem body_Streets_init (C : Ctx fa fn fb fm K mg) {fd : FuncData} {a : Addr} (F : FunD K "__init__" (d_Streets_init).qual (d_Streets_init).params (d_Streets_init).body (d_Streets_init).scope ((d_Streets_init).dvs K) ((d_Streets_init).kws K) a fd) : FnOk P wd K mg base (L2.CX P wd) 1 a fd ["self", "slopes", "bases"] (spI K "Streets" 2 f_Streets_init) :=
  have S := sc_Streets_init
  init_ok (w := [.z, .z]) F S rfl rfl fun x cdv A outer s H E hr => ⟨[.at x, .z, .z], rfl, (ss_cons (w1 := [.at x, .z, .z]) (s_if (PW.pt (w_or (t_cmp (op_eqA hr.units) od_eq (e_callB call_len cd_len (C.free 3) boot_len (a_cons (e_var 1) a_nil)) e_int) (w_or (t_cmp (op_neA hr.units) od_ne (e_callB call_len cd_len (C.free 3) boot_len (a_cons (e_var 1) a_nil)) (e_callB call_len cd_len (C.free 3) boot_len (a_cons (e_var 2) a_nil))) (w_or (t_cmp (OpR.rI0 op_lt) od_cmp (e_callB (cr_minA rfl) cd_min (C.free 6) boot_min (a_cons (e_var 1) a_nil)) e_int) (w_or1 (t_cmp (OpR.rI0 op_lt) od_cmp (e_callB (cr_minA rfl) cd_min (C.free 6) boot_min (a_cons (e_var 2) a_nil)) e_int)))))) (ss_cons (w1 := [.at x, .z, .z]) (s_raise (C.rse 7 8) (takes_E rfl rfl rfl rfl)) ss_nil) ss_nil) (ss_cons (w1 := [.at x, .z, .z]) (s_if (t_cmp (OpR.rI0 op_gt) od_cmp (e_callB call_len cd_len (C.free 3) boot_len (a_cons (e_var 1) a_nil)) (e_globI (C.int 9).choose_spec)) (ss_cons (w1 := [.at x, .z, .z]) s_never ss_nil) ss_nil) (ss_cons (w1 := [.at x, .z, .z]) (s_fld 0 (he := (e_callT call_tuple_of cd_tup (C.free 10) boot_tuple (a_cons (e_var 1) a_nil))) (hc := (FldOk.cons (C.cls 11) (C.noat 12) FldOk.nil))) (ss_cons (w1 := [.at x, .z, .z]) (s_fld 0 (he := (e_callT call_tuple_of cd_tup (C.free 10) boot_tuple (a_cons (e_var 2) a_nil))) (hc := (FldOk.cons (C.cls 11) (C.noat 13) FldOk.nil))) ss_nil))))⟩
theorem ok_Streets_init (C : Ctx fa fn fb fm K mg) : Mc P wd K mg base 1 "Streets" 2 [] f_Streets_init := by
  obtain ⟨fd, F⟩ := C.c.def_ 5 (d := d_Streets_init) rfl
  obtain ⟨us, hv, hb⟩ : ∃ us, Vals ([] : List V) us ∧ Binds K fd ["self", "slopes", "bases"] us := ⟨[], .nil, F.bindsN fun _ _ _ _ _ _ us hl => match us, hl with | [_, _, _], _ => rfl⟩
  exact ⟨⟨_, fd, ["self", "slopes", "bases"], [], us, C.glo 14, C.mkr 25, hb, hv, fun _ => .nil, body_Streets_init C F⟩⟩
theorem sc__law_is_whole : FnScope ["actual"] ["actual"] (defScope st__law_is_whole) := ⟨rfl, rfl, rfl, by decide +kernel, rfl, by decide +kernel, by decide +kernel⟩
theorem body__law_is_whole (C : Ctx fa fn fb fm K mg) {fd : FuncData} {a : Addr} (F : FunD K (d__law_is_whole).name (d__law_is_whole).qual (d__law_is_whole).params (d__law_is_whole).body (d__law_is_whole).scope ((d__law_is_whole).dvs K) ((d__law_is_whole).kws K) a fd) : FnOk P wd K mg base (L2.CX P wd) 1 a fd ["actual"] (spD K 1 f__law_is_whole .z) :=
  have S := sc__law_is_whole
  fn_ok (w := [.z]) (w1 := [.z]) F S rfl rfl fun cdv A outer s H E hr => (ss_cons (w1 := [.z]) (s_ret (e_and (e_isi .int boot_int (C.free 2) (C.free 15) (e_var 0)) (e_one (e_not (e_isi .bool boot_bool (C.free 16) (C.free 15) (e_var 0)))))) ss_nil)
theorem ok__law_is_whole (C : Ctx fa fn fb fm K mg) : Fn P wd K mg base 1 "_law_is_whole" 1 [] f__law_is_whole .z := by
  obtain ⟨fd, F⟩ := C.c.def_ 6 (d := d__law_is_whole) rfl
  obtain ⟨us, hv, hb⟩ : ∃ us, Vals ([] : List V) us ∧ Binds K fd ["actual"] us := ⟨[], .nil, F.bindsN fun _ _ _ _ _ _ us hl => match us, hl with | [_], _ => rfl⟩
  exact ⟨⟨_, fd, ["actual"], [], us, C.glo 26, F.kp, hb, hv, fun _ => .nil, body__law_is_whole C F⟩⟩
theorem sc__law_same_row : FnScope ["actual", "expected", "k"] ["actual", "expected"] (defScope st__law_same_row) := ⟨rfl, rfl, rfl, by decide +kernel, rfl, by decide +kernel, by decide +kernel⟩
theorem body__law_same_row (C : Ctx fa fn fb fm K mg) {fd : FuncData} {a : Addr} (F : FunD K (d__law_same_row).name (d__law_same_row).qual (d__law_same_row).params (d__law_same_row).body (d__law_same_row).scope ((d__law_same_row).dvs K) ((d__law_same_row).kws K) a fd) : FnOk P wd K mg base (L2.CX P wd) 2 a fd ["actual", "expected"] (spD K 2 f__law_same_row .z) :=
  have S := sc__law_same_row
  fn_ok (w := [.z, .z, .z]) (w1 := [.z, .z, .z]) F S rfl rfl fun cdv A outer s H E hr => (ss_cons (w1 := [.z, .z, .z]) (s_if (PW.pt (w_or (t_not (t_tru (e_isi .tuple boot_tuple (C.free 10) (C.free 15) (e_var 0)))) (w_or1 (t_cmp (op_neA hr.units) od_ne (e_callB call_len cd_len (C.free 3) boot_len (a_cons (e_var 0) a_nil)) (e_callB call_len cd_len (C.free 3) boot_len (a_cons (e_var 1) a_nil)))))) (ss_cons (w1 := [.z, .z, .z]) (s_ret e_bl) ss_nil) ss_nil) (ss_cons (w1 := [.z, .z, .z]) (s_for (vs := [2]) (i_range1 (C.free 1) (a_cons (e_callB call_len cd_len (C.free 3) boot_len (a_cons (e_var 1) a_nil)) a_nil)) (g_name 2 (hN := S.nd)) (ss_cons (w1 := [.z, .z, .z]) (s_if (PW.pt (w_or (t_not (t_tru (e_call (ok__law_is_whole C) (hr.mono (by decide)) (takes_E rfl rfl rfl rfl) (a_cons (e_ix (e_var 0) (e_var 2)) a_nil)))) (w_or1 (t_cmp (op_neA hr.units) od_ne (e_ix (e_var 0) (e_var 2)) (e_ix (e_var 1) (e_var 2)))))) (ss_cons (w1 := [.z, .z, .z]) (s_ret e_bl) ss_nil) ss_nil) ss_nil) (passes_of rfl)) (ss_cons (w1 := [.z, .z, .z]) (s_ret e_bl) ss_nil)))
theorem ok__law_same_row (C : Ctx fa fn fb fm K mg) : Fn P wd K mg base 2 "_law_same_row" 2 [] f__law_same_row .z := by
  obtain ⟨fd, F⟩ := C.c.def_ 7 (d := d__law_same_row) rfl
  obtain ⟨us, hv, hb⟩ : ∃ us, Vals ([] : List V) us ∧ Binds K fd ["actual", "expected"] us := ⟨[], .nil, F.bindsN fun _ _ _ _ _ _ us hl => match us, hl with | [_, _], _ => rfl⟩
  exact ⟨⟨_, fd, ["actual", "expected"], [], us, C.glo 27, F.kp, hb, hv, fun _ => .nil, body__law_same_row C F⟩⟩
theorem sc__law_is_streets : FnScope ["streets", "slopes", "bases"] ["streets", "slopes", "bases"] (defScope st__law_is_streets) := ⟨rfl, rfl, rfl, by decide +kernel, rfl, by decide +kernel, by decide +kernel⟩
theorem body__law_is_streets (C : Ctx fa fn fb fm K mg) {fd : FuncData} {a : Addr} (F : FunD K (d__law_is_streets).name (d__law_is_streets).qual (d__law_is_streets).params (d__law_is_streets).body (d__law_is_streets).scope ((d__law_is_streets).dvs K) ((d__law_is_streets).kws K) a fd) : FnOk P wd K mg base (L2.CX P wd) 3 a fd ["streets", "slopes", "bases"] (spD K 3 f__law_is_streets .z) :=
  have S := sc__law_is_streets
  fn_ok (w := [.z, .z, .z]) (w1 := [.z, .z, .z]) F S rfl rfl fun cdv A outer s H E hr => (ss_cons (w1 := [.z, .z, .z]) (s_if (t_not (t_tru (e_isO [("Streets", true)] (C.glo 14) (C.free 15) (e_var 0) (List.forall_mem_cons.mpr ⟨C.ins 11 0, (List.forall_mem_nil _)⟩) (List.forall_mem_cons.mpr ⟨C.kit 1, (List.forall_mem_nil _)⟩)))) (ss_cons (w1 := [.z, .z, .z]) (s_ret e_bl) ss_nil) ss_nil) (ss_cons (w1 := [.z, .z, .z]) (s_ret (e_and (e_call (ok__law_same_row C) (hr.mono (by decide)) (takes_E rfl rfl rfl rfl) (a_cons (e_fld (e_var 0) (FldOk.cons (C.cls 11) (C.noat 12) FldOk.nil)) (a_cons (e_var 1) a_nil))) (e_one (e_call (ok__law_same_row C) (hr.mono (by decide)) (takes_E rfl rfl rfl rfl) (a_cons (e_fld (e_var 0) (FldOk.cons (C.cls 11) (C.noat 13) FldOk.nil)) (a_cons (e_var 2) a_nil)))))) ss_nil))
theorem ok__law_is_streets (C : Ctx fa fn fb fm K mg) : Fn P wd K mg base 3 "_law_is_streets" 3 [] f__law_is_streets .z := by
  obtain ⟨fd, F⟩ := C.c.def_ 8 (d := d__law_is_streets) rfl
  obtain ⟨us, hv, hb⟩ : ∃ us, Vals ([] : List V) us ∧ Binds K fd ["streets", "slopes", "bases"] us := ⟨[], .nil, F.bindsN fun _ _ _ _ _ _ us hl => match us, hl with | [_, _, _], _ => rfl⟩
  exact ⟨⟨_, fd, ["streets", "slopes", "bases"], [], us, C.glo 28, F.kp, hb, hv, fun _ => .nil, body__law_is_streets C F⟩⟩
theorem sc_lowest : FnScope ["a", "b", "common"] ["a", "b"] (defScope st_lowest) := ⟨rfl, rfl, rfl, by decide +kernel, rfl, by decide +kernel, by decide +kernel⟩
theorem body_lowest (C : Ctx fa fn fb fm K mg) {fd : FuncData} {a : Addr} (F : FunD K (d_lowest).name (d_lowest).qual (d_lowest).params (d_lowest).body (d_lowest).scope ((d_lowest).dvs K) ((d_lowest).kws K) a fd) : FnOk P wd K mg base (L2.CX P wd) 1 a fd ["a", "b"] (spD K 2 f_lowest .z) :=
  have S := sc_lowest
  fn_ok (w := [.z, .z, .z]) (w1 := [.z, .z, .z]) F S rfl rfl fun cdv A outer s H E hr => (ss_cons (w1 := [.z, .z, .z]) (s_set 2 (e_callM cr_gcd cd_gcd (C.blt 3) (a_cons (e_var 0) (a_cons (e_var 1) a_nil))) (hN := S.nd)) (ss_cons (w1 := [.z, .z, .z]) (s_if (t_cmp (OpR.rI0 op_lt) od_cmp (e_var 1) e_int) (ss_cons (w1 := [.z, .z, .z]) (s_set 2 (e_neg (e_var 2)) (hN := S.nd)) ss_nil) ss_nil) (ss_cons (w1 := [.z, .z, .z]) (s_ret (e_tup (a_cons (e_op op_divA od_div (e_var 0) (e_var 2)) (a_cons (e_op op_divA od_div (e_var 1) (e_var 2)) a_nil)))) ss_nil)))
theorem ok_lowest (C : Ctx fa fn fb fm K mg) : Fn P wd K mg base 1 "lowest" 2 [] f_lowest .z := by
  obtain ⟨fd, F⟩ := C.c.def_ 9 (d := d_lowest) rfl
  obtain ⟨us, hv, hb⟩ : ∃ us, Vals ([] : List V) us ∧ Binds K fd ["a", "b"] us := ⟨[], .nil, F.bindsN fun _ _ _ _ _ _ us hl => match us, hl with | [_, _], _ => rfl⟩
  exact ⟨⟨_, fd, ["a", "b"], [], us, C.glo 29, F.kp, hb, hv, fun _ => .nil, body_lowest C F⟩⟩
theorem sc_even_share : FnScope ["streets", "many", "common", "slope", "top", "below", "base", "amounts"] ["streets", "many"] (defScope st_even_share) := ⟨rfl, rfl, rfl, by decide +kernel, rfl, by decide +kernel, by decide +kernel⟩
theorem body_even_share (C : Ctx fa fn fb fm K mg) {fd : FuncData} {a : Addr} (F : FunD K (d_even_share).name (d_even_share).qual (d_even_share).params (d_even_share).body (d_even_share).scope ((d_even_share).dvs K) ((d_even_share).kws K) a fd) : FnOk P wd K mg base (L2.CX P wd) 2 a fd ["streets", "many"] (spD K 2 f_even_share .z) :=
  have S := sc_even_share
  fn_ok (w := [.z, .z, .z, .z, .z, .z, .z, .z]) (w1 := [.z, .z, .z, .z, .z, .z, .z, .z]) F S rfl rfl fun cdv A outer s H E hr => (ss_cons (w1 := [.z, .z, .z, .z, .z, .z, .z, .z]) (s_if (t_cmp (OpR.rI0 op_lt) od_cmp (e_var 1) e_int) (ss_cons (w1 := [.z, .z, .z, .z, .z, .z, .z, .z]) (s_raise (C.rse 7 8) (takes_E rfl rfl rfl rfl)) ss_nil) ss_nil) (ss_cons (w1 := [.z, .z, .z, .z, .z, .z, .z, .z]) (s_set 2 e_int (hN := S.nd)) (ss_cons (w1 := [.z, .z, .z, .z, .z, .z, .z, .z]) (s_for (vs := [3]) (i_seq (e_fld (e_var 0) (FldOk.cons (C.cls 11) (C.noat 12) FldOk.nil))) (g_name 3 (hN := S.nd)) (ss_cons (w1 := [.z, .z, .z, .z, .z, .z, .z, .z]) (s_set 2 (e_callM cr_lcm cd_lcm (C.blt 2) (a_cons (e_var 2) (a_cons (e_var 3) a_nil))) (hN := S.nd)) ss_nil) (passes_of rfl)) (ss_cons (w1 := [.z, .z, .z, .z, .z, .z, .z, .z]) (s_set 4 (e_op op_mulA od_mul (e_var 1) (e_var 2)) (hN := S.nd)) (ss_cons (w1 := [.z, .z, .z, .z, .z, .z, .z, .z]) (s_set 5 e_int (hN := S.nd)) (ss_cons (w1 := [.z, .z, .z, .z, .z, .z, .z, .z]) (s_for (vs := [6, 3]) (i_seq (e_fz (e_callB cr_sortedA cd_sorted (C.free 18) boot_sorted (a_cons (e_fz (e_lc [("base", 6), ("slope", 3)] (i_zip (C.free 17) (a_cons (e_fld (e_var 0) (FldOk.cons (C.cls 11) (C.noat 13) FldOk.nil)) (a_cons (e_fld (e_var 0) (FldOk.cons (C.cls 11) (C.noat 12) FldOk.nil)) a_nil))) (fun s6 H6 c6 cl6 fp6 => (g_tup (gs_cons (g_name 6 (hN := S.nd)) (gs_cons (g_name 3 (hN := S.nd)) gs_nil)))) (fun s6 H6 c6 cl6 fp6 => ts_nil) (fun s6 H6 c6 cl6 fp6 => (e_tup (a_cons (e_var 6) (a_cons (e_var 3) a_nil)))) (ok := by rfl) (hN := S.nd))) a_nil)))) (g_tup (gs_cons (g_name 6 (hN := S.nd)) (gs_cons (g_name 3 (hN := S.nd)) gs_nil))) (ss_cons (w1 := [.z, .z, .z, .z, .z, .z, .z, .z]) (s_if (PW.pt (w_and (t_cmp (OpR.rI0 op_gt) od_cmp (e_var 5) e_int) (w_and1 (t_cmp (OpR.rI0 op_ge) od_cmp (e_op op_mulA od_mul (e_var 6) (e_var 5)) (e_var 4))))) (ss_cons (w1 := [.z, .z, .z, .z, .z, .z, .z, .z]) s_brk ss_nil) ss_nil) (ss_cons (w1 := [.z, .z, .z, .z, .z, .z, .z, .z]) (s_set 4 (e_op op_addAll od_add (e_var 4) (e_op op_mulA od_mul (e_var 6) (e_op op_divA od_div (e_var 2) (e_var 3)))) (hN := S.nd)) (ss_cons (w1 := [.z, .z, .z, .z, .z, .z, .z, .z]) (s_set 5 (e_op op_addAll od_add (e_var 5) (e_op op_divA od_div (e_var 2) (e_var 3))) (hN := S.nd)) ss_nil))) (passes_of rfl)) (ss_cons (w1 := [.z, .z, .z, .z, .z, .z, .z, .l .z]) (s_set 7 (e_lst a_nil) (hN := S.nd)) (ss_cons (w1 := [.z, .z, .z, .z, .z, .z, .z, .l .z]) (s_for (vs := [3, 6]) (i_zip (C.free 17) (a_cons (e_fld (e_var 0) (FldOk.cons (C.cls 11) (C.noat 12) FldOk.nil)) (a_cons (e_fld (e_var 0) (FldOk.cons (C.cls 11) (C.noat 13) FldOk.nil)) a_nil))) (g_tup (gs_cons (g_name 3 (hN := S.nd)) (gs_cons (g_name 6 (hN := S.nd)) gs_nil))) (ss_cons (w1 := [.z, .z, .z, .z, .z, .z, .z, .l .z]) (s_app 7 (he := (e_call (ok_lowest C) (hr.mono (by decide)) (takes_E rfl rfl rfl rfl) (a_cons (e_callB (cr_maxA rfl) cd_max (C.free 4) boot_max (a_cons e_int (a_cons (e_op (OpR.rI0 op_sub) od_sub (e_var 4) (e_op op_mulA od_mul (e_var 6) (e_var 5))) a_nil))) (a_cons (e_op op_mulA od_mul (e_var 3) (e_var 5)) a_nil))))) ss_nil) (passes_of rfl)) (ss_cons (w1 := [.z, .z, .z, .z, .z, .z, .z, .z]) (s_ret (e_tup (a_cons (e_call (ok_lowest C) (hr.mono (by decide)) (takes_E rfl rfl rfl rfl) (a_cons (e_var 4) (a_cons (e_var 5) a_nil))) (a_cons (e_sol (w' := [.z, .z, .z, .z, .z, .z, .z, .z]) (e_callT call_tuple_of cd_tup (C.free 10) boot_tuple (a_cons (e_var 7) a_nil))) a_nil)))) ss_nil)))))))))
theorem ok_even_share (C : Ctx fa fn fb fm K mg) : Fn P wd K mg base 2 "even_share" 2 [] f_even_share .z := by
  obtain ⟨fd, F⟩ := C.c.def_ 10 (d := d_even_share) rfl
  obtain ⟨us, hv, hb⟩ : ∃ us, Vals ([] : List V) us ∧ Binds K fd ["streets", "many"] us := ⟨[], .nil, F.bindsN fun _ _ _ _ _ _ us hl => match us, hl with | [_, _], _ => rfl⟩
  exact ⟨⟨_, fd, ["streets", "many"], [], us, C.glo 30, F.kp, hb, hv, fun _ => .nil, body_even_share C F⟩⟩
theorem sc_best_share : FnScope ["streets", "many", "slope"] ["streets", "many"] (defScope st_best_share) := ⟨rfl, rfl, rfl, by decide +kernel, rfl, by decide +kernel, by decide +kernel⟩
theorem body_best_share (C : Ctx fa fn fb fm K mg) {fd : FuncData} {a : Addr} (F : FunD K (d_best_share).name (d_best_share).qual (d_best_share).params (d_best_share).body (d_best_share).scope ((d_best_share).dvs K) ((d_best_share).kws K) a fd) : FnOk P wd K mg base (L2.CX P wd) 3 a fd ["streets", "many"] (spD K 2 f_best_share .z) :=
  have S := sc_best_share
  fn_ok (w := [.z, .z, .z]) (w1 := [.z, .z, .z]) F S rfl rfl fun cdv A outer s H E hr => (ss_cons (w1 := [.z, .z, .z]) (s_ret (e_call (ok_even_share C) (hr.mono (by decide)) (takes_E rfl rfl rfl rfl) (a_cons (e_fz (e_make (ok_Streets_init C) (hr.mono (by decide)) (takes_E rfl rfl rfl rfl) (a_cons (e_fz (e_lc [("slope", 2)] (i_seq (e_fld (e_var 0) (FldOk.cons (C.cls 11) (C.noat 12) FldOk.nil))) (fun s4 H4 c4 cl4 fp4 => (g_name 2 (hN := S.nd))) (fun s4 H4 c4 cl4 fp4 => ts_nil) (fun s4 H4 c4 cl4 fp4 => (e_op op_mulA od_mul e_int (e_var 2))) (ok := by rfl) (hN := S.nd))) (a_cons (e_fld (e_var 0) (FldOk.cons (C.cls 11) (C.noat 13) FldOk.nil)) a_nil)))) (a_cons (e_var 1) a_nil)))) ss_nil)
theorem ok_best_share (C : Ctx fa fn fb fm K mg) : Fn P wd K mg base 3 "best_share" 2 [] f_best_share .z := by
  obtain ⟨fd, F⟩ := C.c.def_ 11 (d := d_best_share) rfl
  obtain ⟨us, hv, hb⟩ : ∃ us, Vals ([] : List V) us ∧ Binds K fd ["streets", "many"] us := ⟨[], .nil, F.bindsN fun _ _ _ _ _ _ us hl => match us, hl with | [_, _], _ => rfl⟩
  exact ⟨⟨_, fd, ["streets", "many"], [], us, C.glo 31, F.kp, hb, hv, fun _ => .nil, body_best_share C F⟩⟩
theorem sc__law_gcd : FnScope ["a", "b", "k", "left"] ["a", "b"] (defScope st__law_gcd) := ⟨rfl, rfl, rfl, by decide +kernel, rfl, by decide +kernel, by decide +kernel⟩
theorem body__law_gcd (C : Ctx fa fn fb fm K mg) {fd : FuncData} {a : Addr} (F : FunD K (d__law_gcd).name (d__law_gcd).qual (d__law_gcd).params (d__law_gcd).body (d__law_gcd).scope ((d__law_gcd).dvs K) ((d__law_gcd).kws K) a fd) : FnOk P wd K mg base (L2.CX P wd) 1 a fd ["a", "b"] (spD K 2 f__law_gcd .z) :=
  have S := sc__law_gcd
  fn_ok (w := [.z, .z, .z, .z]) (w1 := [.z, .z, .z, .z]) F S rfl rfl fun cdv A outer s H E hr => (ss_cons (w1 := [.z, .z, .z, .z]) (s_set 0 (e_callB call_abs cd_abs (C.free 0) boot_abs (a_cons (e_var 0) a_nil)) (hN := S.nd)) (ss_cons (w1 := [.z, .z, .z, .z]) (s_set 1 (e_callB call_abs cd_abs (C.free 0) boot_abs (a_cons (e_var 1) a_nil)) (hN := S.nd)) (ss_cons (w1 := [.z, .z, .z, .z]) (s_for (vs := [2]) (i_range1 (C.free 1) (a_cons e_int a_nil)) (g_name 2 (hN := S.nd)) (ss_cons (w1 := [.z, .z, .z, .z]) (s_if (t_cmp (op_eqA hr.units) od_eq (e_var 1) e_int) (ss_cons (w1 := [.z, .z, .z, .z]) (s_ret (e_var 0)) ss_nil) ss_nil) (ss_cons (w1 := [.z, .z, .z, .z]) (s_set 3 (e_op op_modA od_mod (e_callT call_int1 cd_int (C.free 2) boot_int (a_cons (e_var 0) a_nil)) (e_var 1)) (hN := S.nd)) (ss_cons (w1 := [.z, .z, .z, .z]) (s_set 0 (e_var 1) (hN := S.nd)) (ss_cons (w1 := [.z, .z, .z, .z]) (s_set 1 (e_var 3) (hN := S.nd)) ss_nil)))) (passes_of rfl)) (ss_cons (w1 := [.z, .z, .z, .z]) (s_ret (e_var 0)) ss_nil))))
theorem ok__law_gcd (C : Ctx fa fn fb fm K mg) : Fn P wd K mg base 1 "_law_gcd" 2 [] f__law_gcd .z := by
  obtain ⟨fd, F⟩ := C.c.def_ 12 (d := d__law_gcd) rfl
  obtain ⟨us, hv, hb⟩ : ∃ us, Vals ([] : List V) us ∧ Binds K fd ["a", "b"] us := ⟨[], .nil, F.bindsN fun _ _ _ _ _ _ us hl => match us, hl with | [_, _], _ => rfl⟩
  exact ⟨⟨_, fd, ["a", "b"], [], us, C.glo 32, F.kp, hb, hv, fun _ => .nil, body__law_gcd C F⟩⟩
theorem sc__law_is_exact : FnScope ["actual"] ["actual"] (defScope st__law_is_exact) := ⟨rfl, rfl, rfl, by decide +kernel, rfl, by decide +kernel, by decide +kernel⟩
theorem body__law_is_exact (C : Ctx fa fn fb fm K mg) {fd : FuncData} {a : Addr} (F : FunD K (d__law_is_exact).name (d__law_is_exact).qual (d__law_is_exact).params (d__law_is_exact).body (d__law_is_exact).scope ((d__law_is_exact).dvs K) ((d__law_is_exact).kws K) a fd) : FnOk P wd K mg base (L2.CX P wd) 2 a fd ["actual"] (spD K 1 f__law_is_exact .z) :=
  have S := sc__law_is_exact
  fn_ok (w := [.z]) (w1 := [.z]) F S rfl rfl fun cdv A outer s H E hr => (ss_cons (w1 := [.z]) (s_if (PW.pt (w_or (t_not (t_tru (e_isi .tuple boot_tuple (C.free 10) (C.free 15) (e_var 0)))) (w_or1 (t_cmp (op_neA hr.units) od_ne (e_callB call_len cd_len (C.free 3) boot_len (a_cons (e_var 0) a_nil)) e_int)))) (ss_cons (w1 := [.z]) (s_ret e_bl) ss_nil) ss_nil) (ss_cons (w1 := [.z]) (s_if (PW.pt (w_or (t_not (t_tru (e_call (ok__law_is_whole C) (hr.mono (by decide)) (takes_E rfl rfl rfl rfl) (a_cons (e_ix (e_var 0) e_int) a_nil)))) (w_or (t_not (t_tru (e_call (ok__law_is_whole C) (hr.mono (by decide)) (takes_E rfl rfl rfl rfl) (a_cons (e_ix (e_var 0) e_int) a_nil)))) (w_or1 (t_cmp (OpR.rI0 op_lt) od_cmp (e_ix (e_var 0) e_int) e_int))))) (ss_cons (w1 := [.z]) (s_ret e_bl) ss_nil) ss_nil) (ss_cons (w1 := [.z]) (s_ret (e_cmp (op_eqA hr.units) od_eq (e_call (ok__law_gcd C) (hr.mono (by decide)) (takes_E rfl rfl rfl rfl) (a_cons (e_ix (e_var 0) e_int) (a_cons (e_ix (e_var 0) e_int) a_nil))) e_int)) ss_nil)))
theorem ok__law_is_exact (C : Ctx fa fn fb fm K mg) : Fn P wd K mg base 2 "_law_is_exact" 1 [] f__law_is_exact .z := by
  obtain ⟨fd, F⟩ := C.c.def_ 13 (d := d__law_is_exact) rfl
  obtain ⟨us, hv, hb⟩ : ∃ us, Vals ([] : List V) us ∧ Binds K fd ["actual"] us := ⟨[], .nil, F.bindsN fun _ _ _ _ _ _ us hl => match us, hl with | [_], _ => rfl⟩
  exact ⟨⟨_, fd, ["actual"], [], us, C.glo 33, F.kp, hb, hv, fun _ => .nil, body__law_is_exact C F⟩⟩
theorem sc__law_plus : FnScope ["x", "y"] ["x", "y"] (defScope st__law_plus) := ⟨rfl, rfl, rfl, by decide +kernel, rfl, by decide +kernel, by decide +kernel⟩
theorem body__law_plus (C : Ctx fa fn fb fm K mg) {fd : FuncData} {a : Addr} (F : FunD K (d__law_plus).name (d__law_plus).qual (d__law_plus).params (d__law_plus).body (d__law_plus).scope ((d__law_plus).dvs K) ((d__law_plus).kws K) a fd) : FnOk P wd K mg base (L2.CX P wd) 1 a fd ["x", "y"] (spD K 2 f__law_plus .z) :=
  have S := sc__law_plus
  fn_ok (w := [.z, .z]) (w1 := [.z, .z]) F S rfl rfl fun cdv A outer s H E hr => (ss_cons (w1 := [.z, .z]) (s_if (t_cmp (op_eqA hr.units) od_eq (e_ix (e_var 0) e_int) (e_ix (e_var 1) e_int)) (ss_cons (w1 := [.z, .z]) (s_ret (e_tup (a_cons (e_op op_addAll od_add (e_ix (e_var 0) e_int) (e_ix (e_var 1) e_int)) (a_cons (e_ix (e_var 0) e_int) a_nil)))) ss_nil) ss_nil) (ss_cons (w1 := [.z, .z]) (s_ret (e_tup (a_cons (e_op op_addAll od_add (e_op op_mulA od_mul (e_ix (e_var 0) e_int) (e_ix (e_var 1) e_int)) (e_op op_mulA od_mul (e_ix (e_var 1) e_int) (e_ix (e_var 0) e_int))) (a_cons (e_op op_mulA od_mul (e_ix (e_var 0) e_int) (e_ix (e_var 1) e_int)) a_nil)))) ss_nil))
theorem ok__law_plus (C : Ctx fa fn fb fm K mg) : Fn P wd K mg base 1 "_law_plus" 2 [] f__law_plus .z := by
  obtain ⟨fd, F⟩ := C.c.def_ 14 (d := d__law_plus) rfl
  obtain ⟨us, hv, hb⟩ : ∃ us, Vals ([] : List V) us ∧ Binds K fd ["x", "y"] us := ⟨[], .nil, F.bindsN fun _ _ _ _ _ _ us hl => match us, hl with | [_, _], _ => rfl⟩
  exact ⟨⟨_, fd, ["x", "y"], [], us, C.glo 34, F.kp, hb, hv, fun _ => .nil, body__law_plus C F⟩⟩
theorem sc__law_equal : FnScope ["x", "y"] ["x", "y"] (defScope st__law_equal) := ⟨rfl, rfl, rfl, by decide +kernel, rfl, by decide +kernel, by decide +kernel⟩
theorem body__law_equal (C : Ctx fa fn fb fm K mg) {fd : FuncData} {a : Addr} (F : FunD K (d__law_equal).name (d__law_equal).qual (d__law_equal).params (d__law_equal).body (d__law_equal).scope ((d__law_equal).dvs K) ((d__law_equal).kws K) a fd) : FnOk P wd K mg base (L2.CX P wd) 1 a fd ["x", "y"] (spD K 2 f__law_equal .z) :=
  have S := sc__law_equal
  fn_ok (w := [.z, .z]) (w1 := [.z, .z]) F S rfl rfl fun cdv A outer s H E hr => (ss_cons (w1 := [.z, .z]) (s_ret (e_cmp (op_eqA hr.units) od_eq (e_op op_mulA od_mul (e_ix (e_var 0) e_int) (e_ix (e_var 1) e_int)) (e_op op_mulA od_mul (e_ix (e_var 1) e_int) (e_ix (e_var 0) e_int)))) ss_nil)
theorem ok__law_equal (C : Ctx fa fn fb fm K mg) : Fn P wd K mg base 1 "_law_equal" 2 [] f__law_equal .z := by
  obtain ⟨fd, F⟩ := C.c.def_ 15 (d := d__law_equal) rfl
  obtain ⟨us, hv, hb⟩ : ∃ us, Vals ([] : List V) us ∧ Binds K fd ["x", "y"] us := ⟨[], .nil, F.bindsN fun _ _ _ _ _ _ us hl => match us, hl with | [_, _], _ => rfl⟩
  exact ⟨⟨_, fd, ["x", "y"], [], us, C.glo 35, F.kp, hb, hv, fun _ => .nil, body__law_equal C F⟩⟩
theorem sc__law_is_share : FnScope ["told", "rows", "many", "factor", "level", "total", "k", "amount", "here", "row"] ["told", "rows", "many", "factor"] (defScope st__law_is_share) := ⟨rfl, rfl, rfl, by decide +kernel, rfl, by decide +kernel, by decide +kernel⟩
theorem body__law_is_share (C : Ctx fa fn fb fm K mg) {fd : FuncData} {a : Addr} (F : FunD K (d__law_is_share).name (d__law_is_share).qual (d__law_is_share).params (d__law_is_share).body (d__law_is_share).scope ((d__law_is_share).dvs K) ((d__law_is_share).kws K) a fd) : FnOk P wd K mg base (L2.CX P wd) 3 a fd ["told", "rows", "many", "factor"] (spD K 4 f__law_is_share .z) :=
  have S := sc__law_is_share
  fn_ok (w := [.z, .z, .z, .z, .z, .z, .z, .z, .z, .z]) (w1 := [.z, .z, .z, .z, .z, .z, .z, .z, .z, .z]) F S rfl rfl fun cdv A outer s H E hr => (ss_cons (w1 := [.z, .z, .z, .z, .z, .z, .z, .z, .z, .z]) (s_if (PW.pt (w_or (t_not (t_tru (e_isi .tuple boot_tuple (C.free 10) (C.free 15) (e_var 0)))) (w_or (t_cmp (op_neA hr.units) od_ne (e_callB call_len cd_len (C.free 3) boot_len (a_cons (e_var 0) a_nil)) e_int) (w_or1 (t_not (t_tru (e_call (ok__law_is_exact C) (hr.mono (by decide)) (takes_E rfl rfl rfl rfl) (a_cons (e_ix (e_var 0) e_int) a_nil)))))))) (ss_cons (w1 := [.z, .z, .z, .z, .z, .z, .z, .z, .z, .z]) (s_ret e_bl) ss_nil) ss_nil) (ss_cons (w1 := [.z, .z, .z, .z, .z, .z, .z, .z, .z, .z]) (s_set 4 (e_ix (e_var 0) e_int) (hN := S.nd)) (ss_cons (w1 := [.z, .z, .z, .z, .z, .z, .z, .z, .z, .z]) (s_if (PW.pt (w_or (t_not (t_tru (e_isi .tuple boot_tuple (C.free 10) (C.free 15) (e_ix (e_var 0) e_int)))) (w_or1 (t_cmp (op_neA hr.units) od_ne (e_callB call_len cd_len (C.free 3) boot_len (a_cons (e_ix (e_var 0) e_int) a_nil)) (e_callB call_len cd_len (C.free 3) boot_len (a_cons (e_var 1) a_nil)))))) (ss_cons (w1 := [.z, .z, .z, .z, .z, .z, .z, .z, .z, .z]) (s_ret e_bl) ss_nil) ss_nil) (ss_cons (w1 := [.z, .z, .z, .z, .z, .z, .z, .z, .z, .z]) (s_set 5 (e_tup (a_cons e_int (a_cons e_int a_nil))) (hN := S.nd)) (ss_cons (w1 := [.z, .z, .z, .z, .z, .z, .z, .z, .z, .z]) (s_for (vs := [6]) (i_range1 (C.free 1) (a_cons (e_callB call_len cd_len (C.free 3) boot_len (a_cons (e_var 1) a_nil)) a_nil)) (g_name 6 (hN := S.nd)) (ss_cons (w1 := [.z, .z, .z, .z, .z, .z, .z, .z, .z, .z]) (s_set 7 (e_ix (e_ix (e_var 0) e_int) (e_var 6)) (hN := S.nd)) (ss_cons (w1 := [.z, .z, .z, .z, .z, .z, .z, .z, .z, .z]) (s_if (PW.pt (w_or (t_not (t_tru (e_call (ok__law_is_exact C) (hr.mono (by decide)) (takes_E rfl rfl rfl rfl) (a_cons (e_var 7) a_nil)))) (w_or1 (t_cmp (OpR.rI0 op_lt) od_cmp (e_ix (e_var 7) e_int) e_int)))) (ss_cons (w1 := [.z, .z, .z, .z, .z, .z, .z, .z, .z, .z]) (s_ret e_bl) ss_nil) ss_nil) (ss_cons (w1 := [.z, .z, .z, .z, .z, .z, .z, .z, .z, .z]) (s_set 5 (e_call (ok__law_plus C) (hr.mono (by decide)) (takes_E rfl rfl rfl rfl) (a_cons (e_var 5) (a_cons (e_var 7) a_nil))) (hN := S.nd)) (ss_cons (w1 := [.z, .z, .z, .z, .z, .z, .z, .z, .z, .z]) (s_set 8 (e_tup (a_cons (e_op op_addAll od_add (e_op op_mulA od_mul (e_op op_mulA od_mul (e_var 3) (e_ix (e_ix (e_var 1) (e_var 6)) e_int)) (e_ix (e_var 7) e_int)) (e_op op_mulA od_mul (e_ix (e_ix (e_var 1) (e_var 6)) e_int) (e_ix (e_var 7) e_int))) (a_cons (e_ix (e_var 7) e_int) a_nil))) (hN := S.nd)) (ss_cons (w1 := [.z, .z, .z, .z, .z, .z, .z, .z, .z, .z]) (s_if (PW.pt (w_and (t_cmp (OpR.rI0 op_gt) od_cmp (e_ix (e_var 7) e_int) e_int) (w_and1 (t_not (t_tru (e_call (ok__law_equal C) (hr.mono (by decide)) (takes_E rfl rfl rfl rfl) (a_cons (e_var 8) (a_cons (e_var 4) a_nil)))))))) (ss_cons (w1 := [.z, .z, .z, .z, .z, .z, .z, .z, .z, .z]) (s_ret e_bl) ss_nil) ss_nil) (ss_cons (w1 := [.z, .z, .z, .z, .z, .z, .z, .z, .z, .z]) (s_if (t_cmp (OpR.rI0 op_lt) od_cmp (e_op op_mulA od_mul (e_ix (e_var 8) e_int) (e_ix (e_var 4) e_int)) (e_op op_mulA od_mul (e_ix (e_var 4) e_int) (e_ix (e_var 8) e_int))) (ss_cons (w1 := [.z, .z, .z, .z, .z, .z, .z, .z, .z, .z]) (s_ret e_bl) ss_nil) ss_nil) ss_nil)))))) (passes_of rfl)) (ss_cons (w1 := [.z, .z, .z, .z, .z, .z, .z, .z, .z, .z]) (s_if (PW.pt (w_and (t_cmp (op_eqA hr.units) od_eq (e_var 2) e_int) (w_and1 (t_not (t_tru (e_call (ok__law_equal C) (hr.mono (by decide)) (takes_E rfl rfl rfl rfl) (a_cons (e_var 4) (a_cons (e_tup (a_cons (e_callB (cr_minA rfl) cd_min (C.free 6) boot_min (a_cons (e_fz (e_lc [("row", 9)] (i_seq (e_var 1)) (fun s4 H4 c4 cl4 fp4 => (g_name 9 (hN := S.nd))) (fun s4 H4 c4 cl4 fp4 => ts_nil) (fun s4 H4 c4 cl4 fp4 => (e_ix (e_var 9) e_int)) (ok := by rfl) (hN := S.nd))) a_nil)) (a_cons e_int a_nil))) a_nil)))))))) (ss_cons (w1 := [.z, .z, .z, .z, .z, .z, .z, .z, .z, .z]) (s_ret e_bl) ss_nil) ss_nil) (ss_cons (w1 := [.z, .z, .z, .z, .z, .z, .z, .z, .z, .z]) (s_ret (e_call (ok__law_equal C) (hr.mono (by decide)) (takes_E rfl rfl rfl rfl) (a_cons (e_var 5) (a_cons (e_tup (a_cons (e_var 2) (a_cons e_int a_nil))) a_nil)))) ss_nil)))))))
theorem ok__law_is_share (C : Ctx fa fn fb fm K mg) : Fn P wd K mg base 3 "_law_is_share" 4 [] f__law_is_share .z := by
  obtain ⟨fd, F⟩ := C.c.def_ 16 (d := d__law_is_share) rfl
  obtain ⟨us, hv, hb⟩ : ∃ us, Vals ([] : List V) us ∧ Binds K fd ["told", "rows", "many", "factor"] us := ⟨[], .nil, F.bindsN fun _ _ _ _ _ _ us hl => match us, hl with | [_, _, _, _], _ => rfl⟩
  exact ⟨⟨_, fd, ["told", "rows", "many", "factor"], [], us, C.glo 36, F.kp, hb, hv, fun _ => .nil, body__law_is_share C F⟩⟩
theorem sc_added : FnScope ["x", "y"] ["x", "y"] (defScope st_added) := ⟨rfl, rfl, rfl, by decide +kernel, rfl, by decide +kernel, by decide +kernel⟩
theorem body_added (C : Ctx fa fn fb fm K mg) {fd : FuncData} {a : Addr} (F : FunD K (d_added).name (d_added).qual (d_added).params (d_added).body (d_added).scope ((d_added).dvs K) ((d_added).kws K) a fd) : FnOk P wd K mg base (L2.CX P wd) 2 a fd ["x", "y"] (spD K 2 f_added .z) :=
  have S := sc_added
  fn_ok (w := [.z, .z]) (w1 := [.z, .z]) F S rfl rfl fun cdv A outer s H E hr => (ss_cons (w1 := [.z, .z]) (s_ret (e_call (ok_lowest C) (hr.mono (by decide)) (takes_E rfl rfl rfl rfl) (a_cons (e_op op_addAll od_add (e_op op_mulA od_mul (e_ix (e_var 0) e_int) (e_ix (e_var 1) e_int)) (e_op op_mulA od_mul (e_ix (e_var 1) e_int) (e_ix (e_var 0) e_int))) (a_cons (e_op op_mulA od_mul (e_ix (e_var 0) e_int) (e_ix (e_var 1) e_int)) a_nil)))) ss_nil)
theorem ok_added (C : Ctx fa fn fb fm K mg) : Fn P wd K mg base 2 "added" 2 [] f_added .z := by
  obtain ⟨fd, F⟩ := C.c.def_ 17 (d := d_added) rfl
  obtain ⟨us, hv, hb⟩ : ∃ us, Vals ([] : List V) us ∧ Binds K fd ["x", "y"] us := ⟨[], .nil, F.bindsN fun _ _ _ _ _ _ us hl => match us, hl with | [_, _], _ => rfl⟩
  exact ⟨⟨_, fd, ["x", "y"], [], us, C.glo 37, F.kp, hb, hv, fun _ => .nil, body_added C F⟩⟩
theorem sc_times : FnScope ["x", "y"] ["x", "y"] (defScope st_times) := ⟨rfl, rfl, rfl, by decide +kernel, rfl, by decide +kernel, by decide +kernel⟩
theorem body_times (C : Ctx fa fn fb fm K mg) {fd : FuncData} {a : Addr} (F : FunD K (d_times).name (d_times).qual (d_times).params (d_times).body (d_times).scope ((d_times).dvs K) ((d_times).kws K) a fd) : FnOk P wd K mg base (L2.CX P wd) 2 a fd ["x", "y"] (spD K 2 f_times .z) :=
  have S := sc_times
  fn_ok (w := [.z, .z]) (w1 := [.z, .z]) F S rfl rfl fun cdv A outer s H E hr => (ss_cons (w1 := [.z, .z]) (s_ret (e_call (ok_lowest C) (hr.mono (by decide)) (takes_E rfl rfl rfl rfl) (a_cons (e_op op_mulA od_mul (e_ix (e_var 0) e_int) (e_ix (e_var 1) e_int)) (a_cons (e_op op_mulA od_mul (e_ix (e_var 0) e_int) (e_ix (e_var 1) e_int)) a_nil)))) ss_nil)
theorem ok_times (C : Ctx fa fn fb fm K mg) : Fn P wd K mg base 2 "times" 2 [] f_times .z := by
  obtain ⟨fd, F⟩ := C.c.def_ 18 (d := d_times) rfl
  obtain ⟨us, hv, hb⟩ : ∃ us, Vals ([] : List V) us ∧ Binds K fd ["x", "y"] us := ⟨[], .nil, F.bindsN fun _ _ _ _ _ _ us hl => match us, hl with | [_, _], _ => rfl⟩
  exact ⟨⟨_, fd, ["x", "y"], [], us, C.glo 38, F.kp, hb, hv, fun _ => .nil, body_times C F⟩⟩
theorem sc_crowd_cost : FnScope ["streets", "amounts", "total", "slope", "base", "amount", "price"] ["streets", "amounts"] (defScope st_crowd_cost) := ⟨rfl, rfl, rfl, by decide +kernel, rfl, by decide +kernel, by decide +kernel⟩
theorem body_crowd_cost (C : Ctx fa fn fb fm K mg) {fd : FuncData} {a : Addr} (F : FunD K (d_crowd_cost).name (d_crowd_cost).qual (d_crowd_cost).params (d_crowd_cost).body (d_crowd_cost).scope ((d_crowd_cost).dvs K) ((d_crowd_cost).kws K) a fd) : FnOk P wd K mg base (L2.CX P wd) 3 a fd ["streets", "amounts"] (spD K 2 f_crowd_cost .z) :=
  have S := sc_crowd_cost
  fn_ok (w := [.z, .z, .z, .z, .z, .z, .z]) (w1 := [.z, .z, .z, .z, .z, .z, .z]) F S rfl rfl fun cdv A outer s H E hr => (ss_cons (w1 := [.z, .z, .z, .z, .z, .z, .z]) (s_if (t_cmp (op_neA hr.units) od_ne (e_callB call_len cd_len (C.free 3) boot_len (a_cons (e_var 1) a_nil)) (e_callB call_len cd_len (C.free 3) boot_len (a_cons (e_fld (e_var 0) (FldOk.cons (C.cls 11) (C.noat 12) FldOk.nil)) a_nil))) (ss_cons (w1 := [.z, .z, .z, .z, .z, .z, .z]) (s_raise (C.rse 7 8) (takes_E rfl rfl rfl rfl)) ss_nil) ss_nil) (ss_cons (w1 := [.z, .z, .z, .z, .z, .z, .z]) (s_set 2 (e_tup (a_cons e_int (a_cons e_int a_nil))) (hN := S.nd)) (ss_cons (w1 := [.z, .z, .z, .z, .z, .z, .z]) (s_for (vs := [3, 4, 5]) (i_zip3 (C.free 17) (a_cons (e_fld (e_var 0) (FldOk.cons (C.cls 11) (C.noat 12) FldOk.nil)) (a_cons (e_fld (e_var 0) (FldOk.cons (C.cls 11) (C.noat 13) FldOk.nil)) (a_cons (e_var 1) a_nil)))) (g_tup (gs_cons (g_name 3 (hN := S.nd)) (gs_cons (g_name 4 (hN := S.nd)) (gs_cons (g_name 5 (hN := S.nd)) gs_nil)))) (ss_cons (w1 := [.z, .z, .z, .z, .z, .z, .z]) (s_set 6 (e_call (ok_added C) (hr.mono (by decide)) (takes_E rfl rfl rfl rfl) (a_cons (e_call (ok_times C) (hr.mono (by decide)) (takes_E rfl rfl rfl rfl) (a_cons (e_tup (a_cons (e_var 3) (a_cons e_int a_nil))) (a_cons (e_var 5) a_nil))) (a_cons (e_tup (a_cons (e_var 4) (a_cons e_int a_nil))) a_nil))) (hN := S.nd)) (ss_cons (w1 := [.z, .z, .z, .z, .z, .z, .z]) (s_set 2 (e_call (ok_added C) (hr.mono (by decide)) (takes_E rfl rfl rfl rfl) (a_cons (e_var 2) (a_cons (e_call (ok_times C) (hr.mono (by decide)) (takes_E rfl rfl rfl rfl) (a_cons (e_var 6) (a_cons (e_var 5) a_nil))) a_nil))) (hN := S.nd)) ss_nil)) (passes_of rfl)) (ss_cons (w1 := [.z, .z, .z, .z, .z, .z, .z]) (s_ret (e_var 2)) ss_nil))))
theorem ok_crowd_cost (C : Ctx fa fn fb fm K mg) : Fn P wd K mg base 3 "crowd_cost" 2 [] f_crowd_cost .z := by
  obtain ⟨fd, F⟩ := C.c.def_ 19 (d := d_crowd_cost) rfl
  obtain ⟨us, hv, hb⟩ : ∃ us, Vals ([] : List V) us ∧ Binds K fd ["streets", "amounts"] us := ⟨[], .nil, F.bindsN fun _ _ _ _ _ _ us hl => match us, hl with | [_, _], _ => rfl⟩
  exact ⟨⟨_, fd, ["streets", "amounts"], [], us, C.glo 39, F.kp, hb, hv, fun _ => .nil, body_crowd_cost C F⟩⟩
theorem sc__law_cost : FnScope ["rows", "amounts", "total", "k", "x"] ["rows", "amounts"] (defScope st__law_cost) := ⟨rfl, rfl, rfl, by decide +kernel, rfl, by decide +kernel, by decide +kernel⟩
theorem body__law_cost (C : Ctx fa fn fb fm K mg) {fd : FuncData} {a : Addr} (F : FunD K (d__law_cost).name (d__law_cost).qual (d__law_cost).params (d__law_cost).body (d__law_cost).scope ((d__law_cost).dvs K) ((d__law_cost).kws K) a fd) : FnOk P wd K mg base (L2.CX P wd) 2 a fd ["rows", "amounts"] (spD K 2 f__law_cost .z) :=
  have S := sc__law_cost
  fn_ok (w := [.z, .z, .z, .z, .z]) (w1 := [.z, .z, .z, .z, .z]) F S rfl rfl fun cdv A outer s H E hr => (ss_cons (w1 := [.z, .z, .z, .z, .z]) (s_set 2 (e_tup (a_cons e_int (a_cons e_int a_nil))) (hN := S.nd)) (ss_cons (w1 := [.z, .z, .z, .z, .z]) (s_for (vs := [3]) (i_range1 (C.free 1) (a_cons (e_callB call_len cd_len (C.free 3) boot_len (a_cons (e_var 0) a_nil)) a_nil)) (g_name 3 (hN := S.nd)) (ss_cons (w1 := [.z, .z, .z, .z, .z]) (s_set 4 (e_ix (e_var 1) (e_var 3)) (hN := S.nd)) (ss_cons (w1 := [.z, .z, .z, .z, .z]) (s_set 2 (e_call (ok__law_plus C) (hr.mono (by decide)) (takes_E rfl rfl rfl rfl) (a_cons (e_var 2) (a_cons (e_tup (a_cons (e_op op_mulA od_mul (e_op op_addAll od_add (e_op op_mulA od_mul (e_ix (e_ix (e_var 0) (e_var 3)) e_int) (e_ix (e_var 4) e_int)) (e_op op_mulA od_mul (e_ix (e_ix (e_var 0) (e_var 3)) e_int) (e_ix (e_var 4) e_int))) (e_ix (e_var 4) e_int)) (a_cons (e_op op_mulA od_mul (e_ix (e_var 4) e_int) (e_ix (e_var 4) e_int)) a_nil))) a_nil))) (hN := S.nd)) ss_nil)) (passes_of rfl)) (ss_cons (w1 := [.z, .z, .z, .z, .z]) (s_ret (e_var 2)) ss_nil)))
theorem ok__law_cost (C : Ctx fa fn fb fm K mg) : Fn P wd K mg base 2 "_law_cost" 2 [] f__law_cost .z := by
  obtain ⟨fd, F⟩ := C.c.def_ 20 (d := d__law_cost) rfl
  obtain ⟨us, hv, hb⟩ : ∃ us, Vals ([] : List V) us ∧ Binds K fd ["rows", "amounts"] us := ⟨[], .nil, F.bindsN fun _ _ _ _ _ _ us hl => match us, hl with | [_, _], _ => rfl⟩
  exact ⟨⟨_, fd, ["rows", "amounts"], [], us, C.glo 40, F.kp, hb, hv, fun _ => .nil, body__law_cost C F⟩⟩
theorem sc__law_is_cost : FnScope ["told", "rows", "amounts"] ["told", "rows", "amounts"] (defScope st__law_is_cost) := ⟨rfl, rfl, rfl, by decide +kernel, rfl, by decide +kernel, by decide +kernel⟩
theorem body__law_is_cost (C : Ctx fa fn fb fm K mg) {fd : FuncData} {a : Addr} (F : FunD K (d__law_is_cost).name (d__law_is_cost).qual (d__law_is_cost).params (d__law_is_cost).body (d__law_is_cost).scope ((d__law_is_cost).dvs K) ((d__law_is_cost).kws K) a fd) : FnOk P wd K mg base (L2.CX P wd) 3 a fd ["told", "rows", "amounts"] (spD K 3 f__law_is_cost .z) :=
  have S := sc__law_is_cost
  fn_ok (w := [.z, .z, .z]) (w1 := [.z, .z, .z]) F S rfl rfl fun cdv A outer s H E hr => (ss_cons (w1 := [.z, .z, .z]) (s_ret (e_and (e_call (ok__law_is_exact C) (hr.mono (by decide)) (takes_E rfl rfl rfl rfl) (a_cons (e_var 0) a_nil)) (e_one (e_call (ok__law_equal C) (hr.mono (by decide)) (takes_E rfl rfl rfl rfl) (a_cons (e_var 0) (a_cons (e_call (ok__law_cost C) (hr.mono (by decide)) (takes_E rfl rfl rfl rfl) (a_cons (e_var 1) (a_cons (e_var 2) a_nil))) a_nil)))))) ss_nil)
theorem ok__law_is_cost (C : Ctx fa fn fb fm K mg) : Fn P wd K mg base 3 "_law_is_cost" 3 [] f__law_is_cost .z := by
  obtain ⟨fd, F⟩ := C.c.def_ 21 (d := d__law_is_cost) rfl
  obtain ⟨us, hv, hb⟩ : ∃ us, Vals ([] : List V) us ∧ Binds K fd ["told", "rows", "amounts"] us := ⟨[], .nil, F.bindsN fun _ _ _ _ _ _ us hl => match us, hl with | [_, _, _], _ => rfl⟩
  exact ⟨⟨_, fd, ["told", "rows", "amounts"], [], us, C.glo 41, F.kp, hb, hv, fun _ => .nil, body__law_is_cost C F⟩⟩
theorem sc__law_shares : FnScope ["rows", "many", "best", "numbers", "weights", "k", "first", "common", "second", "here", "there", "part"] ["rows", "many", "best", "numbers"] (defScope st__law_shares) := ⟨rfl, rfl, rfl, by decide +kernel, rfl, by decide +kernel, by decide +kernel⟩
theorem body__law_shares (C : Ctx fa fn fb fm K mg) {fd : FuncData} {a : Addr} (F : FunD K (d__law_shares).name (d__law_shares).qual (d__law_shares).params (d__law_shares).body (d__law_shares).scope ((d__law_shares).dvs K) ((d__law_shares).kws K) a fd) : FnOk P wd K mg base (L2.CX P wd) 2 a fd ["rows", "many", "best", "numbers"] (spD K 4 f__law_shares .z) :=
  have S := sc__law_shares
  fn_ok (w := [.z, .z, .z, .z, .z, .z, .z, .z, .z, .z, .z, .z]) (w1 := [.z, .z, .z, .z, .z, .z, .z, .z, .z, .z, .z, .z]) F S rfl rfl fun cdv A outer s H E hr => (ss_cons (w1 := [.z, .z, .z, .z, .z, .z, .z, .z, .z, .z, .z, .z]) (s_setLcz 4 [("k", 5)] (i_range1 (C.free 1) (a_cons (e_callB call_len cd_len (C.free 3) boot_len (a_cons (e_var 0) a_nil)) a_nil)) (fun s8 H8 c8 cl8 fp8 => (g_name 5 (hN := S.nd))) (fun s8 H8 c8 cl8 fp8 => ts_nil) (fun s8 H8 c8 cl8 fp8 => (e_op op_addAll od_add e_int (e_op op_modA od_mod (e_callT call_int1 cd_int (C.free 2) boot_int (a_cons (e_ix (e_var 3) (e_op op_addAll od_add e_int (e_var 5))) a_nil)) e_int))) (ok := by rfl) (hN := S.nd)) (ss_cons (w1 := [.z, .z, .z, .z, .z, .z, .l .z, .z, .z, .z, .z, .z]) (s_set 6 (e_lst a_nil) (hN := S.nd)) (ss_cons (w1 := [.z, .z, .z, .z, .z, .z, .l .z, .z, .z, .z, .z, .z]) (s_for (vs := [5]) (i_range1 (C.free 1) (a_cons (e_callB call_len cd_len (C.free 3) boot_len (a_cons (e_var 0) a_nil)) a_nil)) (g_name 5 (hN := S.nd)) (ss_cons (w1 := [.z, .z, .z, .z, .z, .z, .l .z, .z, .z, .z, .z, .z]) (s_set 7 (e_call (ok__law_gcd C) (hr.mono (by decide)) (takes_E rfl rfl rfl rfl) (a_cons (e_op op_mulA od_mul (e_var 1) (e_ix (e_var 4) (e_var 5))) (a_cons (e_callB (cr_sum rfl) cd_sum (C.free 19) boot_sum (a_cons (e_var 4) a_nil)) a_nil))) (hN := S.nd)) (ss_cons (w1 := [.z, .z, .z, .z, .z, .z, .l .z, .z, .z, .z, .z, .z]) (s_app 6 (he := (e_tup (a_cons (e_op op_divA od_div (e_op op_mulA od_mul (e_var 1) (e_ix (e_var 4) (e_var 5))) (e_var 7)) (a_cons (e_op op_divA od_div (e_callB (cr_sum rfl) cd_sum (C.free 19) boot_sum (a_cons (e_var 4) a_nil)) (e_var 7)) a_nil))))) ss_nil)) (passes_of rfl)) (ss_cons (w1 := [.z, .z, .z, .z, .z, .z, .l .z, .z, .l .z, .z, .z, .z]) (s_set 8 (e_callT call_list_of cd_lst (C.free 5) boot_list (a_cons (e_var 2) a_nil)) (hN := S.nd)) (ss_cons (w1 := [.z, .z, .z, .z, .z, .z, .l .z, .z, .l .z, .z, .z, .z]) (s_set 9 (e_op op_modA od_mod (e_callT call_int1 cd_int (C.free 2) boot_int (a_cons (e_ix (e_var 3) e_int) a_nil)) (e_callB call_len cd_len (C.free 3) boot_len (a_cons (e_var 0) a_nil))) (hN := S.nd)) (ss_cons (w1 := [.z, .z, .z, .z, .z, .z, .l .z, .z, .l .z, .z, .z, .z]) (s_set 10 (e_op op_modA od_mod (e_callT call_int1 cd_int (C.free 2) boot_int (a_cons (e_ix (e_var 3) e_int) a_nil)) (e_callB call_len cd_len (C.free 3) boot_len (a_cons (e_var 0) a_nil))) (hN := S.nd)) (ss_cons (w1 := [.z, .z, .z, .z, .z, .z, .l .z, .z, .l .z, .z, .z, .z]) (s_if (t_cmp (op_neA hr.units) od_ne (e_var 9) (e_var 10)) (ss_cons (w1 := [.z, .z, .z, .z, .z, .z, .l .z, .z, .l .z, .z, .z, .z]) (s_set 11 (e_op op_addAll od_add e_int (e_op op_modA od_mod (e_callT call_int1 cd_int (C.free 2) boot_int (a_cons (e_ix (e_var 3) e_int) a_nil)) e_int)) (hN := S.nd)) (ss_cons (w1 := [.z, .z, .z, .z, .z, .z, .l .z, .z, .l .z, .z, .z, .z]) (s_put 8 (he := (e_tup (a_cons (e_op op_mulA od_mul (e_ix (e_ix (e_var 2) (e_var 9)) e_int) (e_op (OpR.rI0 op_sub) od_sub (e_var 11) e_int)) (a_cons (e_op op_mulA od_mul (e_ix (e_ix (e_var 2) (e_var 9)) e_int) (e_var 11)) a_nil)))) (hx := (e_var 9))) (ss_cons (w1 := [.z, .z, .z, .z, .z, .z, .l .z, .z, .l .z, .z, .z, .z]) (s_put 8 (he := (e_call (ok__law_plus C) (hr.mono (by decide)) (takes_E rfl rfl rfl rfl) (a_cons (e_ix (e_var 2) (e_var 10)) (a_cons (e_tup (a_cons (e_ix (e_ix (e_var 2) (e_var 9)) e_int) (a_cons (e_op op_mulA od_mul (e_ix (e_ix (e_var 2) (e_var 9)) e_int) (e_var 11)) a_nil))) a_nil)))) (hx := (e_var 10))) ss_nil))) ss_nil) (ss_cons (w1 := [.z, .z, .z, .z, .z, .z, .l .z, .z, .l .z, .z, .z, .z]) (s_for (vs := [5]) (i_range1 (C.free 1) (a_cons (e_callB call_len cd_len (C.free 3) boot_len (a_cons (e_var 0) a_nil)) a_nil)) (g_name 5 (hN := S.nd)) (ss_cons (w1 := [.z, .z, .z, .z, .z, .z, .l .z, .z, .l .z, .z, .z, .z]) (s_set 7 (e_call (ok__law_gcd C) (hr.mono (by decide)) (takes_E rfl rfl rfl rfl) (a_cons (e_ix (e_ixO 8 (e_var 5)) e_int) (a_cons (e_ix (e_ixO 8 (e_var 5)) e_int) a_nil))) (hN := S.nd)) (ss_cons (w1 := [.z, .z, .z, .z, .z, .z, .l .z, .z, .l .z, .z, .z, .z]) (s_put 8 (he := (e_tup (a_cons (e_op op_divA od_div (e_ix (e_ixO 8 (e_var 5)) e_int) (e_var 7)) (a_cons (e_op op_divA od_div (e_ix (e_ixO 8 (e_var 5)) e_int) (e_var 7)) a_nil)))) (hx := (e_var 5))) ss_nil)) (passes_of rfl)) (ss_fz (w' := [.z, .z, .z, .z, .z, .z, .z, .z, .l .z, .z, .z, .z]) (ss_fz (w' := [.z, .z, .z, .z, .z, .z, .z, .z, .z, .z, .z, .z]) (ss_cons (w1 := [.z, .z, .z, .z, .z, .z, .z, .z, .z, .z, .z, .z]) (s_ret (e_fz (e_lst (a_cons (e_var 6) (a_cons (e_var 8) a_nil))))) ss_nil)))))))))))
theorem ok__law_shares (C : Ctx fa fn fb fm K mg) : Fn P wd K mg base 2 "_law_shares" 4 [] f__law_shares .z := by
  obtain ⟨fd, F⟩ := C.c.def_ 22 (d := d__law_shares) rfl
  obtain ⟨us, hv, hb⟩ : ∃ us, Vals ([] : List V) us ∧ Binds K fd ["rows", "many", "best", "numbers"] us := ⟨[], .nil, F.bindsN fun _ _ _ _ _ _ us hl => match us, hl with | [_, _, _, _], _ => rfl⟩
  exact ⟨⟨_, fd, ["rows", "many", "best", "numbers"], [], us, C.glo 42, F.kp, hb, hv, fun _ => .nil, body__law_shares C F⟩⟩
theorem sc_crowd_dearness : FnScope ["streets", "many", "even", "best"] ["streets", "many"] (defScope st_crowd_dearness) := ⟨rfl, rfl, rfl, by decide +kernel, rfl, by decide +kernel, by decide +kernel⟩
theorem body_crowd_dearness (C : Ctx fa fn fb fm K mg) {fd : FuncData} {a : Addr} (F : FunD K (d_crowd_dearness).name (d_crowd_dearness).qual (d_crowd_dearness).params (d_crowd_dearness).body (d_crowd_dearness).scope ((d_crowd_dearness).dvs K) ((d_crowd_dearness).kws K) a fd) : FnOk P wd K mg base (L2.CX P wd) 4 a fd ["streets", "many"] (spD K 2 f_crowd_dearness .z) :=
  have S := sc_crowd_dearness
  fn_ok (w := [.z, .z, .z, .z]) (w1 := [.z, .z, .z, .z]) F S rfl rfl fun cdv A outer s H E hr => (ss_cons (w1 := [.z, .z, .z, .z]) (s_set 2 (e_call (ok_crowd_cost C) (hr.mono (by decide)) (takes_E rfl rfl rfl rfl) (a_cons (e_var 0) (a_cons (e_ix (e_call (ok_even_share C) (hr.mono (by decide)) (takes_E rfl rfl rfl rfl) (a_cons (e_var 0) (a_cons (e_var 1) a_nil))) e_int) a_nil))) (hN := S.nd)) (ss_cons (w1 := [.z, .z, .z, .z]) (s_set 3 (e_call (ok_crowd_cost C) (hr.mono (by decide)) (takes_E rfl rfl rfl rfl) (a_cons (e_var 0) (a_cons (e_ix (e_call (ok_best_share C) (hr.mono (by decide)) (takes_E rfl rfl rfl rfl) (a_cons (e_var 0) (a_cons (e_var 1) a_nil))) e_int) a_nil))) (hN := S.nd)) (ss_cons (w1 := [.z, .z, .z, .z]) (s_if (t_cmp (op_eqA hr.units) od_eq (e_var 1) e_int) (ss_cons (w1 := [.z, .z, .z, .z]) (s_ret (e_tup (a_cons e_int (a_cons e_int a_nil)))) ss_nil) ss_nil) (ss_cons (w1 := [.z, .z, .z, .z]) (s_ret (e_call (ok_times C) (hr.mono (by decide)) (takes_E rfl rfl rfl rfl) (a_cons (e_var 2) (a_cons (e_tup (a_cons (e_ix (e_var 3) e_int) (a_cons (e_ix (e_var 3) e_int) a_nil))) a_nil)))) ss_nil))))
theorem ok_crowd_dearness (C : Ctx fa fn fb fm K mg) : Fn P wd K mg base 4 "crowd_dearness" 2 [] f_crowd_dearness .z := by
  obtain ⟨fd, F⟩ := C.c.def_ 23 (d := d_crowd_dearness) rfl
  obtain ⟨us, hv, hb⟩ : ∃ us, Vals ([] : List V) us ∧ Binds K fd ["streets", "many"] us := ⟨[], .nil, F.bindsN fun _ _ _ _ _ _ us hl => match us, hl with | [_, _], _ => rfl⟩
  exact ⟨⟨_, fd, ["streets", "many"], [], us, C.glo 43, F.kp, hb, hv, fun _ => .nil, body_crowd_dearness C F⟩⟩
theorem sc__law_costs : FnScope ["streets", "rows", "many", "even", "best", "numbers", "told", "least", "amounts"] ["streets", "rows", "many", "even", "best", "numbers"] (defScope st__law_costs) := ⟨rfl, rfl, rfl, by decide +kernel, rfl, by decide +kernel, by decide +kernel⟩
theorem body__law_costs (C : Ctx fa fn fb fm K mg) {fd : FuncData} {a : Addr} (F : FunD K (d__law_costs).name (d__law_costs).qual (d__law_costs).params (d__law_costs).body (d__law_costs).scope ((d__law_costs).dvs K) ((d__law_costs).kws K) a fd) : FnOk P wd K mg base (L2.CX P wd) 5 a fd ["streets", "rows", "many", "even", "best", "numbers"] (spD K 6 f__law_costs .z) :=
  have S := sc__law_costs
  fn_ok (w := [.z, .z, .z, .z, .z, .z, .z, .z, .z]) (w1 := [.z, .z, .z, .z, .z, .z, .z, .z, .z]) F S rfl rfl fun cdv A outer s H E hr => (ss_cons (w1 := [.z, .z, .z, .z, .z, .z, .z, .z, .z]) (s_set 6 (e_call (ok_crowd_cost C) (hr.mono (by decide)) (takes_E rfl rfl rfl rfl) (a_cons (e_var 0) (a_cons (e_var 4) a_nil))) (hN := S.nd)) (ss_cons (w1 := [.z, .z, .z, .z, .z, .z, .z, .z, .z]) (s_set 7 (e_call (ok__law_cost C) (hr.mono (by decide)) (takes_E rfl rfl rfl rfl) (a_cons (e_var 1) (a_cons (e_var 4) a_nil))) (hN := S.nd)) (ss_cons (w1 := [.z, .z, .z, .z, .z, .z, .z, .z, .z]) (s_if (PW.pt (w_or (t_not (t_tru (e_call (ok__law_is_cost C) (hr.mono (by decide)) (takes_E rfl rfl rfl rfl) (a_cons (e_var 6) (a_cons (e_var 1) (a_cons (e_var 4) a_nil)))))) (w_or1 (t_not (t_tru (e_call (ok__law_is_cost C) (hr.mono (by decide)) (takes_E rfl rfl rfl rfl) (a_cons (e_call (ok_crowd_cost C) (hr.mono (by decide)) (takes_E rfl rfl rfl rfl) (a_cons (e_var 0) (a_cons (e_fz (e_callT call_list_of cd_lst (C.free 5) boot_list (a_cons (e_var 3) a_nil))) a_nil))) (a_cons (e_var 1) (a_cons (e_var 3) a_nil))))))))) (ss_cons (w1 := [.z, .z, .z, .z, .z, .z, .z, .z, .z]) (s_ret e_bl) ss_nil) ss_nil) (ss_cons (w1 := [.z, .z, .z, .z, .z, .z, .z, .z, .z]) (s_for (vs := [8]) (i_seq (e_call (ok__law_shares C) (hr.mono (by decide)) (takes_E rfl rfl rfl rfl) (a_cons (e_var 1) (a_cons (e_var 2) (a_cons (e_var 4) (a_cons (e_var 5) a_nil)))))) (g_name 8 (hN := S.nd)) (ss_cons (w1 := [.z, .z, .z, .z, .z, .z, .z, .z, .z]) (s_set 6 (e_call (ok_crowd_cost C) (hr.mono (by decide)) (takes_E rfl rfl rfl rfl) (a_cons (e_var 0) (a_cons (e_fz (e_callT call_list_of cd_lst (C.free 5) boot_list (a_cons (e_var 8) a_nil))) a_nil))) (hN := S.nd)) (ss_cons (w1 := [.z, .z, .z, .z, .z, .z, .z, .z, .z]) (s_if (t_not (t_tru (e_call (ok__law_is_cost C) (hr.mono (by decide)) (takes_E rfl rfl rfl rfl) (a_cons (e_var 6) (a_cons (e_var 1) (a_cons (e_var 8) a_nil)))))) (ss_cons (w1 := [.z, .z, .z, .z, .z, .z, .z, .z, .z]) (s_ret e_bl) ss_nil) ss_nil) (ss_cons (w1 := [.z, .z, .z, .z, .z, .z, .z, .z, .z]) (s_if (t_cmp (OpR.rI0 op_lt) od_cmp (e_op op_mulA od_mul (e_ix (e_var 6) e_int) (e_ix (e_var 7) e_int)) (e_op op_mulA od_mul (e_ix (e_var 7) e_int) (e_ix (e_var 6) e_int))) (ss_cons (w1 := [.z, .z, .z, .z, .z, .z, .z, .z, .z]) (s_ret e_bl) ss_nil) ss_nil) ss_nil))) (passes_of rfl)) (ss_cons (w1 := [.z, .z, .z, .z, .z, .z, .z, .z, .z]) (s_set 6 (e_call (ok_crowd_dearness C) (hr.mono (by decide)) (takes_E rfl rfl rfl rfl) (a_cons (e_var 0) (a_cons (e_var 2) a_nil))) (hN := S.nd)) (ss_cons (w1 := [.z, .z, .z, .z, .z, .z, .z, .z, .z]) (s_if (PW.pt (w_or (t_not (t_tru (e_call (ok__law_is_exact C) (hr.mono (by decide)) (takes_E rfl rfl rfl rfl) (a_cons (e_var 6) a_nil)))) (w_or (t_cmp (OpR.rI0 op_lt) od_cmp (e_ix (e_var 6) e_int) (e_ix (e_var 6) e_int)) (w_or1 (t_cmp (OpR.rI0 op_gt) od_cmp (e_op op_mulA od_mul e_int (e_ix (e_var 6) e_int)) (e_op op_mulA od_mul e_int (e_ix (e_var 6) e_int))))))) (ss_cons (w1 := [.z, .z, .z, .z, .z, .z, .z, .z, .z]) (s_ret e_bl) ss_nil) ss_nil) (ss_cons (w1 := [.z, .z, .z, .z, .z, .z, .z, .z, .z]) (s_if (t_cmp (op_eqA hr.units) od_eq (e_var 2) e_int) (ss_cons (w1 := [.z, .z, .z, .z, .z, .z, .z, .z, .z]) (s_ret (e_and (e_cmp (op_eqA hr.units) od_eq (e_ix (e_var 6) e_int) e_int) (e_one (e_cmp (op_eqA hr.units) od_eq (e_ix (e_var 6) e_int) e_int)))) ss_nil) ss_nil) (ss_cons (w1 := [.z, .z, .z, .z, .z, .z, .z, .z, .z]) (s_ret (e_call (ok__law_equal C) (hr.mono (by decide)) (takes_E rfl rfl rfl rfl) (a_cons (e_tup (a_cons (e_op op_mulA od_mul (e_ix (e_var 6) e_int) (e_ix (e_var 7) e_int)) (a_cons (e_op op_mulA od_mul (e_ix (e_var 6) e_int) (e_ix (e_var 7) e_int)) a_nil))) (a_cons (e_call (ok__law_cost C) (hr.mono (by decide)) (takes_E rfl rfl rfl rfl) (a_cons (e_var 1) (a_cons (e_var 3) a_nil))) a_nil)))) ss_nil))))))))
theorem ok__law_costs (C : Ctx fa fn fb fm K mg) : Fn P wd K mg base 5 "_law_costs" 6 [] f__law_costs .z := by
  obtain ⟨fd, F⟩ := C.c.def_ 24 (d := d__law_costs) rfl
  obtain ⟨us, hv, hb⟩ : ∃ us, Vals ([] : List V) us ∧ Binds K fd ["streets", "rows", "many", "even", "best", "numbers"] us := ⟨[], .nil, F.bindsN fun _ _ _ _ _ _ us hl => match us, hl with | [_, _, _, _, _, _], _ => rfl⟩
  exact ⟨⟨_, fd, ["streets", "rows", "many", "even", "best", "numbers"], [], us, C.glo 44, F.kp, hb, hv, fun _ => .nil, body__law_costs C F⟩⟩
theorem sc_street_tolls : FnScope ["streets", "many", "amounts", "slope", "amount"] ["streets", "many"] (defScope st_street_tolls) := ⟨rfl, rfl, rfl, by decide +kernel, rfl, by decide +kernel, by decide +kernel⟩
theorem body_street_tolls (C : Ctx fa fn fb fm K mg) {fd : FuncData} {a : Addr} (F : FunD K (d_street_tolls).name (d_street_tolls).qual (d_street_tolls).params (d_street_tolls).body (d_street_tolls).scope ((d_street_tolls).dvs K) ((d_street_tolls).kws K) a fd) : FnOk P wd K mg base (L2.CX P wd) 4 a fd ["streets", "many"] (spD K 2 f_street_tolls .z) :=
  have S := sc_street_tolls
  fn_ok (w := [.z, .z, .z, .z, .z]) (w1 := [.z, .z, .z, .z, .z]) F S rfl rfl fun cdv A outer s H E hr => (ss_cons (w1 := [.z, .z, .z, .z, .z]) (s_set 2 (e_ix (e_call (ok_best_share C) (hr.mono (by decide)) (takes_E rfl rfl rfl rfl) (a_cons (e_var 0) (a_cons (e_var 1) a_nil))) e_int) (hN := S.nd)) (ss_cons (w1 := [.z, .z, .z, .z, .z]) (s_ret (e_callT call_tuple_of cd_tup (C.free 10) boot_tuple (a_cons (e_fz (e_lc [("slope", 3), ("amount", 4)] (i_zip (C.free 17) (a_cons (e_fld (e_var 0) (FldOk.cons (C.cls 11) (C.noat 12) FldOk.nil)) (a_cons (e_var 2) a_nil))) (fun s4 H4 c4 cl4 fp4 => (g_tup (gs_cons (g_name 3 (hN := S.nd)) (gs_cons (g_name 4 (hN := S.nd)) gs_nil)))) (fun s4 H4 c4 cl4 fp4 => ts_nil) (fun s4 H4 c4 cl4 fp4 => (e_call (ok_times C) (hr.mono (by decide)) takes_WF (a_cons (e_tup (a_cons (e_var 3) (a_cons e_int a_nil))) (a_cons (e_var 4) a_nil)))) (ok := by rfl) (hN := S.nd))) a_nil))) ss_nil))
theorem ok_street_tolls (C : Ctx fa fn fb fm K mg) : Fn P wd K mg base 4 "street_tolls" 2 [] f_street_tolls .z := by
  obtain ⟨fd, F⟩ := C.c.def_ 25 (d := d_street_tolls) rfl
  obtain ⟨us, hv, hb⟩ : ∃ us, Vals ([] : List V) us ∧ Binds K fd ["streets", "many"] us := ⟨[], .nil, F.bindsN fun _ _ _ _ _ _ us hl => match us, hl with | [_, _], _ => rfl⟩
  exact ⟨⟨_, fd, ["streets", "many"], [], us, C.glo 45, F.kp, hb, hv, fun _ => .nil, body_street_tolls C F⟩⟩
theorem sc__law_tolls : FnScope ["streets", "rows", "many", "best", "told", "k"] ["streets", "rows", "many", "best"] (defScope st__law_tolls) := ⟨rfl, rfl, rfl, by decide +kernel, rfl, by decide +kernel, by decide +kernel⟩
theorem body__law_tolls (C : Ctx fa fn fb fm K mg) {fd : FuncData} {a : Addr} (F : FunD K (d__law_tolls).name (d__law_tolls).qual (d__law_tolls).params (d__law_tolls).body (d__law_tolls).scope ((d__law_tolls).dvs K) ((d__law_tolls).kws K) a fd) : FnOk P wd K mg base (L2.CX P wd) 5 a fd ["streets", "rows", "many", "best"] (spD K 4 f__law_tolls .z) :=
  have S := sc__law_tolls
  fn_ok (w := [.z, .z, .z, .z, .z, .z]) (w1 := [.z, .z, .z, .z, .z, .z]) F S rfl rfl fun cdv A outer s H E hr => (ss_cons (w1 := [.z, .z, .z, .z, .z, .z]) (s_set 4 (e_call (ok_street_tolls C) (hr.mono (by decide)) (takes_E rfl rfl rfl rfl) (a_cons (e_var 0) (a_cons (e_var 2) a_nil))) (hN := S.nd)) (ss_cons (w1 := [.z, .z, .z, .z, .z, .z]) (s_if (PW.pt (w_or (t_not (t_tru (e_isi .tuple boot_tuple (C.free 10) (C.free 15) (e_var 4)))) (w_or1 (t_cmp (op_neA hr.units) od_ne (e_callB call_len cd_len (C.free 3) boot_len (a_cons (e_var 4) a_nil)) (e_callB call_len cd_len (C.free 3) boot_len (a_cons (e_var 1) a_nil)))))) (ss_cons (w1 := [.z, .z, .z, .z, .z, .z]) (s_ret e_bl) ss_nil) ss_nil) (ss_cons (w1 := [.z, .z, .z, .z, .z, .z]) (s_for (vs := [5]) (i_range1 (C.free 1) (a_cons (e_callB call_len cd_len (C.free 3) boot_len (a_cons (e_var 1) a_nil)) a_nil)) (g_name 5 (hN := S.nd)) (ss_cons (w1 := [.z, .z, .z, .z, .z, .z]) (s_if (PW.pt (w_or (t_not (t_tru (e_call (ok__law_is_exact C) (hr.mono (by decide)) (takes_E rfl rfl rfl rfl) (a_cons (e_ix (e_var 4) (e_var 5)) a_nil)))) (w_or1 (t_not (t_tru (e_call (ok__law_equal C) (hr.mono (by decide)) (takes_E rfl rfl rfl rfl) (a_cons (e_ix (e_var 4) (e_var 5)) (a_cons (e_tup (a_cons (e_op op_mulA od_mul (e_ix (e_ix (e_var 1) (e_var 5)) e_int) (e_ix (e_ix (e_var 3) (e_var 5)) e_int)) (a_cons (e_ix (e_ix (e_var 3) (e_var 5)) e_int) a_nil))) a_nil)))))))) (ss_cons (w1 := [.z, .z, .z, .z, .z, .z]) (s_ret e_bl) ss_nil) ss_nil) ss_nil) (passes_of rfl)) (ss_cons (w1 := [.z, .z, .z, .z, .z, .z]) (s_ret e_bl) ss_nil))))
theorem ok__law_tolls (C : Ctx fa fn fb fm K mg) : Fn P wd K mg base 5 "_law_tolls" 4 [] f__law_tolls .z := by
  obtain ⟨fd, F⟩ := C.c.def_ 26 (d := d__law_tolls) rfl
  obtain ⟨us, hv, hb⟩ : ∃ us, Vals ([] : List V) us ∧ Binds K fd ["streets", "rows", "many", "best"] us := ⟨[], .nil, F.bindsN fun _ _ _ _ _ _ us hl => match us, hl with | [_, _, _, _], _ => rfl⟩
  exact ⟨⟨_, fd, ["streets", "rows", "many", "best"], [], us, C.glo 46, F.kp, hb, hv, fun _ => .nil, body__law_tolls C F⟩⟩
theorem sc_Streets_alike : FnScope ["cls", "count", "slope", "base"] ["cls", "count", "slope", "base"] (defScope st_Streets_alike) := ⟨rfl, rfl, rfl, by decide +kernel, rfl, by decide +kernel, by decide +kernel⟩
theorem body_Streets_alike (C : Ctx fa fn fb fm K mg) {fd : FuncData} {a : Addr} (F : FunD K (d_Streets_alike).name (d_Streets_alike).qual (d_Streets_alike).params (d_Streets_alike).body (d_Streets_alike).scope ((d_Streets_alike).dvs K) ((d_Streets_alike).kws K) a fd) : FnOk P wd K mg base (L2.CX P wd) 3 a fd ["cls", "count", "slope", "base"] (spC K "Streets" 4 f_Streets_alike .z) :=
  have S := sc_Streets_alike
  cm_ok (w := [.z, .z, .z]) (w1 := [.ex (He.ga K "Streets") (He.ga K "Streets"), .z, .z, .z]) F S rfl rfl fun cdv A outer s H E hr => (ss_cons (w1 := [.ex (He.ga K "Streets") (He.ga K "Streets"), .z, .z, .z]) (s_ret (e_fz (e_makeC 0 (ok_Streets_init C) (hr.mono (by decide)) (takes_E rfl rfl rfl rfl) (a_cons (e_fz (e_op op_rep od_repL (e_fz (e_lst (a_cons (e_var 2) a_nil))) (e_var 1))) (a_cons (e_fz (e_op op_rep od_repL (e_fz (e_lst (a_cons (e_var 3) a_nil))) (e_var 1))) a_nil))))) ss_nil)
theorem ok_Streets_alike_k0 (C : Ctx fa fn fb fm K mg) : Cm P wd K mg base 3 "Streets" "alike" ["slope", "base"] 2 [(0, 0), (0, 1), (2, 0), (2, 1)] [] 4 f_Streets_alike .z := by
  obtain ⟨fd, F⟩ := C.defM 0 (d := d_Streets_alike) rfl
  obtain ⟨mv, hb⟩ := kbn0 (ps := ["cls", "count", "slope", "base"]) F 2 ["slope", "base"] [] [(0, 0), (0, 1), (2, 0), (2, 1)] (List.cons_ne_nil _ _) (List.forall_mem_nil _) fun T doc pm an cdv ct us mv ws h1 h2 h3 => match us, h1, mv, h2, ws, h3 with | [_, _], _, [], _, [_, _], _ => rfl
  exact ⟨⟨_, _, fd, ["cls", "count", "slope", "base"], _, mv, C.glo 14, (C.cm 4).1, (C.cm 4).2, hb, fun _ => .nil, body_Streets_alike C F⟩⟩
theorem ok_Streets_alike_k1 (C : Ctx fa fn fb fm K mg) : Cm P wd K mg base 3 "Streets" "alike" [] 2 [(0, 0), (0, 1), (1, 0), (1, 1)] [.int 1, .int 0] 4 f_Streets_alike .z := by
  obtain ⟨fd, F⟩ := C.defM 0 (d := d_Streets_alike) rfl
  obtain ⟨mv, hb⟩ := kbn0 (ps := ["cls", "count", "slope", "base"]) F 2 [] [("slope", .int 1), ("base", .int 0)] [(0, 0), (0, 1), (1, 0), (1, 1)] (List.cons_ne_nil _ _) (List.forall_mem_cons.mpr ⟨List.mem_of_getElem? (i := 0) rfl, (List.forall_mem_cons.mpr ⟨List.mem_of_getElem? (i := 1) rfl, (List.forall_mem_nil _)⟩)⟩) fun T doc pm an cdv ct us mv ws h1 h2 h3 => match us, h1, mv, h2, ws, h3 with | [_, _], _, [_, _], _, [], _ => ⟨_, _, _, _, _, _, rfl, rfl, ⟨_, _, _, _, _, _, rfl, rfl, rfl⟩⟩
  exact ⟨⟨_, _, fd, ["cls", "count", "slope", "base"], _, mv, C.glo 14, (C.cm 4).1, (C.cm 4).2, hb, fun _ => .cons (.int _) (.cons (.int _) (.nil)), body_Streets_alike C F⟩⟩
theorem ok_Streets_alike_k2 (C : Ctx fa fn fb fm K mg) : Cm P wd K mg base 3 "Streets" "alike" ["base"] 2 [(0, 0), (0, 1), (1, 0), (2, 0)] [.int 1] 4 f_Streets_alike .z := by
  obtain ⟨fd, F⟩ := C.defM 0 (d := d_Streets_alike) rfl
  obtain ⟨mv, hb⟩ := kbn0 (ps := ["cls", "count", "slope", "base"]) F 2 ["base"] [("slope", .int 1)] [(0, 0), (0, 1), (1, 0), (2, 0)] (List.cons_ne_nil _ _) (List.forall_mem_cons.mpr ⟨List.mem_of_getElem? (i := 0) rfl, (List.forall_mem_nil _)⟩) fun T doc pm an cdv ct us mv ws h1 h2 h3 => match us, h1, mv, h2, ws, h3 with | [_, _], _, [_], _, [_], _ => ⟨_, _, _, _, _, _, rfl, rfl, rfl⟩
  exact ⟨⟨_, _, fd, ["cls", "count", "slope", "base"], _, mv, C.glo 14, (C.cm 4).1, (C.cm 4).2, hb, fun _ => .cons (.int _) (.nil), body_Streets_alike C F⟩⟩
theorem sc__law_alike : FnScope ["rows", "many", "count", "streets", "told", "amount"] ["rows", "many"] (defScope st__law_alike) := ⟨rfl, rfl, rfl, by decide +kernel, rfl, by decide +kernel, by decide +kernel⟩
theorem body__law_alike (C : Ctx fa fn fb fm K mg) {fd : FuncData} {a : Addr} (F : FunD K (d__law_alike).name (d__law_alike).qual (d__law_alike).params (d__law_alike).body (d__law_alike).scope ((d__law_alike).dvs K) ((d__law_alike).kws K) a fd) : FnOk P wd K mg base (L2.CX P wd) 4 a fd ["rows", "many"] (spD K 2 f__law_alike .z) :=
  have S := sc__law_alike
  fn_ok (w := [.z, .z, .z, .z, .z, .z]) (w1 := [.z, .z, .z, .z, .z, .z]) F S rfl rfl fun cdv A outer s H E hr => (ss_cons (w1 := [.z, .z, .z, .z, .z, .z]) (s_set 2 (e_callB call_len cd_len (C.free 3) boot_len (a_cons (e_var 0) a_nil)) (hN := S.nd)) (ss_cons (w1 := [.z, .z, .z, .z, .z, .z]) (s_set 3 (e_cmeth (ok_Streets_alike_k0 C) (hr.mono (by decide)) (takes_E rfl rfl rfl rfl) (a_cons (e_var 2) a_nil) (k_cons (e_ix (e_ix (e_var 0) e_int) e_int) (k_cons (e_ix (e_ix (e_var 0) e_int) e_int) k_nil))) (hN := S.nd)) (ss_cons (w1 := [.z, .z, .z, .z, .z, .z]) (s_if (t_not (t_tru (e_call (ok__law_is_streets C) (hr.mono (by decide)) (takes_E rfl rfl rfl rfl) (a_cons (e_var 3) (a_cons (e_fz (e_op op_rep od_repL (e_fz (e_lst (a_cons (e_ix (e_ix (e_var 0) e_int) e_int) a_nil))) (e_var 2))) (a_cons (e_fz (e_op op_rep od_repL (e_fz (e_lst (a_cons (e_ix (e_ix (e_var 0) e_int) e_int) a_nil))) (e_var 2))) a_nil)))))) (ss_cons (w1 := [.z, .z, .z, .z, .z, .z]) (s_ret e_bl) ss_nil) ss_nil) (ss_cons (w1 := [.z, .z, .z, .z, .z, .z]) (s_if (t_not (t_tru (e_call (ok__law_is_streets C) (hr.mono (by decide)) (takes_E rfl rfl rfl rfl) (a_cons (e_cmeth (ok_Streets_alike_k1 C) (hr.mono (by decide)) (takes_E rfl rfl rfl rfl) (a_cons (e_var 2) a_nil) k_nil) (a_cons (e_fz (e_op op_rep od_repL (e_fz (e_lst (a_cons e_int a_nil))) (e_var 2))) (a_cons (e_fz (e_op op_rep od_repL (e_fz (e_lst (a_cons e_int a_nil))) (e_var 2))) a_nil)))))) (ss_cons (w1 := [.z, .z, .z, .z, .z, .z]) (s_ret e_bl) ss_nil) ss_nil) (ss_cons (w1 := [.z, .z, .z, .z, .z, .z]) (s_if (t_not (t_tru (e_call (ok__law_is_streets C) (hr.mono (by decide)) (takes_E rfl rfl rfl rfl) (a_cons (e_cmeth (ok_Streets_alike_k2 C) (hr.mono (by decide)) (takes_E rfl rfl rfl rfl) (a_cons (e_var 2) a_nil) (k_cons (e_ix (e_ix (e_var 0) e_int) e_int) k_nil)) (a_cons (e_fz (e_op op_rep od_repL (e_fz (e_lst (a_cons e_int a_nil))) (e_var 2))) (a_cons (e_fz (e_op op_rep od_repL (e_fz (e_lst (a_cons (e_ix (e_ix (e_var 0) e_int) e_int) a_nil))) (e_var 2))) a_nil)))))) (ss_cons (w1 := [.z, .z, .z, .z, .z, .z]) (s_ret e_bl) ss_nil) ss_nil) (ss_cons (w1 := [.z, .z, .z, .z, .z, .z]) (s_set 4 (e_call (ok_even_share C) (hr.mono (by decide)) (takes_E rfl rfl rfl rfl) (a_cons (e_var 3) (a_cons (e_var 1) a_nil))) (hN := S.nd)) (ss_cons (w1 := [.z, .z, .z, .z, .z, .z]) (s_if (t_not (t_tru (e_call (ok__law_is_share C) (hr.mono (by decide)) (takes_E rfl rfl rfl rfl) (a_cons (e_var 4) (a_cons (e_fz (e_op op_rep od_repL (e_fz (e_lst (a_cons (e_ix (e_var 0) e_int) a_nil))) (e_var 2))) (a_cons (e_var 1) (a_cons e_int a_nil))))))) (ss_cons (w1 := [.z, .z, .z, .z, .z, .z]) (s_ret e_bl) ss_nil) ss_nil) (ss_cons (w1 := [.z, .z, .z, .z, .z, .z]) (s_for (vs := [5]) (i_seq (e_ix (e_var 4) e_int)) (g_name 5 (hN := S.nd)) (ss_cons (w1 := [.z, .z, .z, .z, .z, .z]) (s_if (t_not (t_tru (e_call (ok__law_equal C) (hr.mono (by decide)) (takes_E rfl rfl rfl rfl) (a_cons (e_var 5) (a_cons (e_tup (a_cons (e_var 1) (a_cons (e_var 2) a_nil))) a_nil))))) (ss_cons (w1 := [.z, .z, .z, .z, .z, .z]) (s_ret e_bl) ss_nil) ss_nil) ss_nil) (passes_of rfl)) (ss_cons (w1 := [.z, .z, .z, .z, .z, .z]) (s_ret e_bl) ss_nil)))))))))
theorem ok__law_alike (C : Ctx fa fn fb fm K mg) : Fn P wd K mg base 4 "_law_alike" 2 [] f__law_alike .z := by
  obtain ⟨fd, F⟩ := C.c.def_ 27 (d := d__law_alike) rfl
  obtain ⟨us, hv, hb⟩ : ∃ us, Vals ([] : List V) us ∧ Binds K fd ["rows", "many"] us := ⟨[], .nil, F.bindsN fun _ _ _ _ _ _ us hl => match us, hl with | [_, _], _ => rfl⟩
  exact ⟨⟨_, fd, ["rows", "many"], [], us, C.glo 47, F.kp, hb, hv, fun _ => .nil, body__law_alike C F⟩⟩
theorem sc_law : FnScope ["script", "numbers", "rows", "many", "slopes", "row", "bases", "passed", "passed_bases", "streets", "even", "best", "again"] ["script"] (defScope st_law) := ⟨rfl, rfl, rfl, by decide +kernel, rfl, by decide +kernel, by decide +kernel⟩
theorem body_law (C : Ctx fa fn fb fm K mg) {fd : FuncData} {a : Addr} (F : FunD K (d_law).name (d_law).qual (d_law).params (d_law).body (d_law).scope ((d_law).dvs K) ((d_law).kws K) a fd) : FnOk P wd K mg base (L2.CX P wd) 6 a fd ["script"] (spD K 1 f_law .z) :=
  have S := sc_law
  fn_ok (w := [.z, .z, .z, .z, .z, .z, .z, .z, .z, .z, .z, .z, .z]) (w1 := [.z, .z, .z, .z, .z, .z, .z, .z, .z, .z, .z, .z, .z]) F S rfl rfl fun cdv A outer s H E hr => (ss_cons (w1 := [.z, .z, .z, .z, .z, .z, .z, .z, .z, .z, .z, .z, .z]) (s_set 1 (e_call (ok__law_row C) (hr.mono (by decide)) (takes_E rfl rfl rfl rfl) (a_cons (e_call (ok__law_cell C) (hr.mono (by decide)) (takes_E rfl rfl rfl rfl) (a_cons (e_var 0) (a_cons e_int a_nil))) (a_cons e_int (a_cons e_int a_nil)))) (hN := S.nd)) (ss_cons (w1 := [.z, .z, .z, .z, .z, .z, .z, .z, .z, .z, .z, .z, .z]) (s_set 2 (e_call (ok__law_rows C) (hr.mono (by decide)) (takes_E rfl rfl rfl rfl) (a_cons (e_var 0) (a_cons (e_var 1) a_nil))) (hN := S.nd)) (ss_cons (w1 := [.z, .z, .z, .z, .z, .z, .z, .z, .z, .z, .z, .z, .z]) (s_set 3 (e_call (ok__law_crowd C) (hr.mono (by decide)) (takes_E rfl rfl rfl rfl) (a_cons (e_var 2) (a_cons (e_var 1) a_nil))) (hN := S.nd)) (ss_cons (w1 := [.z, .z, .z, .z, .z, .z, .z, .z, .z, .z, .z, .z, .z]) (s_setLcz 4 [("row", 5)] (i_seq (e_var 2)) (fun s12 H12 c12 cl12 fp12 => (g_name 5 (hN := S.nd))) (fun s12 H12 c12 cl12 fp12 => ts_nil) (fun s12 H12 c12 cl12 fp12 => (e_ix (e_var 5) e_int)) (ok := by rfl) (hN := S.nd)) (ss_cons (w1 := [.z, .z, .z, .z, .z, .z, .z, .z, .z, .z, .z, .z, .z]) (s_setLcz 6 [("row", 5)] (i_seq (e_var 2)) (fun s16 H16 c16 cl16 fp16 => (g_name 5 (hN := S.nd))) (fun s16 H16 c16 cl16 fp16 => ts_nil) (fun s16 H16 c16 cl16 fp16 => (e_ix (e_var 5) e_int)) (ok := by rfl) (hN := S.nd)) (ss_cons (w1 := [.z, .z, .z, .z, .z, .z, .z, .l .z, .z, .z, .z, .z, .z]) (s_set 7 (e_callT call_list_of cd_lst (C.free 5) boot_list (a_cons (e_var 4) a_nil)) (hN := S.nd)) (ss_cons (w1 := [.z, .z, .z, .z, .z, .z, .z, .l .z, .l .z, .z, .z, .z, .z]) (s_set 8 (e_callT call_list_of cd_lst (C.free 5) boot_list (a_cons (e_var 6) a_nil)) (hN := S.nd)) (ss_cons (w1 := [.z, .z, .z, .z, .z, .z, .z, .l .z, .l .z, .z, .z, .z, .z]) (s_set 9 (e_sol (w' := [.z, .z, .z, .z, .z, .z, .z, .z, .l .z, .z, .z, .z, .z]) (e_sol (w' := [.z, .z, .z, .z, .z, .z, .z, .z, .z, .z, .z, .z, .z]) (e_fz (e_make (ok_Streets_init C) (hr.mono (by decide)) (takes_E rfl rfl rfl rfl) (a_cons (e_var 7) (a_cons (e_var 8) a_nil)))))) (hN := S.nd)) (ss_cons (w1 := [.z, .z, .z, .z, .z, .z, .z, .l .z, .l .z, .z, .z, .z, .z]) (s_if (t_bor (w' := [.z, .z, .z, .z, .z, .z, .z, .z, .l .z, .z, .z, .z, .z]) (t_bor (w' := [.z, .z, .z, .z, .z, .z, .z, .z, .z, .z, .z, .z, .z]) (PW.pt (w_or (t_cmp (op_neA hr.units) od_ne (e_var 7) (e_var 4)) (w_or1 (t_cmp (op_neA hr.units) od_ne (e_var 8) (e_var 6))))))) (ss_cons (w1 := [.z, .z, .z, .z, .z, .z, .z, .l .z, .l .z, .z, .z, .z, .z]) (s_ret e_bl) ss_nil) ss_nil) (ss_cons (w1 := [.z, .z, .z, .z, .z, .z, .z, .l .z, .l .z, .z, .z, .z, .z]) (s_put 7 (he := (e_op op_addAll od_add (e_ixO 7 e_int) e_int)) (hx := e_int)) (ss_cons (w1 := [.z, .z, .z, .z, .z, .z, .z, .l .z, .l .z, .z, .z, .z, .z]) (s_app 7 (he := e_int)) (ss_cons (w1 := [.z, .z, .z, .z, .z, .z, .z, .l .z, .l .z, .z, .z, .z, .z]) (s_put 8 (he := (e_op op_addAll od_add (e_ixO 8 e_int) e_int)) (hx := e_int)) (ss_cons (w1 := [.z, .z, .z, .z, .z, .z, .z, .l .z, .l .z, .z, .z, .z, .z]) (s_app 8 (he := e_int)) (ss_cons (w1 := [.z, .z, .z, .z, .z, .z, .z, .l .z, .l .z, .z, .z, .z, .z]) (s_if (t_not (t_tru (e_call (ok__law_is_streets C) (hr.mono (by decide)) (takes_E rfl rfl rfl rfl) (a_cons (e_var 9) (a_cons (e_var 4) (a_cons (e_var 6) a_nil)))))) (ss_cons (w1 := [.z, .z, .z, .z, .z, .z, .z, .l .z, .l .z, .z, .z, .z, .z]) (s_ret e_bl) ss_nil) ss_nil) (ss_cons (w1 := [.z, .z, .z, .z, .z, .z, .z, .l .z, .l .z, .z, .z, .z, .z]) (s_set 10 (e_call (ok_even_share C) (hr.mono (by decide)) (takes_E rfl rfl rfl rfl) (a_cons (e_var 9) (a_cons (e_var 3) a_nil))) (hN := S.nd)) (ss_cons (w1 := [.z, .z, .z, .z, .z, .z, .z, .l .z, .l .z, .z, .z, .z, .z]) (s_set 11 (e_call (ok_best_share C) (hr.mono (by decide)) (takes_E rfl rfl rfl rfl) (a_cons (e_var 9) (a_cons (e_var 3) a_nil))) (hN := S.nd)) (ss_cons (w1 := [.z, .z, .z, .z, .z, .z, .z, .l .z, .l .z, .z, .z, .z, .z]) (s_if (PW.pt (w_or (t_not (t_tru (e_call (ok__law_is_share C) (hr.mono (by decide)) (takes_E rfl rfl rfl rfl) (a_cons (e_var 10) (a_cons (e_var 2) (a_cons (e_var 3) (a_cons e_int a_nil))))))) (w_or1 (t_not (t_tru (e_call (ok__law_is_share C) (hr.mono (by decide)) (takes_E rfl rfl rfl rfl) (a_cons (e_var 11) (a_cons (e_var 2) (a_cons (e_var 3) (a_cons e_int a_nil)))))))))) (ss_cons (w1 := [.z, .z, .z, .z, .z, .z, .z, .l .z, .l .z, .z, .z, .z, .z]) (s_ret e_bl) ss_nil) ss_nil) (ss_cons (w1 := [.z, .z, .z, .z, .z, .z, .z, .l .z, .l .z, .z, .z, .z, .z]) (s_if (t_not (t_tru (e_call (ok__law_costs C) (hr.mono (by decide)) (takes_E rfl rfl rfl rfl) (a_cons (e_var 9) (a_cons (e_var 2) (a_cons (e_var 3) (a_cons (e_ix (e_var 10) e_int) (a_cons (e_ix (e_var 11) e_int) (a_cons (e_var 1) a_nil))))))))) (ss_cons (w1 := [.z, .z, .z, .z, .z, .z, .z, .l .z, .l .z, .z, .z, .z, .z]) (s_ret e_bl) ss_nil) ss_nil) (ss_cons (w1 := [.z, .z, .z, .z, .z, .z, .z, .l .z, .l .z, .z, .z, .z, .z]) (s_if (PW.pt (w_or (t_not (t_tru (e_call (ok__law_tolls C) (hr.mono (by decide)) (takes_E rfl rfl rfl rfl) (a_cons (e_var 9) (a_cons (e_var 2) (a_cons (e_var 3) (a_cons (e_ix (e_var 11) e_int) a_nil))))))) (w_or1 (t_not (t_tru (e_call (ok__law_alike C) (hr.mono (by decide)) (takes_E rfl rfl rfl rfl) (a_cons (e_var 2) (a_cons (e_var 3) a_nil)))))))) (ss_cons (w1 := [.z, .z, .z, .z, .z, .z, .z, .l .z, .l .z, .z, .z, .z, .z]) (s_ret e_bl) ss_nil) ss_nil) (ss_cons (w1 := [.z, .z, .z, .z, .z, .z, .z, .l .z, .l .z, .z, .z, .z, .z]) (s_set 12 (e_fz (e_make (ok_Streets_init C) (hr.mono (by decide)) (takes_E rfl rfl rfl rfl) (a_cons (e_callT call_tuple_of cd_tup (C.free 10) boot_tuple (a_cons (e_var 4) a_nil)) (a_cons (e_callT call_tuple_of cd_tup (C.free 10) boot_tuple (a_cons (e_var 6) a_nil)) a_nil)))) (hN := S.nd)) (ss_cons (w1 := [.z, .z, .z, .z, .z, .z, .z, .l .z, .l .z, .z, .z, .z, .z]) (s_if (PW.pt (w_or (t_cmp (op_neA hr.units) od_ne (e_call (ok_even_share C) (hr.mono (by decide)) (takes_E rfl rfl rfl rfl) (a_cons (e_var 9) (a_cons (e_var 3) a_nil))) (e_var 10)) (w_or1 (t_cmp (op_neA hr.units) od_ne (e_call (ok_best_share C) (hr.mono (by decide)) (takes_E rfl rfl rfl rfl) (a_cons (e_var 12) (a_cons (e_var 3) a_nil))) (e_var 11))))) (ss_cons (w1 := [.z, .z, .z, .z, .z, .z, .z, .l .z, .l .z, .z, .z, .z, .z]) (s_ret e_bl) ss_nil) ss_nil) (ss_cons (w1 := [.z, .z, .z, .z, .z, .z, .z, .z, .z, .z, .z, .z, .z]) (s_ret (e_and (e_call (ok__law_is_streets C) (hr.mono (by decide)) (takes_E rfl rfl rfl rfl) (a_cons (e_var 9) (a_cons (e_var 4) (a_cons (e_var 6) a_nil)))) (e_one (e_call (ok__law_is_share C) (hr.mono (by decide)) (takes_E rfl rfl rfl rfl) (a_cons (e_call (ok_even_share C) (hr.mono (by decide)) (takes_E rfl rfl rfl rfl) (a_cons (e_var 12) (a_cons e_int a_nil))) (a_cons (e_var 2) (a_cons e_int (a_cons e_int a_nil)))))))) ss_nil))))))))))))))))))))))
theorem ok_law (C : Ctx fa fn fb fm K mg) : Fn P wd K mg base 6 "law" 1 [] f_law .z := by
  obtain ⟨fd, F⟩ := C.c.def_ 28 (d := d_law) rfl
  obtain ⟨us, hv, hb⟩ : ∃ us, Vals ([] : List V) us ∧ Binds K fd ["script"] us := ⟨[], .nil, F.bindsN fun _ _ _ _ _ _ us hl => match us, hl with | [_], _ => rfl⟩
  exact ⟨⟨_, fd, ["script"], [], us, C.glo 48, F.kp, hb, hv, fun _ => .nil, body_law C F⟩⟩
end
end K12
set_option Elab.async false
set_option linter.all false
set_option maxRecDepth 100000
/-! k12: the law's own helpers. -/
namespace K12
open PySem Fz Fz.Std Fz.Str P12
theorem e_row : f__law_row = Std.f__law_row := rfl
theorem e_cell : f__law_cell = Std.f__law_cell := rfl
theorem e_gcd : f__law_gcd = Std.f__law_gcd 20000 := rfl
theorem e_same : f__law_same_row = Std.f__law_same_row := rfl
theorem e_times : f_times = Std.f_times := rfl
theorem e_init : f_Streets_init = Str.f_Streets_init := rfl
theorem e_even : f_even_share = Str.f_even_share := rfl
theorem e_best : f_best_share = Str.f_best_share := rfl
theorem e_exact : f__law_is_exact = Str.f__law_is_exact := rfl
theorem e_plus : f__law_plus = Str.f__law_plus := rfl
theorem e_equal : f__law_equal = Str.f__law_equal := rfl
theorem e_share : f__law_is_share = Str.f__law_is_share := rfl
theorem e_cost : f_crowd_cost = Str.f_crowd_cost := rfl
theorem e_lcost : f__law_cost = Str.f__law_cost := rfl
theorem e_iscost : f__law_is_cost = Str.f__law_is_cost := rfl
/-- the rows' tuples -/
abbrev dR (r : Row) : D := dP r.1 r.2
theorem pow24 : oPow (.int 10) (.int 24) = .ok (.int 1000000000000000000000000) := by simp [oPow, powOk]
theorem pow22 : oPow (.int 10) (.int 22) = .ok (.int 10000000000000000000000) := by simp [oPow, powOk]
theorem sz_of {i : Int} {n : Nat} (h : -(2 ^ 108) ≤ i ∧ i ≤ 2 ^ 108) (hn : 109 ≤ n := by omega) : Sz n i := by
  have : Sz 109 i := by unfold Sz; omega
  exact this.mono hn
theorem rows_ok (ns tops : List Int) (ht : tops.length = 16) : ∃ rs : List Row, f__law_rows [.scr (dI ns), lstI tops] = .ok (.lst (rs.map dR)) ∧ rs ≠ [] ∧ rs.length ≤ 8 ∧ ∀ r ∈ rs, GoodB 110 r := by
  have x1 : oIx (lstI tops) (.int 1) = .ok (.int (nth tops 1)) := oIx_dNl (n := 1) (by omega)
  have x0 : oIx (lstI tops) (.int 0) = .ok (.int (nth tops 0)) := oIx_dNl (n := 0) (by omega)
  generalize nth tops 1 = t1 at x1
  generalize nth tops 0 = t0 at x0
  obtain ⟨c1, hc1⟩ := cell_ok ns 1
  obtain ⟨c2, hc2⟩ := cell_ok ns 2
  obtain ⟨feet, hf, lf, bf⟩ := row_ok c1 999983 8 (by omega) (by decide) (by decide)
  obtain ⟨hops, hh, lh, bh⟩ := row_ok (c2 + 5) 999983 8 (by omega) (by decide) (by decide)
  have k0 := Int.emod_nonneg t1 (show (8 : Int) ≠ 0 by decide)
  have n0 := Int.emod_nonneg t0 (show (8 : Int) ≠ 0 by decide)
  have n1 := Int.emod_lt_of_pos t0 (show (0 : Int) < 8 by decide)
  generalize hk : t1 % 8 = k at k0
  generalize hn : t0 % 8 = n at n0 n1
  have en : 1 + n = ((n.toNat + 1 : Nat) : Int) := by omega
  have rg : rng1D [.int (1 + n)] = .ok (rngD 0 (n.toNat + 1)) := by rw [en]; exact rng1_ok (by omega)
  obtain ⟨e', a1, rs, o6, rfl, a2, a3⟩ := loop_rng (lo := 0) (tg := tgN 6) (body := b__law_rows_0) (n.toNat + 1)
    (fun i e => ∃ rs : List Row, ∃ o6, e = [some (.scr (dI ns)), some (lstI tops), some (.int k), some (lstI feet), some (lstI hops), some (.lst (rs.map dR)), o6] ∧ rs.length = i ∧ ∀ r ∈ rs, GoodB 110 r)
    (fun i e hi ⟨rs, o6, he, hl, hg⟩ => by
      subst he
      have i1 : oIx (lstI feet) (.int (i : Int)) = .ok (.int (nth feet i)) := oIx_dNl (by omega)
      have i2 : oIx (lstI hops) (.int (i : Int)) = .ok (.int (nth hops i)) := oIx_dNl (by omega)
      have f1 := bf _ (nth_mem (ns := feet) (n := i) (by omega))
      have f2 := bh _ (nth_mem (ns := hops) (n := i) (by omega))
      generalize nth feet i = a at i1 f1
      generalize nth hops i = b at i2 f2
      have key : ∀ s t : Int, 1 ≤ s → 0 ≤ t → s ≤ 2 ^ 108 → t ≤ 2 ^ 108 → ∃ qs : List Row, rs.map dR ++ [dP s t] = qs.map dR ∧ qs.length = i + 1 ∧ ∀ r ∈ qs, GoodB 110 r := fun s t h1 h2 h3 h4 =>
        ⟨rs ++ [(s, t)], by simp, by simp [hl], fun r hr => by
          rcases List.mem_append.mp hr with h | h
          · exact hg r h
          · have : r = (s, t) := by simpa using h
            subst this
            exact ⟨⟨h1, h2⟩, sz_of ⟨by show _ ≤ s; omega, h3⟩, sz_of ⟨by show _ ≤ t; omega, h4⟩⟩⟩
      have hz : rs.length < 16777216 := by omega
      refine ⟨_, rfl, ?_⟩
      by_cases q1 : k < 2
      · obtain ⟨qs, u1, u2, u3⟩ := key (1 + a % 3) (b % 3) (by omega) (by omega) (by omega) (by omega)
        simp [b__law_rows_0, q1, i1, i2, oMod_p, hz]
        exact ⟨qs, u1, u2, fun a b => u3 (a, b)⟩
      · by_cases q2 : k < 4
        · obtain ⟨qs, u1, u2, u3⟩ := key (1 + a % 100) (b % 101) (by omega) (by omega) (by omega) (by omega)
          simp [b__law_rows_0, q1, q2, i1, i2, oMod_p, hz]
          exact ⟨qs, u1, u2, fun a b => u3 (a, b)⟩
        · by_cases q3 : k = 4
          · obtain ⟨qs, u1, u2, u3⟩ := key (a * 1000000000000000000000000 + a + 1) (b * 1000000000000000000000000 + 7 * b) (by omega) (by omega) (by omega) (by omega)
            have m1 : oMul (.int a) (.int 1000000000000000000000000) = .ok (.int (a * 1000000000000000000000000)) := oMul_l (by omega)
            have m2 : oMul (.int b) (.int 1000000000000000000000000) = .ok (.int (b * 1000000000000000000000000)) := oMul_l (by omega)
            have m3 : oMul (.int 7) (.int b) = .ok (.int (7 * b)) := oMul_l (by omega)
            simp [b__law_rows_0, q1, q2, q3, i1, i2, oMod_p, hz, pow24, m1, m2, m3]
            exact ⟨qs, u1, u2, fun a b => u3 (a, b)⟩
          · have w0 := Int.emod_nonneg a (show (6 : Int) ≠ 0 by decide)
            have w1 := Int.emod_lt_of_pos a (show (0 : Int) < 6 by decide)
            have ix : oIx (lstI [1, 2, 3, 4, 6, 12]) (.int (a % 6)) = .ok (.int (nth [1, 2, 3, 4, 6, 12] (a % 6).toNat)) := oIx_lstI w0 (by simp; omega)
            have mem := nth_mem (ns := [1, 2, 3, 4, 6, 12]) (n := (a % 6).toNat) (by simp; omega)
            generalize nth [1, 2, 3, 4, 6, 12] (a % 6).toNat = s at ix mem
            have sb : 1 ≤ s ∧ s ≤ 12 := by simp at mem; omega
            have ol : ∀ a b c d e f : D, oLst [a, b, c, d, e, f] = .ok (.lst [a, b, c, d, e, f]) := fun _ _ _ _ _ _ => if_pos (by show 6 ≤ 16777216; decide)
            obtain ⟨qs, u1, u2, u3⟩ := key s (24 * (b % 5)) (by omega) (by omega) (by omega) (by omega)
            have m3 : oMul (.int 24) (.int (b % 5)) = .ok (.int (24 * (b % 5))) := oMul_l (by omega)
            have ix' : oIx (.lst [.int 1, .int 2, .int 3, .int 4, .int 6, .int 12]) (.int (a % 6)) = .ok (.int s) := ix
            simp [b__law_rows_0, q1, q2, q3, i1, i2, oMod_p, hz, ol, ix', m3]
            exact ⟨qs, u1, u2, fun a b => u3 (a, b)⟩) [some (.scr (dI ns)), some (lstI tops), some (.int k), some (lstI feet), some (lstI hops), some (.lst []), none] ⟨[], none, rfl, rfl, fun r h => by cases h⟩
  refine ⟨rs, ?_, fun z => by subst z; simp at a2, by omega, a3⟩
  have hc1' : Std.f__law_cell [.scr (dI ns), .int 1] = _ := hc1
  have hc2' : Std.f__law_cell [.scr (dI ns), .int 2] = _ := hc2
  have hf' : Std.f__law_row [.int c1, .int 8, .int 999983] = _ := hf
  have hh' : Std.f__law_row [.int (c2 + 5), .int 8, .int 999983] = _ := hh
  simp [f__law_rows, runD_eq, m__law_rows, startE, List.replicate, e_row, e_cell, x1, x0, hc1', hc2', hf', hh', oMod_p, hk, hn, rg, a1]
theorem crowd_ok {rs : List Row} (h0 : rs ≠ []) (h8 : rs.length ≤ 8) (hg : ∀ r ∈ rs, GoodB 110 r) (tops : List Int) (ht : tops.length = 16) (hb : ∀ x ∈ tops, 0 ≤ x ∧ x < 3600) : ∃ m : Int, f__law_crowd [.lst (rs.map dR), lstI tops] = .ok (.int m) ∧ 0 ≤ m ∧ Sz 200 m := by
  have x1 : oIx (lstI tops) (.int 1) = .ok (.int (nth tops 1)) := oIx_dNl (n := 1) (by omega)
  have x2 : oIx (lstI tops) (.int 2) = .ok (.int (nth tops 2)) := oIx_dNl (n := 2) (by omega)
  have x3 : oIx (lstI tops) (.int 3) = .ok (.int (nth tops 3)) := oIx_dNl (n := 3) (by omega)
  have x4 : oIx (lstI tops) (.int 4) = .ok (.int (nth tops 4)) := oIx_dNl (n := 4) (by omega)
  have x5 : oIx (lstI tops) (.int 5) = .ok (.int (nth tops 5)) := oIx_dNl (n := 5) (by omega)
  have y3 := hb _ (nth_mem (ns := tops) (n := 3) (by omega))
  have y4 := hb _ (nth_mem (ns := tops) (n := 4) (by omega))
  have y5 := hb _ (nth_mem (ns := tops) (n := 5) (by omega))
  generalize nth tops 1 = t1 at x1
  generalize nth tops 2 = t2 at x2
  generalize nth tops 3 = t3 at x3 y3
  generalize nth tops 4 = t4 at x4 y4
  generalize nth tops 5 = t5 at x5 y5
  have k0 := Int.emod_nonneg t2 (show (6 : Int) ≠ 0 by decide)
  have k1 := Int.emod_lt_of_pos t2 (show (0 : Int) < 6 by decide)
  generalize hk : t2 % 6 = k at k0 k1
  by_cases q0 : k = 0
  · refine ⟨0, ?_, by decide, sz0 _⟩
    simp [f__law_crowd, runD_eq, m__law_crowd, startE, List.replicate, x2, oMod_p, hk, q0]
  · by_cases q1 : k = 1
    · have m1 : oMul (.int t3) (.int 3600) = .ok (.int (t3 * 3600)) := oMul_l (by omega)
      have m2 : oMul (.int (t3 * 3600 + t4)) (.int 10000000000000000000000) = .ok (.int ((t3 * 3600 + t4) * 10000000000000000000000)) := oMul_l (by omega)
      refine ⟨(t3 * 3600 + t4) * 10000000000000000000000 + t5, ?_, by omega, sz_of (by omega)⟩
      simp [f__law_crowd, runD_eq, m__law_crowd, startE, List.replicate, x2, x3, x4, x5, oMod_p, hk, q1, m1, m2, pow22]
    · by_cases q2 : k < 4 ∨ t1 % 8 < 5
      · refine ⟨t3 % 41, ?_, by omega, sz_of (by omega)⟩
        by_cases q3 : k < 4
        · simp [f__law_crowd, runD_eq, m__law_crowd, startE, List.replicate, x1, x2, x3, oMod_p, hk, q0, q1, q3]
        · have q4 : t1 % 8 < 5 := by omega
          simp [f__law_crowd, runD_eq, m__law_crowd, startE, List.replicate, x1, x2, x3, oMod_p, hk, q0, q1, q3, q4]
      · have q3 : ¬ k < 4 := fun z => q2 (.inl z)
        have q4 : ¬ t1 % 8 < 5 := fun z => q2 (.inr z)
        have lp : 0 < rs.length := List.length_pos_iff.mpr h0
        have w0 := Int.emod_nonneg t4 (show (rs.length : Int) ≠ 0 by omega)
        have w1 := Int.emod_lt_of_pos t4 (show (0 : Int) < rs.length by omega)
        have ix : oIx (.lst (rs.map dR)) (.int (t4 % (rs.length : Int))) = .ok (dR (nthA rs (t4 % (rs.length : Int)).toNat)) := oIx_lstM w0 w1
        have mem := nthA_mem (xs := rs) (n := (t4 % (rs.length : Int)).toNat) (by omega)
        generalize nthA rs (t4 % (rs.length : Int)).toNat = rr at ix mem
        have gB := (hg rr mem).b
        have mr : oMod (.int t4) (.int (rs.length : Int)) = .ok (.int (t4 % (rs.length : Int))) := oMod_p (by omega)
        have loop : ∀ (qs : List Row) (j : Nat) (t : Int) (o5 : Option D), (∀ r ∈ qs, GoodB 110 r) → 0 ≤ t → 112 ≤ j → Sz j t → j + qs.length ≤ 190 → ∃ t' o5', loopD (tgN 5) b__law_crowd_0 (qs.map dR) [some (.lst (rs.map dR)), some (lstI tops), some (.int k), some (.int rr.2), some (.int t), o5] = .nx [some (.lst (rs.map dR)), some (lstI tops), some (.int k), some (.int rr.2), some (.int t'), o5'] ∧ 0 ≤ t' ∧ Sz 190 t' := by
          intro qs
          induction qs with
          | nil => intro j t o5 _ h2 h3 h4 h5; exact ⟨t, o5, rfl, h2, h4.mono (by simp at h5; omega)⟩
          | cons r qs ih =>
            intro j t o5 h1 h2 h3 h4 h5
            have g := h1 r List.mem_cons_self
            have gs := g.g.s
            have sub := gB.sub g.b
            have top : Sz 111 (if rr.2 - r.2 > 0 then rr.2 - r.2 else 0) := by split; exact sub.mono (by omega); exact sz0 _
            have top0 : 0 ≤ (if rr.2 - r.2 > 0 then rr.2 - r.2 else 0) := by split <;> omega
            have m1 : oMul (.int r.1) (.int (k - 3)) = .ok (.int (r.1 * (k - 3))) := oMul_r (by omega)
            have p1 : 0 < r.1 * (k - 3) := Int.mul_pos (by omega) (by omega)
            have sm : Sz 180 (r.1 * (k - 3)) := (g.s.mul (Sz.small (n := 61) (i := k - 3) (by omega))).mono (by omega)
            have dv : oDiv (.int (if rr.2 - r.2 > 0 then rr.2 - r.2 else 0)) (.int (r.1 * (k - 3))) = .ok (.int ((if rr.2 - r.2 > 0 then rr.2 - r.2 else 0) / (r.1 * (k - 3)))) := oDiv_sz sm p1
            have d0 : 0 ≤ (if rr.2 - r.2 > 0 then rr.2 - r.2 else 0) / (r.1 * (k - 3)) := Int.ediv_nonneg top0 (by omega)
            have ds := top.ediv (j := r.1 * (k - 3))
            generalize (if rr.2 - r.2 > 0 then rr.2 - r.2 else 0) / (r.1 * (k - 3)) = dd at dv d0 ds
            obtain ⟨t', o5', z1, z2, z3⟩ := ih (j + 1) (t + dd) (some (dR r)) (fun x hx => h1 x (List.mem_cons_of_mem _ hx)) (by omega) (by omega) ((h4.add ds).mono (by omega)) (by simp at h5; omega)
            refine ⟨t', o5', ?_, z2, z3⟩
            rw [List.map_cons, loopD_nx (e1 := [some (.lst (rs.map dR)), some (lstI tops), some (.int k), some (.int rr.2), some (.int t), some (dR r)]) (by simp) (e2 := [some (.lst (rs.map dR)), some (lstI tops), some (.int k), some (.int rr.2), some (.int (t + dd)), some (dR r)]) ?_, z1]
            simp only [gt_iff_lt] at dv
            simp [b__law_crowd_0, m1]
            simp at dv
            simp [dv]
        obtain ⟨t', o5', z1, z2, z3⟩ := loop rs 112 0 none hg (by decide) (by omega) (sz0 _) (by omega)
        have s3 : Sz 61 (t5 % 3 - 1) := Sz.small (by omega)
        have s4 := z3.add s3
        have e4 : t' + (t5 % 3 - 1) = t' + t5 % 3 - 1 := by omega
        rw [e4] at s4
        refine ⟨if t' + t5 % 3 - 1 > 0 then t' + t5 % 3 - 1 else 0, ?_, by split <;> omega, by split; exact s4.mono (by omega); exact sz0 _⟩
        simp [f__law_crowd, runD_eq, m__law_crowd, startE, List.replicate, x1, x2, x3, x4, x5, oMod_p, hk, q0, q1, q3, q4, mr, ix, z1]
end K12
set_option Elab.async false
set_option linter.all false
set_option maxRecDepth 100000
/-! k12: the shares that the law makes. -/
namespace K12
open PySem Fz Fz.Std Fz.Str P12
/-- a share of the crowd m -/
structure Sha (rs : List Row) (m : Int) (ys : List Rat) : Prop where
  len : ys.length = rs.length
  nn : ∀ y ∈ ys, 0 ≤ y
  sum : ys.sum = (m : Rat)
  dn : ∃ D k, 0 < D ∧ Sz k D ∧ k ≤ 1920 ∧ ∀ y ∈ ys, Zq D y
theorem Sha.ok {rs : List Row} {m : Int} {ys : List Rat} (S : Sha rs m ys) (sm : Sz 200 m) : ∃ D k, 0 < D ∧ Sz k D ∧ k ≤ 1920 ∧ (∀ y ∈ ys, Zq D y) ∧ ∀ y ∈ ys, OkQ D 20000 y := by
  obtain ⟨D, k, h1, h2, h3, h4⟩ := S.dn
  exact ⟨D, k, h1, h2, h3, h4, fun y hy => ⟨h4 y hy, (num_of_val (S.nn y hy) (by rw [← S.sum]; exact mem_le_sum S.nn y hy) sm ((h4 y hy).den h1 h2)).mono (by omega)⟩⟩
theorem common : ∀ {rs : List Row} {n : Nat}, (∀ r ∈ rs, GoodB n r) → ∃ B, 0 < B ∧ Sz (1 + n * rs.length) B ∧ ∀ r ∈ rs, r.1 ∣ B
  | [], n, _ => ⟨1, by decide, by unfold Sz; exact Nat.one_lt_two_pow (by omega), fun r h => by cases h⟩
  | r :: rs, n, h => by
    obtain ⟨B, h1, h2, h3⟩ := common (rs := rs) (n := n) fun x hx => h x (List.mem_cons_of_mem _ hx)
    have g := h r List.mem_cons_self
    have gs := g.g.s
    refine ⟨r.1 * B, Int.mul_pos (by omega) h1, (g.s.mul h2).mono (by simp [Nat.mul_add]; omega), fun x hx => ?_⟩
    rcases List.mem_cons.mp hx with z | z
    · subst z; exact ⟨B, rfl⟩
    · obtain ⟨c, hc⟩ := h3 x z
      exact ⟨r.1 * c, by rw [hc]; grind⟩
theorem gmono {n k : Nat} {r : Row} (g : GoodB n r) (h : n ≤ k) : GoodB k r := ⟨g.g, g.s.mono h, g.b.mono h⟩
theorem Lev.sha {rs : List Row} {m : Int} {l : Rat} {T W : Int} (L : Lev rs m l T W) (h8 : rs.length ≤ 8) (hg : ∀ r ∈ rs, GoodB 112 r) : Sha rs m (rs.map (amt 1 l)) := by
  obtain ⟨B, h1, h2, h3⟩ := common hg
  refine ⟨by simp, fun y hy => ?_, L.sum, B * W, 1900, Int.mul_pos h1 L.w, (h2.mul L.sw).mono (by omega), by omega, fun y hy => ?_⟩
  · obtain ⟨r, hr, rfl⟩ := List.mem_map.mp hy
    exact amt_nonneg (by decide) (hg r hr).g
  · obtain ⟨r, hr, rfl⟩ := List.mem_map.mp hy
    exact (L.okQ (f := 0) hg h3 r hr).z
theorem map_dbl (rs : List Row) (l : Rat) : (dbl rs).map (amt 1 l) = rs.map (amt 2 l) := by simp [dbl, amt_dbl]
theorem Lev.sha2 {rs : List Row} {m : Int} {l : Rat} {T W : Int} (L : Lev (dbl rs) m l T W) (h8 : rs.length ≤ 8) (hg : ∀ r ∈ rs, GoodB 111 r) : Sha rs m (rs.map (amt 2 l)) := by
  have S := Lev.sha L (by simpa [dbl] using h8) (dbl_good hg)
  rw [map_dbl] at S
  exact ⟨by simp, S.nn, S.sum, S.dn⟩
theorem lev_sl {rs : List Row} {m : Int} {l : Rat} {T W : Int} (L : Lev rs m l T W) : Sz 2200 l.num ∧ Sz 2200 (l.den : Int) := by
  rw [L.lq]
  exact ⟨(num_le _ L.w L.st).mono (by omega), ((Zq.of L.w).den L.w L.sw).mono (by omega)⟩
theorem shr_even {rs : List Row} {m : Int} {l : Rat} {T W : Int} (L : Lev rs m l T W) (h8 : rs.length ≤ 8) (hg : ∀ r ∈ rs, GoodB 111 r) (sm : Sz 200 m) : Shr 1 rs m l := by
  obtain ⟨D, k, h1, h2, h3, h4, h5⟩ := (Lev.sha L h8 fun r hr => gmono (hg r hr) (by omega)).ok sm
  refine ⟨by decide, hg, L.sum, L.low, lev_sl L, fun r hr => ?_⟩
  have z := h5 (amt 1 l r) (List.mem_map.mpr ⟨r, hr, rfl⟩)
  exact ⟨z.s, (z.z.den h1 h2).mono (by omega)⟩
theorem shr_best {rs : List Row} {m : Int} {l : Rat} {T W : Int} (L : Lev (dbl rs) m l T W) (h8 : rs.length ≤ 8) (hg : ∀ r ∈ rs, GoodB 111 r) (sm : Sz 200 m) : Shr 2 rs m l := by
  have S := Lev.sha2 L h8 hg
  obtain ⟨D, k, h1, h2, h3, h4, h5⟩ := S.ok sm
  refine ⟨by decide, hg, S.sum, ?_, lev_sl L, fun r hr => ?_⟩
  · obtain ⟨r, hr, h⟩ := L.low
    obtain ⟨x, hx, rfl⟩ := List.mem_map.mp hr
    exact ⟨x, hx, h⟩
  · have z := h5 (amt 2 l r) (List.mem_map.mpr ⟨r, hr, rfl⟩)
    exact ⟨z.s, (z.z.den h1 h2).mono (by omega)⟩
/-! ### a pair in its lowest terms -/
theorem low_ok (a : Int) {b : Int} (hb : 0 < b) (sb : Sz 9000 b) : ∃ g : Int, f__law_gcd [.int a, .int b] = .ok (.int g) ∧ oDiv (.int a) (.int g) = .ok (.int (pv a b).num) ∧ oDiv (.int b) (.int g) = .ok (.int ((pv a b).den : Int)) := by
  have g := gcd_ok 20000 (by omega) a b sb (by omega)
  have d : ((Int.gcd a b : Nat) : Int) ∣ b := Int.gcd_dvd_right ..
  have p : 0 < ((Int.gcd a b : Nat) : Int) := by
    have := Int.gcd_pos_of_ne_zero_right (a := a) (b := b) (by omega)
    omega
  have s := sb.tdvd d (by omega)
  obtain ⟨h1, h2⟩ := low_pos a hb
  refine ⟨_, g, ?_, ?_⟩
  · rw [oDiv_sz s p, ← h1]
  · rw [oDiv_sz s p, ← h2]
abbrev dZ (z : Int × Int) : D := dP z.1 z.2
abbrev vZ (z : Int × Int) : Rat := pv z.1 z.2
theorem norm_loop {zs : List (Int × Int)} (hz : ∀ z ∈ zs, 0 < z.2 ∧ Sz 9000 z.2) (a0 a1 a2 a3 a4 o5 a6 o7 a9 a10 a11 : Option D) : ∃ o5' o7', loopD (tgN 5) b__law_shares_2 (rngD 0 zs.length) [a0, a1, a2, a3, a4, o5, a6, o7, some (.lst (zs.map dZ)), a9, a10, a11] = .nx [a0, a1, a2, a3, a4, o5', a6, o7', some (.lst (zs.map fun z => dQ (vZ z))), a9, a10, a11] := by
  obtain ⟨e', h1, ds, o5', o7', rfl, h2, h3⟩ := loop_rng (lo := 0) (tg := tgN 5) (body := b__law_shares_2) zs.length
    (fun i e => ∃ ds o5 o7, e = [a0, a1, a2, a3, a4, o5, a6, o7, some (.lst ds), a9, a10, a11] ∧ ds.length = zs.length ∧ ∀ k, ds[k]? = (zs[k]?).map fun z => if k < i then dQ (vZ z) else dZ z)
    (fun i e hi ⟨ds, o5, o7, he, hl, hd⟩ => by
      subst he
      have hm : zs[i] ∈ zs := List.getElem_mem hi
      have eg : zs[i]? = some zs[i] := List.getElem?_eq_getElem hi
      generalize zs[i] = z at hm eg
      obtain ⟨z0, zs0⟩ := hz z hm
      obtain ⟨g, g1, g2, g3⟩ := low_ok z.1 z0 zs0
      have di := hd i
      rw [eg] at di
      simp at di
      have ix : oIx (.lst ds) (.int (i : Int)) = .ok (dZ z) := oIx_lst rfl di
      have hn : L2.ixN ds.length (i : Int) = some i := ixN_nat rfl (by omega)
      have hp : ∀ (u5 : Option D), sPut 8 (dv 5) (dcall oTup (dcons (d2 oDiv (d2 oIx (oIxO 8 (dv 5)) (dc (.int 0))) (dv 7)) (dcons (d2 oDiv (d2 oIx (oIxO 8 (dv 5)) (dc (.int 1))) (dv 7)) dnil))) [a0, a1, a2, a3, a4, some (.int (i : Int)), a6, some (.int g), some (.lst ds), a9, a10, a11] = .nx [a0, a1, a2, a3, a4, some (.int (i : Int)), a6, some (.int g), some (.lst (ds.set i (dQ (vZ z)))), a9, a10, a11] := fun _ => by
        rw [sPut_ok (xs := ds) (d := dQ (vZ z)) (j := (i : Int)) (n := i) rfl ?_ (by simp) hn]
        · rfl
        · simp [oIxO_ok (xs := ds), ix, g2, g3]
          rfl
      refine ⟨_, rfl, _, .inl ?_, ds.set i (dQ (vZ z)), some (.int (i : Int)), some (.int g), rfl, by simp [hl], fun k => ?_⟩
      · have e1 : oIxO 8 (dv 5) [a0, a1, a2, a3, a4, some (.int (i : Int)), a6, o7, some (.lst ds), a9, a10, a11] = .ok (dZ z) := by rw [oIxO_ok (xs := ds) rfl]; simp [ix]
        simp [b__law_shares_2, e1, g1, hp none]
      · by_cases e : k = i
        · subst e
          rw [List.getElem?_set_self (by omega), eg]
          simp
        · rw [List.getElem?_set_ne (by omega), hd k]
          have : k < i ↔ k < i + 1 := by omega
          simp [this]) [a0, a1, a2, a3, a4, o5, a6, o7, some (.lst (zs.map dZ)), a9, a10, a11]
    ⟨_, _, _, rfl, by simp, fun k => by simp⟩
  refine ⟨o5', o7', h1.trans ?_⟩
  have : ds = zs.map fun z => dQ (vZ z) := by
    apply List.ext_getElem?
    intro k
    rw [h3 k, List.getElem?_map]
    cases hk : zs[k]? with
    | none => rfl
    | some z =>
      have := (List.getElem?_eq_some_iff.mp hk).1
      simp [this]
  rw [this]
theorem bSum_ok (ns : List Int) : bSum [lstI ns] = .ok (.int ns.sum) := by
  show (match ints? (dI ns) with | some ns => Res.ok (D.int ns.sum) | none => .bad) = _
  rw [ints?_map]
theorem sum_bd : ∀ {ws : List Int}, (∀ w ∈ ws, 1 ≤ w ∧ w ≤ 9) → (ws.length : Int) ≤ ws.sum ∧ ws.sum ≤ 9 * ws.length
  | [], _ => by simp
  | w :: ws, h => by
    have ih := sum_bd (ws := ws) fun x hx => h x (List.mem_cons_of_mem _ hx)
    have := h w List.mem_cons_self
    simp only [List.sum_cons, List.length_cons]
    omega
theorem even_loop {ws : List Int} {m : Int} (hw : ∀ w ∈ ws, 1 ≤ w ∧ w ≤ 9) (h8 : ws.length ≤ 8) (sm : Sz 200 m) (a0 a2 a3 o5 o7 a8 a9 a10 a11 : Option D) : ∃ o5' o7', loopD (tgN 5) b__law_shares_1 (rngD 0 ws.length) [a0, some (.int m), a2, a3, some (lstI ws), o5, some (.lst []), o7, a8, a9, a10, a11] = .nx [a0, some (.int m), a2, a3, some (lstI ws), o5', some (.lst (ws.map fun w => dQ (pv (m * w) ws.sum))), o7', a8, a9, a10, a11] := by
  obtain ⟨e', h1, o5', o7', rfl⟩ := loop_rng (lo := 0) (tg := tgN 5) (body := b__law_shares_1) ws.length
    (fun i e => ∃ o5 o7, e = [a0, some (.int m), a2, a3, some (lstI ws), o5, some (.lst ((ws.take i).map fun w => dQ (pv (m * w) ws.sum))), o7, a8, a9, a10, a11])
    (fun i e hi ⟨o5, o7, he⟩ => by
      subst he
      have hm : ws[i] ∈ ws := List.getElem_mem hi
      have eg : ws[i]? = some ws[i] := List.getElem?_eq_getElem hi
      generalize ws[i] = w at hm eg
      have b := hw w hm
      have sb := sum_bd hw
      have bs := bSum_ok ws
      have S0 : 0 < ws.sum := by omega
      have SS : Sz 9000 ws.sum := Sz.small (by omega)
      obtain ⟨g, g1, g2, g3⟩ := low_ok (m * w) S0 SS
      have ix : oIx (lstI ws) (.int (i : Int)) = .ok (.int w) := oIx_lst rfl (map_get (f := D.int) eg)
      have mm : oMul (.int m) (.int w) = .ok (.int (m * w)) := oMul_r (by omega)
      have tk := take_snoc eg
      have hz : ((ws.take i).map fun w => dQ (pv (m * w) ws.sum)).length < 16777216 := by simp; omega
      have e1 : ((ws.take (i + 1)).map fun w => dQ (pv (m * w) ws.sum)) = ((ws.take i).map fun w => dQ (pv (m * w) ws.sum)) ++ [dQ (pv (m * w) ws.sum)] := by rw [tk]; simp
      rw [e1]
      generalize ((ws.take i).map fun w => dQ (pv (m * w) ws.sum)) = xs at hz
      refine ⟨_, rfl, _, .inl ?_, some (.int (i : Int)), some (.int g), rfl⟩
      simp [b__law_shares_1, ix, mm, bs, g1, g2, g3, hz]
      rfl) [a0, some (.int m), a2, a3, some (lstI ws), o5, some (.lst []), o7, a8, a9, a10, a11]
    ⟨o5, o7, by simp⟩
  rw [List.take_length] at h1
  exact ⟨o5', o7', h1⟩
theorem pv_sum (m S : Int) : ∀ ws : List Int, (ws.map fun w => pv (m * w) S).sum = pv (m * ws.sum) S
  | [] => by simp [pv, Rat.div_def]
  | w :: ws => by
    simp only [List.map_cons, List.sum_cons, pv_sum m S ws, pv]
    rw [Int.mul_add, Rat.intCast_add]
    grind
theorem sha_ws {rs : List Row} {ws : List Int} {m : Int} (hm : 0 ≤ m) (h8 : ws.length ≤ 8) (h0 : 0 < ws.length) (hl : ws.length = rs.length) (hw : ∀ w ∈ ws, 1 ≤ w ∧ w ≤ 9) : Sha rs m (ws.map fun w => pv (m * w) ws.sum) := by
  have sb := sum_bd hw
  have S0 : 0 < ws.sum := by omega
  have sq := Rat.intCast_pos.mpr S0
  refine ⟨by simp [hl], fun y hy => ?_, ?_, ws.sum, 61, S0, Sz.small (by omega), by omega, fun y hy => ?_⟩
  · obtain ⟨w, h, rfl⟩ := List.mem_map.mp hy
    have b := hw w h
    have := Rat.intCast_nonneg.mpr (Int.mul_nonneg hm (show 0 ≤ w by omega))
    have h4 := Rat.inv_pos.mpr sq
    unfold pv
    rw [Rat.div_def]
    exact Rat.mul_nonneg this (by grind)
  · rw [pv_sum]
    unfold pv
    rw [Rat.intCast_mul]
    grind
  · obtain ⟨w, h, rfl⟩ := List.mem_map.mp hy
    exact Zq.of S0
theorem sum_set : ∀ {xs : List Rat} {i : Nat} {x v : Rat}, xs[i]? = some x → (xs.set i v).sum = xs.sum - x + v
  | [], i, x, v, h => by simp at h
  | a :: xs, 0, x, v, h => by
    have : a = x := by simpa using h
    subst this
    simp only [List.set_cons_zero, List.sum_cons]
    grind
  | a :: xs, i + 1, x, v, h => by
    have ih := sum_set (xs := xs) (i := i) (x := x) (v := v) (by simpa using h)
    simp only [List.set_cons_succ, List.sum_cons, ih]
    grind
/-- the part of street i that goes to street j -/
theorem sha_move {rs : List Row} {m : Int} {xs : List Rat} (S : Sha rs m xs) {D : Int} {k : Nat} (hD : 0 < D) (sD : Sz k D) (hk : k ≤ 1910) (hz : ∀ y ∈ xs, Zq D y) {i j : Nat} {x y : Rat} (hi : xs[i]? = some x) (hj : xs[j]? = some y) (hij : i ≠ j) {p : Int} (hp : 2 ≤ p ∧ p ≤ 9) : Sha rs m ((xs.set i (x - x / (p : Rat))).set j (y + x / (p : Rat))) := by
  have mi := List.mem_of_getElem? hi
  have mj := List.mem_of_getElem? hj
  have x0 := S.nn x mi
  have y0 := S.nn y mj
  have pq : 2 ≤ (p : Rat) := by have := Rat.intCast_le_intCast.mpr hp.1; simpa using this
  have q0 : 0 ≤ x / (p : Rat) := by
    have h4 := Rat.inv_pos.mpr (show 0 < (p : Rat) by grind)
    rw [Rat.div_def]; exact Rat.mul_nonneg x0 (by grind)
  have q1 : x / (p : Rat) ≤ x := by
    have e := Rat.div_mul_cancel (a := x) (b := (p : Rat)) (by grind)
    have := Rat.mul_nonneg q0 (show 0 ≤ (p : Rat) - 1 by grind)
    grind
  have zp : Zq (D * p) (x / (p : Rat)) := by
    obtain ⟨z, h⟩ := hz x mi
    refine ⟨z, ?_⟩
    rw [Rat.intCast_mul, ← h]
    grind
  have zn : Zq (D * p) (-(x / (p : Rat))) := by
    have := zp.smul (-1)
    have e : ((-1 : Int) : Rat) * (x / (p : Rat)) = -(x / (p : Rat)) := by grind
    rwa [e] at this
  refine ⟨by simp [S.len], fun v hv => ?_, ?_, D * p, k + 4, Int.mul_pos hD (by omega), sD.mul (by unfold Sz; omega), by omega, fun v hv => ?_⟩
  · rcases List.mem_or_eq_of_mem_set hv with h | h
    · rcases List.mem_or_eq_of_mem_set h with h | h
      · exact S.nn v h
      · subst h; grind
    · subst h; grind
  · rw [sum_set (x := y) (by rw [List.getElem?_set_ne hij]; exact hj), sum_set hi, S.sum]
    grind
  · rcases List.mem_or_eq_of_mem_set hv with h | h
    · rcases List.mem_or_eq_of_mem_set h with h | h
      · exact (hz v h).more p
      · subst h
        have := ((hz x mi).more p).add zn
        rwa [← Rat.sub_eq_add_neg] at this
    · subst h; exact ((hz y mj).more p).add zp
end K12
set_option Elab.async false
set_option linter.all false
set_option maxRecDepth 100000
/-! k12: shares, costs, dearness. -/
namespace K12
open PySem Fz Fz.Std Fz.Str P12
theorem plus_sz {a b c d : Int} {n m r t : Nat} (hb : 0 < b) (hd : 0 < d) (sa : Sz n a) (sb : Sz r b) (sc : Sz m c) (sd : Sz t d) (h : n + t ≤ 900000) (h2 : m + r ≤ 900000) (h3 : r + t ≤ 900000 := by omega) : ∃ p q, Str.f__law_plus [dP a b, dP c d] = .ok (dP p q) ∧ 0 < q ∧ pv p q = pv a b + pv c d ∧ Sz (r + t) q := by
  by_cases e : b = d
  · subst e
    refine ⟨a + c, b, ?_, hb, ?_, sb.mono (by omega)⟩
    · simp [Str.f__law_plus, runD_eq, Str.m__law_plus, startE, List.replicate]
    · have h1 := Rat.intCast_pos.mpr hb
      unfold pv
      rw [Rat.intCast_add]
      grind
  · refine ⟨a * d + c * b, b * d, ?_, Int.mul_pos hb hd, pv_add hb hd, sb.mul sd⟩
    simp [Str.f__law_plus, runD_eq, Str.m__law_plus, startE, List.replicate, e, oMul_sz sa sd h, oMul_sz sc sb h2, oMul_sz sb sd h3]
theorem shares_ok {rs : List Row} {m : Int} {xs : List Rat} (hm : 0 ≤ m) (sm : Sz 200 m) (h0 : rs ≠ []) (h8 : rs.length ≤ 8) (S : Sha rs m xs) {D : Int} {k : Nat} (hD : 0 < D) (sD : Sz k D) (hk : k ≤ 1910) (hz : ∀ y ∈ xs, Zq D y) (tops : List Int) (ht : tops.length = 16) (hb : ∀ x ∈ tops, 0 ≤ x ∧ x < 3600) :
    ∃ y1 y2, f__law_shares [.lst (rs.map dR), .int m, .tup (xs.map dQ), lstI tops] = .ok (.lst [.lst (y1.map dQ), .lst (y2.map dQ)]) ∧ Sha rs m y1 ∧ Sha rs m y2 := by
  have lp : 0 < rs.length := List.length_pos_iff.mpr h0
  have x14 : oIx (lstI tops) (.int 14) = .ok (.int (nth tops 14)) := oIx_dNl (n := 14) (by omega)
  have x15 : oIx (lstI tops) (.int 15) = .ok (.int (nth tops 15)) := oIx_dNl (n := 15) (by omega)
  have x3 : oIx (lstI tops) (.int 3) = .ok (.int (nth tops 3)) := oIx_dNl (n := 3) (by omega)
  generalize nth tops 14 = t14 at x14
  generalize nth tops 15 = t15 at x15
  generalize nth tops 3 = t3 at x3
  have rg : rng1D [.int (rs.length : Int)] = .ok (rngD 0 rs.length) := rng1_ok (by omega)
  -- the weights
  have hlc : ∀ e0 e1 e2 e6 e7 e8 e9 e10 e11 : Option Fz.D, lcGo (tgN 5) dYes b__law_shares_0 [e0, e1, e2, some (lstI tops), none, none, e6, e7, e8, e9, e10, e11] (rngD 0 rs.length) = .ok ((digs rs.length).map fun i => Fz.D.int (1 + nth tops (6 + i).toNat % 9)) := fun e0 e1 e2 e6 e7 e8 e9 e10 e11 => by
    rw [rngD0]
    refine lc_map (dd := Fz.D.int) (g := fun i => Fz.D.int (1 + nth tops (6 + i).toNat % 9)) fun i hi => ⟨_, rfl, ?_⟩
    have b := digs_mem.mp hi
    have ix : oIx (lstI tops) (.int (6 + i)) = .ok (.int (nth tops (6 + i).toNat)) := oIx_lstI (by omega) (by omega)
    simp [b__law_shares_0, ix, oMod_p]
  have ew : ((digs rs.length).map fun i => Fz.D.int (1 + nth tops (6 + i).toNat % 9)) = dI ((digs rs.length).map fun i => 1 + nth tops (6 + i).toNat % 9) := by simp
  have hw : ∀ w ∈ (digs rs.length).map (fun i => 1 + nth tops (6 + i).toNat % 9), 1 ≤ w ∧ w ≤ 9 := fun w h => by
    obtain ⟨i, _, rfl⟩ := List.mem_map.mp h
    omega
  have lw : ((digs rs.length).map fun i => 1 + nth tops (6 + i).toNat % 9).length = rs.length := by simp [digs_len]
  rw [ew] at hlc
  generalize ((digs rs.length).map fun i => 1 + nth tops (6 + i).toNat % 9) = ws at hlc hw lw
  have hend : endLc (.ok (dI ws)) = .ok (lstI ws) := endLc_map (by omega)
  obtain ⟨o5, o7, hev⟩ := even_loop hw (by omega) sm (some (.lst (rs.map dR))) (some (.tup (xs.map dQ))) (some (lstI tops)) none none none none none none
  rw [lw] at hev
  have S1 := sha_ws hm (by omega) (by omega) lw hw
  have em : (ws.map fun w => dQ (pv (m * w) ws.sum)) = (ws.map fun w => pv (m * w) ws.sum).map dQ := by simp
  rw [em] at hev
  generalize (ws.map fun w => pv (m * w) ws.sum) = y1 at S1 hev
  refine ⟨y1, ?_⟩
  -- the streets i, j
  have i0 := Int.emod_nonneg t14 (show (rs.length : Int) ≠ 0 by omega)
  have i1 := Int.emod_lt_of_pos t14 (show (0 : Int) < rs.length by omega)
  have j0 := Int.emod_nonneg t15 (show (rs.length : Int) ≠ 0 by omega)
  have j1 := Int.emod_lt_of_pos t15 (show (0 : Int) < rs.length by omega)
  have m1 : oMod (.int t14) (.int (rs.length : Int)) = .ok (.int (t14 % (rs.length : Int))) := oMod_p (by omega)
  have m2 : oMod (.int t15) (.int (rs.length : Int)) = .ok (.int (t15 % (rs.length : Int))) := oMod_p (by omega)
  generalize t14 % (rs.length : Int) = i at i0 i1 m1
  generalize t15 % (rs.length : Int) = j at j0 j1 m2
  obtain ⟨i, rfl⟩ := Int.eq_ofNat_of_zero_le i0
  obtain ⟨j, rfl⟩ := Int.eq_ofNat_of_zero_le j0
  have lx := S.len
  have ezs : ∀ zs : List (Int × Int), (zs.map fun z => dQ (vZ z)) = (zs.map vZ).map dQ := fun zs => by simp
  have z0 : (xs.map fun x => (x.num, (x.den : Int))).map dZ = xs.map dQ := by simp [dQ]
  have z1 : (xs.map fun x => (x.num, (x.den : Int))).map vZ = xs := by
    rw [List.map_map]
    have : (vZ ∘ fun x : Rat => (x.num, (x.den : Int))) = id := funext fun x => pv_q x
    rw [this, List.map_id]
  have z2 : ∀ z ∈ xs.map fun x => (x.num, (x.den : Int)), 0 < z.2 ∧ Sz 1920 z.2 := fun z h => by
    obtain ⟨x, hx, rfl⟩ := List.mem_map.mp h
    exact ⟨den_pos' x, ((hz x hx).den hD sD).mono (by omega)⟩
  by_cases e : i = j
  · subst e
    obtain ⟨p5, p7, hn⟩ := norm_loop (zs := xs.map fun x => (x.num, (x.den : Int))) (fun z h => ⟨(z2 z h).1, (z2 z h).2.mono (by omega)⟩) (some (.lst (rs.map dR))) (some (.int m)) (some (.tup (xs.map dQ))) (some (lstI tops)) (some (lstI ws)) o5 (some (.lst (y1.map dQ))) o7 (some (.int (i : Int))) (some (.int (i : Int))) none
    rw [ezs, z0, z1, List.length_map, lx] at hn
    refine ⟨xs, ?_, S1, S⟩
    simp [f__law_shares, runD_eq, m__law_shares, startE, List.replicate, rg, hlc, hend, hev, x14, x15, m1, m2, hn]
  · have gi : xs[i]? = some xs[i] := List.getElem?_eq_getElem (by omega)
    have gj : xs[j]? = some xs[j] := List.getElem?_eq_getElem (by omega)
    generalize xs[i] = x at gi
    generalize xs[j] = y at gj
    have p0 := Int.emod_nonneg t3 (show (8 : Int) ≠ 0 by decide)
    have p1 := Int.emod_lt_of_pos t3 (show (0 : Int) < 8 by decide)
    have hp : 2 ≤ 2 + t3 % 8 ∧ 2 + t3 % 8 ≤ 9 := by omega
    generalize hpe : 2 + t3 % 8 = p at hp
    have pq : 2 ≤ (p : Rat) := by have := Rat.intCast_le_intCast.mpr hp.1; simpa using this
    have ix1 : oIx (.tup (xs.map dQ)) (.int (i : Int)) = .ok (dQ x) := oIx_tup rfl (map_get gi)
    have ix2 : oIx (.tup (xs.map dQ)) (.int (j : Int)) = .ok (dQ y) := oIx_tup rfl (map_get gj)
    have a1 : oMul (.int x.num) (.int (p - 1)) = .ok (.int (x.num * (p - 1))) := oMul_r (by omega)
    have a2 : oMul (.int (x.den : Int)) (.int p) = .ok (.int ((x.den : Int) * p)) := oMul_r (by omega)
    obtain ⟨D', k', hD', sD', hk', _, okq⟩ := S.ok sm
    have ox := okq x (List.mem_of_getElem? gi)
    have oy := okq y (List.mem_of_getElem? gj)
    have dx := (ox.z.den hD' sD').mono (show k' ≤ 1920 by omega)
    have dy := (oy.z.den hD' sD').mono (show k' ≤ 1920 by omega)
    have sp : Sz 4 p := by unfold Sz; omega
    have pdx := Int.mul_pos (den_pos' x) (show 0 < p by omega)
    obtain ⟨u, v, b1, b2, b3, c5⟩ := plus_sz (a := y.num) (b := (y.den : Int)) (c := x.num) (d := (x.den : Int) * p) (n := 20000) (m := 20000) (r := 1920) (t := 1924) (den_pos' y) pdx oy.s dy ox.s (dx.mul sp) (by omega) (by omega)
    have b1' : Str.f__law_plus [dQ y, dP x.num ((x.den : Int) * p)] = .ok (dP u v) := b1
    have l1 : L2.ixN (xs.map dQ).length (i : Int) = some i := ixN_nat rfl (by simp; omega)
    have l2 : L2.ixN ((xs.map dQ).set i (dP (x.num * (p - 1)) ((x.den : Int) * p))).length (j : Int) = some j := ixN_nat rfl (by simp; omega)
    have P1 : sPut 8 (dv 9) (dcall oTup (dcons (d2 oMul (d2 oIx (d2 oIx (dv 2) (dv 9)) (dc (.int 0))) (d2 oSub (dv 11) (dc (.int 1)))) (dcons (d2 oMul (d2 oIx (d2 oIx (dv 2) (dv 9)) (dc (.int 1))) (dv 11)) dnil))) [some (.lst (rs.map dR)), some (.int m), some (.tup (xs.map dQ)), some (lstI tops), some (lstI ws), o5, some (.lst (y1.map dQ)), o7, some (.lst (xs.map dQ)), some (.int (i : Int)), some (.int (j : Int)), some (.int p)] = .nx [some (.lst (rs.map dR)), some (.int m), some (.tup (xs.map dQ)), some (lstI tops), some (lstI ws), o5, some (.lst (y1.map dQ)), o7, some (.lst ((xs.map dQ).set i (dP (x.num * (p - 1)) ((x.den : Int) * p)))), some (.int (i : Int)), some (.int (j : Int)), some (.int p)] := by
      rw [sPut_ok (xs := xs.map dQ) (d := dP (x.num * (p - 1)) ((x.den : Int) * p)) (j := (i : Int)) (n := i) rfl ?_ (by simp) l1]
      · rfl
      · simp [ix1, a1, a2]
    have P2 : sPut 8 (dv 10) (dcall (withD 2 [] f__law_plus) (dcons (d2 oIx (dv 2) (dv 10)) (dcons (dcall oTup (dcons (d2 oIx (d2 oIx (dv 2) (dv 9)) (dc (.int 0))) (dcons (d2 oMul (d2 oIx (d2 oIx (dv 2) (dv 9)) (dc (.int 1))) (dv 11)) dnil))) dnil))) [some (.lst (rs.map dR)), some (.int m), some (.tup (xs.map dQ)), some (lstI tops), some (lstI ws), o5, some (.lst (y1.map dQ)), o7, some (.lst ((xs.map dQ).set i (dP (x.num * (p - 1)) ((x.den : Int) * p)))), some (.int (i : Int)), some (.int (j : Int)), some (.int p)] = .nx [some (.lst (rs.map dR)), some (.int m), some (.tup (xs.map dQ)), some (lstI tops), some (lstI ws), o5, some (.lst (y1.map dQ)), o7, some (.lst (((xs.map dQ).set i (dP (x.num * (p - 1)) ((x.den : Int) * p))).set j (dP u v))), some (.int (i : Int)), some (.int (j : Int)), some (.int p)] := by
      rw [sPut_ok (xs := (xs.map dQ).set i (dP (x.num * (p - 1)) ((x.den : Int) * p))) (d := dP u v) (j := (j : Int)) (n := j) rfl ?_ (by simp) l2]
      · rfl
      · simp [ix1, ix2, a2, e_plus]
        exact b1'
    -- in lowest terms
    have zz : ((xs.map dQ).set i (dP (x.num * (p - 1)) ((x.den : Int) * p))).set j (dP u v) = (((xs.map fun x => (x.num, (x.den : Int))).set i (x.num * (p - 1), (x.den : Int) * p)).set j (u, v)).map dZ := by
      rw [List.map_set, List.map_set, z0]
    have zl : (((xs.map fun x => (x.num, (x.den : Int))).set i (x.num * (p - 1), (x.den : Int) * p)).set j (u, v)).length = rs.length := by simp [lx]
    have zv : (((xs.map fun x => (x.num, (x.den : Int))).set i (x.num * (p - 1), (x.den : Int) * p)).set j (u, v)).map vZ = (xs.set i (x - x / (p : Rat))).set j (y + x / (p : Rat)) := by
      rw [List.map_set, List.map_set, z1]
      have e1 : vZ (x.num * (p - 1), (x.den : Int) * p) = x - x / (p : Rat) := by
        have f1 := num_div_den' x
        have f2 := Rat.intCast_pos.mpr (den_pos' x)
        show ((x.num * (p - 1) : Int) : Rat) / (((x.den : Int) * p : Int) : Rat) = _
        rw [Rat.intCast_mul, Rat.intCast_mul, Rat.intCast_sub]
        have f3 : ((1 : Int) : Rat) = 1 := rfl
        rw [f3]
        generalize ((x.den : Int) : Rat) = dd at *
        generalize (x.num : Rat) = nn' at *
        rw [← f1]
        grind
      have e2 : vZ (u, v) = y + x / (p : Rat) := by
        show pv u v = _
        rw [b3, pv_q]
        have f1 := num_div_den' x
        have f2 := Rat.intCast_pos.mpr (den_pos' x)
        unfold pv
        rw [Rat.intCast_mul]
        generalize ((x.den : Int) : Rat) = dd at *
        generalize (x.num : Rat) = nn' at *
        rw [← f1]
        grind
      rw [e1, e2]
    have zb : ∀ z ∈ ((xs.map fun x => (x.num, (x.den : Int))).set i (x.num * (p - 1), (x.den : Int) * p)).set j (u, v), 0 < z.2 ∧ Sz 9000 z.2 := fun z h => by
      rcases List.mem_or_eq_of_mem_set h with h | h
      · rcases List.mem_or_eq_of_mem_set h with h | h
        · exact ⟨(z2 z h).1, (z2 z h).2.mono (by omega)⟩
        · subst h; exact ⟨pdx, (dx.mul sp).mono (by omega)⟩
      · subst h; exact ⟨b2, c5.mono (by omega)⟩
    have hn := norm_loop zb (some (.lst (rs.map dR))) (some (.int m)) (some (.tup (xs.map dQ))) (some (lstI tops)) (some (lstI ws)) o5 (some (.lst (y1.map dQ))) o7 (some (.int (i : Int))) (some (.int (j : Int))) (some (.int p))
    rw [ezs, ← zz, zv, zl] at hn
    obtain ⟨p5, p7, hn⟩ := hn
    refine ⟨_, ?_, S1, sha_move S hD sD hk hz gi gj e hp⟩
    have eI : ¬ ((i : Int) = (j : Int)) := by omega
    simp [f__law_shares, runD_eq, m__law_shares, startE, List.replicate, rg, hlc, hend, hev, x3, x14, x15, m1, m2, oMod_p, hpe, eI, P1, P2, hn]
/-! ### the dearness -/
theorem mul_den {x y : Rat} {d e : Nat} (h1 : Sz d (x.den : Int)) (h2 : Sz e (y.den : Int)) : Sz (d + e) ((x * y).den : Int) := by
  have p := Int.mul_pos (den_pos' x) (den_pos' y)
  rw [← mulQ x y]
  exact (h1.mul h2).tdvd (den_dvd p) (by omega)
theorem inv_pair {q : Rat} (h : 0 < q) : dP (q.den : Int) q.num = dQ q⁻¹ ∧ (q⁻¹).num = (q.den : Int) ∧ ((q⁻¹).den : Int) = q.num := by
  have n0 : 0 < q.num := by
    have := Rat.num_nonneg.mpr (Rat.le_of_lt h)
    have := Rat.num_eq_zero (q := q)
    grind
  obtain ⟨h1, h2⟩ := low_pos (q.den : Int) n0
  have g : Int.gcd (q.den : Int) q.num = 1 := by rw [Int.gcd_comm]; exact q_gcd q
  have e : ((q.den : Int) : Rat) / (q.num : Rat) = q⁻¹ := by
    have e1 := num_div_den' q
    have e2 := Rat.intCast_pos.mpr (den_pos' q)
    have e3 := Rat.intCast_pos.mpr n0
    generalize ((q.den : Int) : Rat) = dd at *
    generalize (q.num : Rat) = nn' at *
    rw [← e1]
    grind
  rw [e, g, Int.natCast_one, Int.ediv_one] at h1 h2
  refine ⟨?_, h1, by omega⟩
  unfold dQ
  rw [h1, h2]
structure Costs (rs : List Row) (m : Int) (es xs : List Rat) : Prop where
  h8 : rs.length ≤ 8
  hg : ∀ r ∈ rs, GoodB 110 r
  m0 : 0 ≤ m
  sm : Sz 200 m
  E : Sha rs m es
  X : Sha rs m xs
  best : ∀ ys, Sha rs m ys → cost rs xs ≤ cost rs ys
  dear : 3 * cost rs es ≤ 4 * cost rs xs
def dearQ (rs : List Row) (m : Int) (es xs : List Rat) : Rat := if m = 0 then 1 else cost rs es * (cost rs xs)⁻¹
theorem dearness_ok {rs : List Row} {m : Int} {es xs : List Rat} (C : Costs rs m es xs) {l1 l2 : Rat} (he : Str.f_even_share [dS rs, .int m] = .ok (.tup [dQ l1, .tup (es.map dQ)])) (hb : Str.f_best_share [dS rs, .int m] = .ok (.tup [dQ l2, .tup (xs.map dQ)])) :
    f_crowd_dearness [dS rs, .int m] = .ok (dQ (dearQ rs m es xs)) ∧ Sz 9000 ((dearQ rs m es xs).den : Int) ∧ 1 ≤ dearQ rs m es xs ∧ 3 * dearQ rs m es xs ≤ 4 ∧ (m ≠ 0 → dearQ rs m es xs * cost rs xs = cost rs es) ∧ Sz 90000 (dearQ rs m es xs).num := by
  obtain ⟨D, k, d1, d2, d3, d4, d5⟩ := C.E.ok C.sm
  obtain ⟨D', k', t1, t2, t3, t4, t5⟩ := C.X.ok C.sm
  have g112 : ∀ r ∈ rs, GoodB 112 r := fun r hr => gmono (C.hg r hr) (by omega)
  have g111 : ∀ r ∈ rs, GoodB 111 r := fun r hr => gmono (C.hg r hr) (by omega)
  have c1 := cost_ok d1 d2 (by omega) (by omega) C.h8 C.E.len g112 d5 (a := .tup (es.map dQ)) (.inl rfl)
  have c2 := cost_ok t1 t2 (by omega) (by omega) C.h8 C.X.len g112 t5 (a := .tup (xs.map dQ)) (.inl rfl)
  have n1 := cost_num C.h8 g111 C.E.nn C.E.sum C.sm d1 d2 d4
  have n2 := cost_num C.h8 g111 C.X.nn C.X.sum C.sm t1 t2 t4
  have e1 := (cost_zq (rs := rs) d4).den (Int.mul_pos d1 d1) (d2.mul d2)
  have e2 := (cost_zq (rs := rs) t4).den (Int.mul_pos t1 t1) (t2.mul t2)
  have bb := C.best es C.E
  have dd := C.dear
  have c0 : m ≠ 0 → 0 < cost rs xs := fun h => cost_pos rs xs (fun r hr => (C.hg r hr).g) C.X.nn C.X.len (by rw [C.X.sum]; exact Rat.intCast_pos.mpr (by have := C.m0; omega))
  generalize hce : cost rs es = ce at *
  generalize hcb : cost rs xs = cb at *
  have ix1 : oIx (.tup [dQ l1, .tup (es.map dQ)]) (.int 1) = .ok (.tup (es.map dQ)) := oIx_tup (n := 1) rfl rfl
  have ix2 : oIx (.tup [dQ l2, .tup (xs.map dQ)]) (.int 1) = .ok (.tup (xs.map dQ)) := oIx_tup (n := 1) rfl rfl
  by_cases h : m = 0
  · subst h
    have e : dearQ rs 0 es xs = 1 := rfl
    rw [e]
    refine ⟨?_, (show Sz 9000 (1 : Int) from sz1.mono (by omega)), by decide, by grind, fun z => absurd rfl z, (show Sz 90000 (1 : Int) from sz1.mono (by omega))⟩
    simp [f_crowd_dearness, runD_eq, m_crowd_dearness, startE, List.replicate, e_even, e_best, e_cost, he, hb, c1, c2]
    rfl
  · have e : dearQ rs m es xs = ce * cb⁻¹ := by unfold dearQ; rw [if_neg h, hce, hcb]
    have cp := c0 h
    obtain ⟨i1, i2, i3⟩ := inv_pair cp
    have dn := mul_den (x := ce) (y := cb⁻¹) e1 (by rw [i3]; exact n2)
    have tm := times_ok (x := ce) (y := cb⁻¹) n1 (by rw [i2]; exact e2) e1 (by rw [i3]; exact n2) (by omega) (by omega)
    rw [← i1] at tm
    have nm := sz_mulQ (x := ce) (y := cb⁻¹) n1 (by rw [i2]; exact e2)
    have inv : cb * cb⁻¹ = 1 := Rat.mul_inv_cancel _ (by grind)
    have ip : 0 < cb⁻¹ := Rat.inv_pos.mpr cp
    rw [e]
    refine ⟨?_, dn.mono (by omega), ?_, ?_, fun _ => by grind, nm.mono (by omega)⟩
    · have tm' : Std.f_times [dQ ce, .tup [.int (cb.den : Int), .int cb.num]] = _ := tm
      simp [f_crowd_dearness, runD_eq, m_crowd_dearness, startE, List.replicate, e_even, e_best, e_cost, e_times, he, hb, c1, c2, h]
      simp [dQ] at tm' ⊢
      simp [tm']
    · have := Rat.mul_le_mul_of_nonneg_right bb (Rat.le_of_lt ip)
      grind
    · have := Rat.mul_le_mul_of_nonneg_right dd (Rat.le_of_lt ip)
      grind
end K12
set_option Elab.async false
set_option linter.all false
set_option maxRecDepth 100000
/-! k12: costs, tolls, alike. -/
namespace K12
open PySem Fz Fz.Std Fz.Str P12
theorem pv_mul {a b c d : Int} (hb : 0 < b) (hd : 0 < d) : pv (a * c) (b * d) = pv a b * pv c d := by
  have h1 := Rat.intCast_pos.mpr hb
  have h2 := Rat.intCast_pos.mpr hd
  unfold pv
  rw [Rat.intCast_mul, Rat.intCast_mul]
  grind
theorem costs_turn {rs : List Row} {m : Int} {es xs ys : List Rat} (C : Costs rs m es xs) (Y : Sha rs m ys) {p q : Int} (q0 : 0 < q) (hv : pv p q = cost rs xs) (sp : Sz 400000 p) (sq : Sz 400000 q) (a2 a3 a4 a5 o6 : Option Fz.D) :
    b__law_costs_0 [some (dS rs), some (.lst (rs.map dR)), a2, a3, a4, a5, o6, some (dP p q), some (.lst (ys.map dQ))] = .nx [some (dS rs), some (.lst (rs.map dR)), a2, a3, a4, a5, some (dQ (cost rs ys)), some (dP p q), some (.lst (ys.map dQ))] := by
  obtain ⟨D, k, d1, d2, d3, d4, d5⟩ := Y.ok C.sm
  have g112 : ∀ r ∈ rs, GoodB 112 r := fun r hr => gmono (C.hg r hr) (by omega)
  have g111 : ∀ r ∈ rs, GoodB 111 r := fun r hr => gmono (C.hg r hr) (by omega)
  have c1 := cost_ok d1 d2 (by omega) (by omega) C.h8 Y.len g112 d5 (a := .lst (ys.map dQ)) (.inr rfl)
  have k1 := is_cost_ok d1 d2 (by omega) (by omega) C.h8 Y.len g112 d5 (a := .lst (ys.map dQ)) (.inr rfl)
  have n1 := cost_num C.h8 g111 Y.nn Y.sum C.sm d1 d2 d4
  have e1 := (cost_zq (rs := rs) d4).den (Int.mul_pos d1 d1) (d2.mul d2)
  have le := C.best ys Y
  generalize cost rs ys = c at *
  have m1 := oMul_sz n1 sq (by omega)
  have m2 := oMul_sz sp e1 (by omega)
  have nl : ¬ c.num * q < p * (c.den : Int) := by
    rw [pv_lt (den_pos' c) q0, hv, pv_q]
    grind
  simp [b__law_costs_0, e_cost, e_iscost, c1, k1, m1, m2, nl]
theorem costs_ok {rs : List Row} {m : Int} {es xs : List Rat} (C : Costs rs m es xs) (h0 : rs ≠ []) {l1 l2 : Rat} (he : Str.f_even_share [dS rs, .int m] = .ok (.tup [dQ l1, .tup (es.map dQ)])) (hb : Str.f_best_share [dS rs, .int m] = .ok (.tup [dQ l2, .tup (xs.map dQ)])) (tops : List Int) (ht : tops.length = 16) (hbt : ∀ x ∈ tops, 0 ≤ x ∧ x < 3600)
    {D' : Int} {k' : Nat} (t1 : 0 < D') (t2 : Sz k' D') (t3 : k' ≤ 1910) (t4 : ∀ y ∈ xs, Zq D' y) :
    f__law_costs [dS rs, .lst (rs.map dR), .int m, .tup (es.map dQ), .tup (xs.map dQ), lstI tops] = .ok (.bl true) := by
  obtain ⟨D, k, d1, d2, d3, d4, d5⟩ := C.E.ok C.sm
  obtain ⟨E', k2, f1, f2, f3, f4, f5⟩ := C.X.ok C.sm
  have g112 : ∀ r ∈ rs, GoodB 112 r := fun r hr => gmono (C.hg r hr) (by omega)
  have c1 := cost_ok d1 d2 (by omega) (by omega) C.h8 C.E.len g112 d5 (a := .lst (es.map dQ)) (.inr rfl)
  have k1 := is_cost_ok d1 d2 (by omega) (by omega) C.h8 C.E.len g112 d5 (a := .tup (es.map dQ)) (.inl rfl)
  have c2 := cost_ok f1 f2 (by omega) (by omega) C.h8 C.X.len g112 f5 (a := .tup (xs.map dQ)) (.inl rfl)
  have k2' := is_cost_ok f1 f2 (by omega) (by omega) C.h8 C.X.len g112 f5 (a := .tup (xs.map dQ)) (.inl rfl)
  obtain ⟨p, q, v1, q0, hv, sp, sq⟩ := lcost_ok f1 f2 (by omega) (by omega) C.h8 C.X.len g112 f5 (a := .tup (xs.map dQ)) (.inl rfl)
  obtain ⟨p', q', v1', q0', hv', sp', sq'⟩ := lcost_ok d1 d2 (by omega) (by omega) C.h8 C.E.len g112 d5 (a := .tup (es.map dQ)) (.inl rfl)
  obtain ⟨y1, y2, sh, Y1, Y2⟩ := shares_ok C.m0 C.sm h0 C.h8 C.X t1 t2 t3 t4 tops ht hbt
  obtain ⟨w1, w2, w3, w4, w5, w6⟩ := dearness_ok C he hb
  have lp : ∀ o6 : Option Fz.D, loopD (tgN 8) b__law_costs_0 [.lst (y1.map dQ), .lst (y2.map dQ)] [some (dS rs), some (.lst (rs.map dR)), some (.int m), some (.tup (es.map dQ)), some (.tup (xs.map dQ)), some (lstI tops), o6, some (dP p q), none] = .nx [some (dS rs), some (.lst (rs.map dR)), some (.int m), some (.tup (es.map dQ)), some (.tup (xs.map dQ)), some (lstI tops), some (dQ (cost rs y2)), some (dP p q), some (.lst (y2.map dQ))] := fun o6 => by
    rw [loopD_nx (e1 := [some (dS rs), some (.lst (rs.map dR)), some (.int m), some (.tup (es.map dQ)), some (.tup (xs.map dQ)), some (lstI tops), o6, some (dP p q), some (.lst (y1.map dQ))]) (by simp) (costs_turn C Y1 q0 hv sp sq _ _ _ _ _),
      loopD_nx (e1 := [some (dS rs), some (.lst (rs.map dR)), some (.int m), some (.tup (es.map dQ)), some (.tup (xs.map dQ)), some (lstI tops), some (dQ (cost rs y1)), some (dP p q), some (.lst (y2.map dQ))]) (by simp) (costs_turn C Y2 q0 hv sp sq _ _ _ _ _), loopD_nil]
  have ex := exact_ok w2 (by omega)
  have hd1 : m = 0 → dearQ rs m es xs = 1 := fun h => if_pos h
  generalize dearQ rs m es xs = dq at *
  have dp := den_pos' dq
  have e0 := num_div_den' dq
  have r1 := Rat.intCast_pos.mpr dp
  have nl1 : ¬ dq.num < (dq.den : Int) := by
    intro h
    have h' := Rat.intCast_lt_intCast.mpr h
    have := Rat.mul_le_mul_of_nonneg_right w3 (Rat.le_of_lt r1)
    have := Rat.div_mul_cancel (a := (dq.num : Rat)) (b := ((dq.den : Int) : Rat)) (by grind)
    rw [e0] at this
    grind
  have nl2 : ¬ 4 * (dq.den : Int) < 3 * dq.num := by
    intro h
    have h' := Rat.intCast_lt_intCast.mpr h
    rw [Rat.intCast_mul, Rat.intCast_mul] at h'
    have f3 : ((3 : Int) : Rat) = 3 := rfl
    have f4 : ((4 : Int) : Rat) = 4 := rfl
    rw [f3, f4] at h'
    have := Rat.mul_le_mul_of_nonneg_right w4 (Rat.le_of_lt r1)
    have := Rat.div_mul_cancel (a := (dq.num : Rat)) (b := ((dq.den : Int) : Rat)) (by grind)
    rw [e0] at this
    grind
  have m3 : oMul (.int 3) (.int dq.num) = .ok (.int (3 * dq.num)) := oMul_l (by omega)
  have m4 : oMul (.int 4) (.int (dq.den : Int)) = .ok (.int (4 * (dq.den : Int))) := oMul_l (by omega)
  by_cases hm : m = 0
  · have d1' : dq = 1 := hd1 hm
    subst hm
    subst d1'
    have m3' : oMul (.int 3) (.int 1) = .ok (.int 3) := oMul_l (by omega)
    have m4' : oMul (.int 4) (.int 1) = .ok (.int 4) := oMul_l (by omega)
    simp [f__law_costs, runD_eq, m__law_costs, startE, List.replicate, e_cost, e_iscost, e_lcost, e_exact, c1, c2, k1, k2', v1, sh, lp, w1, ex, m3', m4']
  · have w5' := w5 hm
    have m5 := oMul_sz w6 sp (by omega)
    have m6 := oMul_sz w2 sq (by omega)
    have eq := equal_ok (a := dq.num * p) (b := (dq.den : Int) * q) (c := p') (d := q') (n := 490000) (m := 400000) (Int.mul_pos dp q0) q0' ((w6.mul sp).mono (by omega)) ((w2.mul sq).mono (by omega)) sp' sq' (by omega)
    rw [pv_mul dp q0, pv_q, hv, hv', w5'] at eq
    simp at eq
    simp [f__law_costs, runD_eq, m__law_costs, startE, List.replicate, e_cost, e_iscost, e_lcost, e_exact, e_equal, c1, c2, k1, k2', v1, v1', sh, lp, w1, ex, nl1, nl2, m3, m4, hm, m5, m6, eq]
/-! ### the tolls -/
theorem zip_slopes (g : Row → Rat) : ∀ rs : List Row, zipD (dI (fst' rs)) ((rs.map g).map dQ) = rs.map fun r => .tup [.int r.1, dQ (g r)]
  | [] => rfl
  | r :: rs => by
    have ih := zip_slopes g rs
    simp only [fst', List.map_cons, zipD] at ih ⊢
    rw [ih]
theorem tolls_ok {rs : List Row} {m : Int} {g : Row → Rat} {l : Rat} (sm : Sz 200 m) (h8 : rs.length ≤ 8) (hg : ∀ r ∈ rs, GoodB 110 r) (X : Sha rs m (rs.map g)) (hb : Str.f_best_share [dS rs, .int m] = .ok (.tup [dQ l, .tup ((rs.map g).map dQ)])) :
    f__law_tolls [dS rs, .lst (rs.map dR), .int m, .tup ((rs.map g).map dQ)] = .ok (.bl true) := by
  obtain ⟨D, k, d1, d2, d3, d4, d5⟩ := X.ok sm
  have tl : f_street_tolls [dS rs, .int m] = .ok (.tup (rs.map fun r => dQ ((r.1 : Rat) * g r))) := by
    have ix : oIx (.tup [dQ l, .tup ((rs.map g).map dQ)]) (.int 1) = .ok (.tup ((rs.map g).map dQ)) := oIx_tup (n := 1) rfl rfl
    have zz : zp2D [tupI (fst' rs), .tup ((rs.map g).map dQ)] = .ok (rs.map fun r => .tup [.int r.1, dQ (g r)]) := by rw [← zip_slopes]; rfl
    have hlc : ∀ e0 e1 e2 : Option Fz.D, lcGo (tgT [3, 4]) dYes b_street_tolls_0 [e0, e1, e2, none, none] (rs.map fun r => .tup [.int r.1, dQ (g r)]) = .ok (rs.map fun r => dQ ((r.1 : Rat) * g r)) := fun e0 e1 e2 =>
      lc_map (dd := fun r : Row => .tup [.int r.1, dQ (g r)]) (g := fun r => dQ ((r.1 : Rat) * g r)) fun r hr => ⟨_, rfl, by
        have gr := hg r hr
        have z := d5 (g r) (List.mem_map.mpr ⟨r, hr, rfl⟩)
        have tm := times_ok (x := (r.1 : Rat)) (y := g r) (n := 110) (d := 1) (by simpa using gr.s) z.s (by simpa using sz1) (z.z.den d1 d2) (by omega) (by omega)
        rw [dQ_int] at tm
        have tm' : Std.f_times [.tup [.int r.1, .int 1], dQ (g r)] = _ := tm
        simp [b_street_tolls_0, e_times, tm']⟩
    have hend : endLc (.ok (rs.map fun r => dQ ((r.1 : Rat) * g r))) = .ok (.lst (rs.map fun r => dQ ((r.1 : Rat) * g r))) := endLc_map (by omega)
    rw [List.map_map] at ix zz hb
    simp [f_street_tolls, runD_eq, m_street_tolls, startE, List.replicate, e_best, hb, ix, zz, hlc, hend]
  obtain ⟨e', a1, o5, rfl⟩ := loop_rng (lo := 0) (tg := tgN 5) (body := b__law_tolls_0) rs.length
    (fun i e => ∃ o5, e = [some (dS rs), some (.lst (rs.map dR)), some (.int m), some (.tup ((rs.map g).map dQ)), some (.tup (rs.map fun r => dQ ((r.1 : Rat) * g r))), o5])
    (fun i e hi ⟨o5, he⟩ => by
      subst he
      have eg : rs[i]? = some rs[i] := List.getElem?_eq_getElem hi
      have hr : rs[i] ∈ rs := List.getElem_mem hi
      generalize rs[i] = r at hr eg
      have gr := hg r hr
      have z := d5 (g r) (List.mem_map.mpr ⟨r, hr, rfl⟩)
      have zd := z.z.den d1 d2
      have ix1 : oIx (.tup (rs.map fun r => dQ ((r.1 : Rat) * g r))) (.int (i : Int)) = .ok (dQ ((r.1 : Rat) * g r)) := oIx_tup rfl (map_get (f := fun r : Row => dQ ((r.1 : Rat) * g r)) eg)
      have ix2 : oIx (.lst (rs.map dR)) (.int (i : Int)) = .ok (dR r) := oIx_lst rfl (map_get (f := dR) eg)
      have ix3 : oIx (.tup ((rs.map g).map dQ)) (.int (i : Int)) = .ok (dQ (g r)) := oIx_tup rfl (map_get (f := dQ) (by rw [List.getElem?_map, eg]; rfl))
      have sd := ((z.z.smul r.1).den d1 d2)
      have ex := exact_ok sd (by omega)
      have sn : Sz 30000 ((r.1 : Rat) * g r).num := (sz_mulQ (x := (r.1 : Rat)) (n := 110) (by simpa using gr.s) z.s).mono (by omega)
      have m1 := oMul_sz gr.s z.s (by omega)
      have eq := equal_ok (a := ((r.1 : Rat) * g r).num) (b := (((r.1 : Rat) * g r).den : Int)) (c := r.1 * (g r).num) (d := ((g r).den : Int)) (n := 30000) (m := 30000) (den_pos' _) (den_pos' _) sn (sd.mono (by omega)) ((gr.s.mul z.s).mono (by omega)) (zd.mono (by omega)) (by omega)
      have ev : pv (r.1 * (g r).num) ((g r).den : Int) = (r.1 : Rat) * g r := by
        have := pv_mul (a := r.1) (b := 1) (c := (g r).num) (d := ((g r).den : Int)) (by decide) (den_pos' _)
        rw [Int.one_mul, pv_1, pv_q] at this
        exact this
      rw [pv_q, ev] at eq
      simp at eq
      have eq' : Str.f__law_equal [dQ ((r.1 : Rat) * g r), .tup [.int (r.1 * (g r).num), .int ((g r).den : Int)]] = _ := eq
      rw [List.map_map] at ix3
      refine ⟨_, rfl, _, .inl ?_, some (.int (i : Int)), rfl⟩
      simp [b__law_tolls_0, ix1, ix2, ix3, e_exact, e_equal, ex, m1, eq']) [some (dS rs), some (.lst (rs.map dR)), some (.int m), some (.tup ((rs.map g).map dQ)), some (.tup (rs.map fun r => dQ ((r.1 : Rat) * g r))), none] ⟨none, rfl⟩
  have rg : rng1D [.int (rs.length : Int)] = .ok (rngD 0 rs.length) := rng1_ok (by omega)
  rw [List.map_map] at a1
  simp [f__law_tolls, runD_eq, m__law_tolls, startE, List.replicate, bIsi, plainD, isTy, tl, rg, a1]
/-! ### streets alike -/
theorem same_ok (xs : List Int) (h : xs.length ≤ 1000000) : f__law_same_row [tupI xs, lstI xs] = .ok (.bl true) := same_row_yes xs h
theorem is_streets_ok {rs : List Row} (h8 : rs.length ≤ 8) {a b : Fz.D} (ha : a = lstI (fst' rs)) (hb : b = lstI (snd' rs)) : f__law_is_streets [dS rs, a, b] = .ok (.bl true) := by
  have h1 := same_ok (fst' rs) (by simp; omega)
  have h2 := same_ok (snd' rs) (by simp; omega)
  subst ha hb
  have h3 : isO [("Streets", true)] (dS rs) = .ok (.bl true) := rfl
  simp [f__law_is_streets, runD_eq, m__law_is_streets, startE, List.replicate, h1, h2, h3]
theorem flat_rep {α : Type} (a : α) : ∀ n, (List.replicate n [a]).flatten = List.replicate n a
  | 0 => rfl
  | n + 1 => by
    have := flat_rep a n
    simp only [List.replicate_succ, List.flatten_cons] at this ⊢
    rw [this]; rfl
theorem rep_ok (d : Fz.D) {n : Nat} (h : n ≤ 8) : oRepL (.lst [d]) (.int (n : Int)) = .ok (.lst (List.replicate n d)) := by
  have c : -(2 ^ 63) ≤ (n : Int) ∧ (n : Int) < 2 ^ 63 ∧ [d].length * (n : Int).toNat ≤ 16777216 := ⟨by omega, by omega, by rw [Int.toNat_natCast, List.length_singleton, Nat.one_mul]; omega⟩
  simp only [oRepL]
  rw [if_pos c, Int.toNat_natCast, flat_rep]
theorem fst_rep (n : Nat) (r : Row) : lstI (fst' (List.replicate n r)) = .lst (List.replicate n (.int r.1)) := by simp [fst']
theorem snd_rep (n : Nat) (r : Row) : lstI (snd' (List.replicate n r)) = .lst (List.replicate n (.int r.2)) := by simp [snd']
theorem make_alike {n : Nat} (h0 : 0 < n) (h8 : n ≤ 8) (s b : Int) (g : GoodR (s, b)) : f_Streets_alike [.exn "Streets" [], .int (n : Int), .int s, .int b] = .ok (dS (List.replicate n (s, b))) := by
  have hi := init_ok (rs := List.replicate n (s, b)) (by intro z; have := congrArg List.length z; simp at this; omega) (by simpa using h8) (fun r hr => by rw [(List.mem_replicate.mp hr).2]; exact g) (a := lstI (fst' (List.replicate n (s, b)))) (b := lstI (snd' (List.replicate n (s, b)))) (.inl rfl) (.inl rfl)
  rw [fst_rep, snd_rep] at hi
  simp only [mkD_ev] at hi
  simp at hi
  simp [f_Streets_alike, runD_eq, m_Streets_alike, startE, List.replicate, dcls, rep_ok _ h8, e_init, hi]
end K12
set_option Elab.async false
set_option linter.all false
set_option maxRecDepth 100000
/-! k12: streets alike, the law. -/
namespace K12
open PySem Fz Fz.Std Fz.Str P12
theorem sum_rep (x : Rat) : ∀ n : Nat, (List.replicate n x).sum = (n : Rat) * x
  | 0 => by simp
  | n + 1 => by
    rw [List.replicate_succ, List.sum_cons, sum_rep x n]
    have : ((n + 1 : Nat) : Rat) = (n : Rat) + 1 := by simp
    rw [this]
    grind
theorem alike_ok {rs : List Row} {m : Int} (hm : 0 ≤ m) (sm : Sz 200 m) (h0 : rs ≠ []) (h8 : rs.length ≤ 8) (hg : ∀ r ∈ rs, GoodB 110 r) : f__law_alike [.lst (rs.map dR), .int m] = .ok (.bl true) := by
  obtain ⟨⟨s, b⟩, q, rfl⟩ : ∃ r q, rs = r :: q := by
    cases rs with
    | nil => exact absurd rfl h0
    | cons r q => exact ⟨r, q, rfl⟩
  have g := hg (s, b) List.mem_cons_self
  have np : 0 < ((s, b) :: q).length := by simp
  have ix : oIx (.lst (((s, b) :: q).map dR)) (.int 0) = .ok (dP s b) := oIx_lst (n := 0) rfl rfl
  have ln : bLen [Fz.D.lst (((s, b) :: q).map dR)] = .ok (.int (((s, b) :: q).length : Int)) := by rw [bLen_lst, List.length_map]
  generalize ((s, b) :: q).map dR = rowsD at ix ln
  generalize ((s, b) :: q).length = n at np h8 ln
  have a1 := make_alike np h8 s b g.g
  have a2 := make_alike np h8 1 0 ⟨by show (1 : Int) ≤ 1; omega, by show (0 : Int) ≤ 0; omega⟩
  have a3 := make_alike np h8 1 b ⟨by show (1 : Int) ≤ 1; omega, g.g.b⟩
  have i1 := is_streets_ok (rs := List.replicate n (s, b)) (by simpa using h8) (fst_rep n (s, b)).symm (snd_rep n (s, b)).symm
  have i2 := is_streets_ok (rs := List.replicate n ((1 : Int), (0 : Int))) (by simpa using h8) (fst_rep n (1, 0)).symm (snd_rep n (1, 0)).symm
  have i3 := is_streets_ok (rs := List.replicate n ((1 : Int), b)) (by simpa using h8) (fst_rep n (1, b)).symm (snd_rep n (1, b)).symm
  have R0 : List.replicate n (s, b) ≠ [] := by intro z; have := congrArg List.length z; simp at this; omega
  have gR : ∀ r ∈ List.replicate n (s, b), GoodB 111 r := fun r hr => by rw [(List.mem_replicate.mp hr).2]; exact gmono g (by omega)
  obtain ⟨l, T, W, ev, L⟩ := even_share_ok R0 (by simpa using h8) gR hm sm
  have sh := is_share_ok R0 (by simpa using h8) sm (shr_even L (by simpa using h8) gR sm)
  have f1 : ((1 : Int) : Rat) = 1 := rfl
  rw [f1] at sh
  have S := L.sum
  rw [List.map_replicate, sum_rep] at S
  rw [List.map_replicate] at ev sh
  rw [List.map_replicate] at sh
  have okq := (shr_even L (by simpa using h8) gR sm).ok (s, b) (List.mem_replicate.mpr ⟨by omega, rfl⟩)
  rw [f1] at okq
  generalize amt 1 l (s, b) = x at ev sh S okq
  have sn : Sz 61 (n : Int) := Sz.small (by omega)
  have eq := equal_ok (a := x.num) (b := (x.den : Int)) (c := m) (d := (n : Int)) (n := 20000) (m := 200) (den_pos' x) (by omega) okq.1 (okq.2.mono (by omega)) sm (sn.mono (by omega)) (by omega)
  have nq : 0 < ((n : Int) : Rat) := Rat.intCast_pos.mpr (by omega)
  have e2 : pv m (n : Int) = x := by
    unfold pv
    rw [← S, Rat.intCast_natCast] at *
    grind
  rw [pv_q, e2] at eq
  simp at eq
  have eq' : Str.f__law_equal [dQ x, .tup [.int m, .int (n : Int)]] = _ := eq
  have rp : ∀ d : Fz.D, oRepL (.lst [d]) (.int (n : Int)) = .ok (.lst (List.replicate n d)) := fun d => rep_ok d h8
  obtain ⟨e', l1, o5, rfl⟩ := loop_inv (dd := fun _ : Unit => dQ x) (tg := tgN 5) (body := b__law_alike_0)
    (fun _ e => ∃ o5, e = [some (.lst rowsD), some (.int m), some (.int (n : Int)), some (dS (List.replicate n (s, b))), some (.tup [dQ l, .tup (List.replicate n (dQ x))]), o5])
    (fun _ r e ⟨o5, he⟩ => by
      subst he
      refine ⟨_, rfl, _, .inl ?_, some (dQ x), rfl⟩
      simp [b__law_alike_0, e_equal, eq']) (List.replicate n ()) [some (.lst rowsD), some (.int m), some (.int (n : Int)), some (dS (List.replicate n (s, b))), some (.tup [dQ l, .tup (List.replicate n (dQ x))]), none] ⟨none, rfl⟩
  rw [List.map_replicate] at l1
  have ix0 : oIx (.tup [dQ l, .tup (List.replicate n (dQ x))]) (.int 1) = .ok (.tup (List.replicate n (dQ x))) := oIx_tup (n := 1) rfl rfl
  have sh' : Str.f__law_is_share [.tup [dQ l, .tup (List.replicate n (dQ x))], .lst (List.replicate n (dP s b)), .int m, .int 1] = _ := sh
  simp [f__law_alike, runD_eq, m__law_alike, startE, List.replicate, ix, ln, arr, pick, a1, a2, a3, rp, i1, i2, i3, e_even, e_share, ev, sh', ix0, l1]
theorem go {b c : Fz.Env → Out} {env e : Fz.Env} {o : Out} (h : b env = .nx e) (h2 : c e = o) : bSeq b c env = o := by rw [bSeq_ev, h, seq_nx, h2]
theorem lay_q (q : Rat) : (dQ q).lay = true := rfl
theorem dep_q (q : Rat) : (dQ q).dep ≤ 1 := Nat.le_refl _
theorem law_true (ns : List Int) (hns : ns.length ≤ 63) : f_law [.scr (ns.map .int)] = .ok (.bl true) := by
  obtain ⟨c0, hc0⟩ := cell_ok ns 0
  have hc0' : Std.f__law_cell [.scr (dI ns), .int 0] = _ := hc0
  obtain ⟨tops, ht, lt, bt⟩ := row_ok c0 3600 16 (by omega) (by decide) (by decide)
  have ht' : Std.f__law_row [.int c0, .int 16, .int 3600] = _ := ht
  obtain ⟨rs, hr, h0, h8, hg⟩ := rows_ok ns tops lt
  obtain ⟨m, hm, m0, sm⟩ := crowd_ok h0 h8 hg tops lt bt
  have g111 : ∀ r ∈ rs, GoodB 111 r := fun r hr => gmono (hg r hr) (by omega)
  have g112 : ∀ r ∈ rs, GoodB 112 r := fun r hr => gmono (hg r hr) (by omega)
  obtain ⟨l1, T1, W1, he, L1⟩ := even_share_ok h0 h8 g111 m0 sm
  obtain ⟨l2, T2, W2, hb, L2'⟩ := best_share_ok h0 h8 hg m0 sm
  obtain ⟨z1, T3, W3, hz, L3⟩ := even_share_ok h0 h8 g111 (m := 0) (by decide) (sz0 _)
  have s1 := is_share_ok h0 h8 sm (shr_even L1 h8 g111 sm)
  have s2 := is_share_ok h0 h8 sm (shr_best L2' h8 g111 sm)
  have s3 := is_share_ok h0 h8 (sz0 _) (shr_even L3 h8 g111 (sz0 _))
  have f1 : ((1 : Int) : Rat) = 1 := rfl
  have f2 : ((2 : Int) : Rat) = 2 := rfl
  rw [f1] at s1 s3
  rw [f2] at s2
  have E := Lev.sha L1 h8 g112
  have X := Lev.sha2 L2' h8 g111
  have C : Costs rs m (rs.map (amt 1 l1)) (rs.map (amt 2 l2)) := ⟨h8, hg, m0, sm, E, X, fun ys Y => by
    have := cost_best l2 rs ys (fun r hr => (hg r hr).g) Y.nn Y.len
    rw [X.sum, Y.sum] at this
    grind, by
    have h1 := cost_even l1 rs (fun r hr => (hg r hr).g)
    have h2 := cost_dear l1 rs (rs.map (amt 2 l2)) (fun r hr => (hg r hr).g) X.nn X.len
    rw [E.sum] at h1
    rw [X.sum] at h2
    grind⟩
  obtain ⟨B, b1, b2, b3⟩ := common (dbl_good g111)
  have dl : (dbl rs).length = rs.length := by simp [dbl]
  have zq : ∀ y ∈ rs.map (amt 2 l2), Zq (B * W2) y := fun y hy => by
    rw [← map_dbl] at hy
    obtain ⟨r, hr, rfl⟩ := List.mem_map.mp hy
    exact (L2'.okQ (f := 0) (fun r hr => dbl_good g111 r hr) b3 r hr).z
  have co := costs_ok C h0 (l1 := l1) (l2 := l2) (by rw [List.map_map]; exact he) (by rw [List.map_map]; exact hb) tops lt bt (Int.mul_pos b1 L2'.w) (b2.mul L2'.sw) (by omega) zq
  have tl := tolls_ok sm h8 hg X (l := l2) (by rw [List.map_map]; exact hb)
  have al := alike_ok m0 sm h0 h8 hg
  rw [List.map_map, List.map_map] at co
  rw [List.map_map] at tl
  have w1 := is_streets_ok (rs := rs) h8 rfl rfl
  have mk1 : mkD "Streets" 2 [] f_Streets_init [lstI (fst' rs), lstI (snd' rs)] = .ok (dS rs) := init_ok h0 h8 (fun r hr => (hg r hr).g) (.inl rfl) (.inl rfl)
  have mk2 : mkD "Streets" 2 [] f_Streets_init [tupI (fst' rs), tupI (snd' rs)] = .ok (dS rs) := init_ok h0 h8 (fun r hr => (hg r hr).g) (.inr rfl) (.inr rfl)
  have he' : Str.f_even_share [dS rs, .int m] = .ok (.tup [dQ l1, .tup (rs.map (dQ ∘ amt 1 l1))]) := he
  have hb' : Str.f_best_share [dS rs, .int m] = .ok (.tup [dQ l2, .tup (rs.map (dQ ∘ amt 2 l2))]) := hb
  have hz' : Str.f_even_share [dS rs, .int 0] = .ok (.tup [dQ z1, .tup (rs.map (dQ ∘ amt 1 z1))]) := hz
  have s1' : Str.f__law_is_share [.tup [dQ l1, .tup (rs.map (dQ ∘ amt 1 l1))], .lst (rs.map dR), .int m, .int 1] = _ := s1
  have s2' : Str.f__law_is_share [.tup [dQ l2, .tup (rs.map (dQ ∘ amt 2 l2))], .lst (rs.map dR), .int m, .int 2] = _ := s2
  have s3' : Str.f__law_is_share [.tup [dQ z1, .tup (rs.map (dQ ∘ amt 1 z1))], .lst (rs.map dR), .int 0, .int 1] = _ := s3
  -- equal again
  have ne : ∀ (f l : Rat), cNe (.tup [dQ l, .tup (rs.map (dQ ∘ amt f l))]) (.tup [dQ l, .tup (rs.map (dQ ∘ amt f l))]) = .ok (.bl false) := fun f l => by
    have la : D.lays (rs.map (dQ ∘ amt f l)) = true := lays_map fun x _ => rfl
    have de : D.deps (rs.map (dQ ∘ amt f l)) ≤ 1 := deps_map fun x _ => Nat.le_refl _
    refine cNe_no ?_ ?_
    · simp [D.lay, D.lays, la, lay_q]
    · have := dep_q l
      simp [D.dep, D.deps]
      omega
  have nl : ∀ xs : List Int, cNe (lstI xs) (lstI xs) = .ok (.bl false) := fun xs => cNe_no (by simp [D.lay, lay_dI]) (by simp [D.dep, deps_dI])
  -- the copies
  obtain ⟨a, ra, ea⟩ : ∃ a r, fst' rs = a :: r := cons_of h0 (·.1)
  obtain ⟨c, rc, ec⟩ : ∃ a r, snd' rs = a :: r := cons_of h0 (·.2)
  have la : ra.length < 16000 := by have := congrArg List.length ea; simp at this; omega
  have lc : rc.length < 16000 := by have := congrArg List.length ec; simp at this; omega
  have hl1 : ∀ e0 e1 e2 e3 e4 e6 e7 e8 e9 e10 e11 e12 : Option Fz.D, lcGo (tgN 5) dYes (d2 oIx (dv 5) (dc (.int 0))) [e0, e1, e2, e3, e4, none, e6, e7, e8, e9, e10, e11, e12] (rs.map dR) = .ok (rs.map fun r => Fz.D.int r.1) := fun _ _ _ _ _ _ _ _ _ _ _ _ =>
    lc_map (dd := dR) (g := fun r => .int r.1) fun r hr => ⟨_, rfl, by simp⟩
  have hl2 : ∀ e0 e1 e2 e3 e4 e6 e7 e8 e9 e10 e11 e12 : Option Fz.D, lcGo (tgN 5) dYes (d2 oIx (dv 5) (dc (.int 1))) [e0, e1, e2, e3, e4, none, e6, e7, e8, e9, e10, e11, e12] (rs.map dR) = .ok (rs.map fun r => Fz.D.int r.2) := fun _ _ _ _ _ _ _ _ _ _ _ _ =>
    lc_map (dd := dR) (g := fun r => .int r.2) fun r hr => ⟨_, rfl, by simp⟩
  have en1 : endLc (.ok (rs.map fun r => Fz.D.int r.1)) = .ok (lstI (fst' rs)) := by rw [endLc_map (by omega)]; simp [fst']
  have en2 : endLc (.ok (rs.map fun r => Fz.D.int r.2)) = .ok (lstI (snd' rs)) := by rw [endLc_map (by omega)]; simp [snd']
  have st : startE 13 [Fz.D.scr (ns.map .int)] = [some (.scr (dI ns)), none, none, none, none, none, none, none, none, none, none, none, none] := rfl
  have fin : m_law (startE 13 [Fz.D.scr (ns.map .int)]) = .ret (.bl true) := by
    rw [st]
    refine go (e := [some (.scr (dI ns)), some (lstI tops), none, none, none, none, none, none, none, none, none, none, none]) (by simp [e_row, e_cell, hc0', ht']) ?_
    refine go (e := [some (.scr (dI ns)), some (lstI tops), some (.lst (rs.map dR)), none, none, none, none, none, none, none, none, none, none]) (by simp [hr]) ?_
    refine go (e := [some (.scr (dI ns)), some (lstI tops), some (.lst (rs.map dR)), some (.int m), none, none, none, none, none, none, none, none, none]) (by simp [hm]) ?_
    refine go (e := [some (.scr (dI ns)), some (lstI tops), some (.lst (rs.map dR)), some (.int m), some (lstI (fst' rs)), none, none, none, none, none, none, none, none]) (by simp [hl1, en1]) ?_
    refine go (e := [some (.scr (dI ns)), some (lstI tops), some (.lst (rs.map dR)), some (.int m), some (lstI (fst' rs)), none, some (lstI (snd' rs)), none, none, none, none, none, none]) (by simp [hl2, en2]) ?_
    refine go (e := [some (.scr (dI ns)), some (lstI tops), some (.lst (rs.map dR)), some (.int m), some (lstI (fst' rs)), none, some (lstI (snd' rs)), some (lstI (fst' rs)), none, none, none, none, none]) (by simp) ?_
    refine go (e := [some (.scr (dI ns)), some (lstI tops), some (.lst (rs.map dR)), some (.int m), some (lstI (fst' rs)), none, some (lstI (snd' rs)), some (lstI (fst' rs)), some (lstI (snd' rs)), none, none, none, none]) (by simp) ?_
    refine go (e := [some (.scr (dI ns)), some (lstI tops), some (.lst (rs.map dR)), some (.int m), some (lstI (fst' rs)), none, some (lstI (snd' rs)), some (lstI (fst' rs)), some (lstI (snd' rs)), some (dS rs), none, none, none]) ?_ ?_
    · have c1 : dcall (mkD "Streets" 2 [] f_Streets_init) (dcons (dv 7) (dcons (dv 8) dnil)) [some (.scr (dI ns)), some (lstI tops), some (.lst (rs.map dR)), some (.int m), some (lstI (fst' rs)), none, some (lstI (snd' rs)), some (lstI (fst' rs)), some (lstI (snd' rs)), none, none, none, none] = .ok (dS rs) := by
        simp only [dcall_ev, dcons_ev, dnil_ev, dv_ev, List.getElem?_cons_succ, List.getElem?_cons_zero, dvK_some, bind_ok]
        exact mk1
      have so : (dS rs).sol = true := by
        have t1 : D.sols (dI (fst' rs)) = true := sol_map fun x _ => rfl
        have t2 : D.sols (dI (snd' rs)) = true := sol_map fun x _ => rfl
        simp [dS, D.sol, D.solF, t1, t2]
      have c2 := dsol_ok (dsol_ok c1 so) so
      simp [c2]
    have ea' : lstI (fst' rs) = .lst (.int a :: dI ra) := by rw [ea]; rfl
    have ec' : lstI (snd' rs) = .lst (.int c :: dI rc) := by rw [ec]; rfl
    refine go (e := [some (.scr (dI ns)), some (lstI tops), some (.lst (rs.map dR)), some (.int m), some (lstI (fst' rs)), none, some (lstI (snd' rs)), some (lstI (fst' rs)), some (lstI (snd' rs)), some (dS rs), none, none, none]) ?_ ?_
    · have c1 : Fz.tOr (tVal (d2 cNe (dv 7) (dv 4))) (tVal (d2 cNe (dv 8) (dv 6))) [some (.scr (dI ns)), some (lstI tops), some (.lst (rs.map dR)), some (.int m), some (lstI (fst' rs)), none, some (lstI (snd' rs)), some (lstI (fst' rs)), some (lstI (snd' rs)), some (dS rs), none, none, none] = .ok false := by simp [nl]
      have c2 := tflat_ok (tflat_ok c1)
      simp [c2]
    refine go (e := [some (.scr (dI ns)), some (lstI tops), some (.lst (rs.map dR)), some (.int m), some (lstI (fst' rs)), none, some (lstI (snd' rs)), some (.lst (.int (a + 1) :: dI ra)), some (lstI (snd' rs)), some (dS rs), none, none, none]) ?_ ?_
    · rw [sPut_ok (xs := .int a :: dI ra) (d := .int (a + 1)) (j := 0) (n := 0) (by simp [ea']) ?_ (by simp) (ixN_nat (k := 0) rfl (by simp))]
      · rfl
      · have e1 : oIxO 7 (dc (.int 0)) [some (.scr (dI ns)), some (lstI tops), some (.lst (rs.map dR)), some (.int m), some (lstI (fst' rs)), none, some (lstI (snd' rs)), some (lstI (fst' rs)), some (lstI (snd' rs)), some (dS rs), none, none, none] = .ok (.int a) := by rw [oIxO_ok (xs := .int a :: dI ra) (by simp [ea'])]; exact oIx_lst (n := 0) rfl rfl
        simp only [d2_ev, e1, bind_ok, dc_ev, oAdd_int]
    refine go (e := [some (.scr (dI ns)), some (lstI tops), some (.lst (rs.map dR)), some (.int m), some (lstI (fst' rs)), none, some (lstI (snd' rs)), some (.lst (.int (a + 1) :: dI ra ++ [.int 1])), some (lstI (snd' rs)), some (dS rs), none, none, none]) (by simp; omega) ?_
    refine go (e := [some (.scr (dI ns)), some (lstI tops), some (.lst (rs.map dR)), some (.int m), some (lstI (fst' rs)), none, some (lstI (snd' rs)), some (.lst (.int (a + 1) :: dI ra ++ [.int 1])), some (.lst (.int (c + 7) :: dI rc)), some (dS rs), none, none, none]) ?_ ?_
    · rw [sPut_ok (xs := .int c :: dI rc) (d := .int (c + 7)) (j := 0) (n := 0) (by simp [ec']) ?_ (by simp) (ixN_nat (k := 0) rfl (by simp))]
      · rfl
      · have e1 : oIxO 8 (dc (.int 0)) [some (.scr (dI ns)), some (lstI tops), some (.lst (rs.map dR)), some (.int m), some (lstI (fst' rs)), none, some (lstI (snd' rs)), some (.lst (.int (a + 1) :: dI ra ++ [.int 1])), some (lstI (snd' rs)), some (dS rs), none, none, none] = .ok (.int c) := by rw [oIxO_ok (xs := .int c :: dI rc) (by simp [ec'])]; exact oIx_lst (n := 0) rfl rfl
        simp only [d2_ev, e1, bind_ok, dc_ev, oAdd_int]
    refine go (e := [some (.scr (dI ns)), some (lstI tops), some (.lst (rs.map dR)), some (.int m), some (lstI (fst' rs)), none, some (lstI (snd' rs)), some (.lst (.int (a + 1) :: dI ra ++ [.int 1])), some (.lst (.int (c + 7) :: dI rc ++ [.int 0])), some (dS rs), none, none, none]) (by simp; omega) ?_
    generalize some (Fz.D.lst (Fz.D.int (a + 1) :: dI ra ++ [Fz.D.int 1])) = u7
    generalize some (Fz.D.lst (Fz.D.int (c + 7) :: dI rc ++ [Fz.D.int 0])) = u8
    refine go (e := [some (.scr (dI ns)), some (lstI tops), some (.lst (rs.map dR)), some (.int m), some (lstI (fst' rs)), none, some (lstI (snd' rs)), u7, u8, some (dS rs), none, none, none]) (by simp [w1]) ?_
    refine go (e := [some (.scr (dI ns)), some (lstI tops), some (.lst (rs.map dR)), some (.int m), some (lstI (fst' rs)), none, some (lstI (snd' rs)), u7, u8, some (dS rs), some (.tup [dQ l1, .tup (rs.map (dQ ∘ amt 1 l1))]), none, none]) (by simp [e_even, he']) ?_
    refine go (e := [some (.scr (dI ns)), some (lstI tops), some (.lst (rs.map dR)), some (.int m), some (lstI (fst' rs)), none, some (lstI (snd' rs)), u7, u8, some (dS rs), some (.tup [dQ l1, .tup (rs.map (dQ ∘ amt 1 l1))]), some (.tup [dQ l2, .tup (rs.map (dQ ∘ amt 2 l2))]), none]) (by simp [e_best, hb']) ?_
    have ix1 : oIx (.tup [dQ l1, .tup (rs.map (dQ ∘ amt 1 l1))]) (.int 1) = .ok (.tup (rs.map (dQ ∘ amt 1 l1))) := oIx_tup (n := 1) rfl rfl
    have ix2 : oIx (.tup [dQ l2, .tup (rs.map (dQ ∘ amt 2 l2))]) (.int 1) = .ok (.tup (rs.map (dQ ∘ amt 2 l2))) := oIx_tup (n := 1) rfl rfl
    refine go (e := [some (.scr (dI ns)), some (lstI tops), some (.lst (rs.map dR)), some (.int m), some (lstI (fst' rs)), none, some (lstI (snd' rs)), u7, u8, some (dS rs), some (.tup [dQ l1, .tup (rs.map (dQ ∘ amt 1 l1))]), some (.tup [dQ l2, .tup (rs.map (dQ ∘ amt 2 l2))]), none]) (by simp [e_share, s1', s2']) ?_
    refine go (e := [some (.scr (dI ns)), some (lstI tops), some (.lst (rs.map dR)), some (.int m), some (lstI (fst' rs)), none, some (lstI (snd' rs)), u7, u8, some (dS rs), some (.tup [dQ l1, .tup (rs.map (dQ ∘ amt 1 l1))]), some (.tup [dQ l2, .tup (rs.map (dQ ∘ amt 2 l2))]), none]) (by simp [ix1, ix2, co]) ?_
    refine go (e := [some (.scr (dI ns)), some (lstI tops), some (.lst (rs.map dR)), some (.int m), some (lstI (fst' rs)), none, some (lstI (snd' rs)), u7, u8, some (dS rs), some (.tup [dQ l1, .tup (rs.map (dQ ∘ amt 1 l1))]), some (.tup [dQ l2, .tup (rs.map (dQ ∘ amt 2 l2))]), none]) (by simp [ix2, tl, al]) ?_
    refine go (e := [some (.scr (dI ns)), some (lstI tops), some (.lst (rs.map dR)), some (.int m), some (lstI (fst' rs)), none, some (lstI (snd' rs)), u7, u8, some (dS rs), some (.tup [dQ l1, .tup (rs.map (dQ ∘ amt 1 l1))]), some (.tup [dQ l2, .tup (rs.map (dQ ∘ amt 2 l2))]), some (dS rs)]) ?_ ?_
    · have c1 : dcall (mkD "Streets" 2 [] f_Streets_init) (dcons (dcall bTup (dcons (dv 4) dnil)) (dcons (dcall bTup (dcons (dv 6) dnil)) dnil)) [some (.scr (dI ns)), some (lstI tops), some (.lst (rs.map dR)), some (.int m), some (lstI (fst' rs)), none, some (lstI (snd' rs)), u7, u8, some (dS rs), some (.tup [dQ l1, .tup (rs.map (dQ ∘ amt 1 l1))]), some (.tup [dQ l2, .tup (rs.map (dQ ∘ amt 2 l2))]), none] = .ok (dS rs) := by
        simp only [dcall_ev, dcons_ev, dnil_ev, dv_ev, List.getElem?_cons_succ, List.getElem?_cons_zero, dvK_some, bind_ok, bTup_lst]
        exact mk2
      rw [sSet_ev, c1]
      rfl
    refine go (e := [some (.scr (dI ns)), some (lstI tops), some (.lst (rs.map dR)), some (.int m), some (lstI (fst' rs)), none, some (lstI (snd' rs)), u7, u8, some (dS rs), some (.tup [dQ l1, .tup (rs.map (dQ ∘ amt 1 l1))]), some (.tup [dQ l2, .tup (rs.map (dQ ∘ amt 2 l2))]), some (dS rs)]) (by simp [e_even, e_best, he', hb', ne]) ?_
    simp [e_even, e_share, hz', s3', w1]
  simp only [f_law, runD_eq]
  rw [fin]
  simp
end K12
set_option Elab.async false
set_option linter.all false
set_option maxRecDepth 100000
set_option maxHeartbeats 0
/-! Printed by head.py: the head, the last theorem. -/
namespace K12
open PySem PySem.Spec PyProof.Rows L2 Fz
def nm0 : List PySem.Str := ["lowest", "added", "times", "Fault", "TooMany", "BadRoads", "MOST_STREETS", "Streets", "even_share", "best_share", "crowd_cost", "street_tolls", "crowd_dearness", "_law_is_whole", "_law_cell", "_law_mix", "_law_row", "_law_gcd", "_law_same_row", "_law_plus", "_law_equal", "_law_is_exact", "_law_rows", "_law_crowd"]
def nm1 : List PySem.Str := ["_law_is_share", "_law_cost", "_law_is_cost", "_law_shares", "_law_costs", "_law_tolls", "_law_is_streets", "_law_alike"]
def nms : List PySem.Str := nm0 ++ nm1
abbrev R : PySem.W.OpenRow := PySem.W.OpenLaw.row PySem.Challenge.rw_slipsgrowrare_k12_even_and_best_shares_o
abbrev hk : PySem.W.Hook := hookZ 6 fa fn fb fm
def ob (s : PySem.W.SharedT) : AlZ := obsZ 6 fa fn fb fm (HandSHeadRun.getT s)
theorem ob_eq (s : PySem.W.SharedT) : ob s = hk.obs s.abs := obsZ_eq (HandSHeadRun.getT_eq s)
theorem run (w : World) : HandSHeadRun.RunEqI R (PySem.W.view R.prog [0, 37]) hk ob 20000 nms w := by
  unfold HandSHeadRun.RunEqI
  kernel_rfl
end K12
open PySem PySem.W PySem.Calls PyProof.Rows in
theorem PySem.Challenge.cw_slipsgrowrare_k12_even_and_best_shares_o_holds : PySem.Challenge.rw_slipsgrowrare_k12_even_and_best_shares_o.Holds := by
  w_on; o_law
  refine HandSHeadRun.head_imp (r := OpenLaw.row PySem.Challenge.rw_slipsgrowrare_k12_even_and_best_shares_o) (q := view (OpenLaw.row PySem.Challenge.rw_slipsgrowrare_k12_even_and_best_shares_o).prog [0, 37]) (H := K12.hk) (ob := K12.ob) (M := 20000) (loose := K12.nms) (d := HandSHeadRun.topDef (OpenLaw.row PySem.Challenge.rw_slipsgrowrare_k12_even_and_best_shares_o).prog 37) (kwd := []) K12.ob_eq
    K12.run (by kernel_rfl) (by kernel_rfl) (by kernel_rfl) (by rfl) (by first | assumption | decide +kernel) (by decide +kernel) ⟨rfl, rfl, rfl, rfl, rfl, by decide +kernel⟩ ?hw ?hc
  case hw => w_witness2
  case hc =>
    refine L2.walk_ofE (l := PySem.Challenge.rw_slipsgrowrare_k12_even_and_best_shares_o) (n := 63) (k := 6) (x := "script") (CX := L2.CX0) rfl (by decide) (by kernel_rfl) ⟨rfl, by decide, by decide⟩ ?F (fun _ _ _ _ z => z)
    intro w mg f h Y G hmg0
    obtain ⟨K, KX, c, cx, cm⟩ := Y
    have hmg : mg ("law" : PySem.Str) = some (.ref f) := by
      have e : (HandSHeadRun.topDef (OpenLaw.row PySem.Challenge.rw_slipsgrowrare_k12_even_and_best_shares_o).prog 37).name = ("law" : PySem.Str) := by kernel_rfl
      rw [← e]
      exact hmg0
    have C : Fz.Ctx K12.fa K12.fn K12.fb K12.fm K mg := ⟨⟨h, KX, G⟩, c, cx, cm⟩
    obtain ⟨fd, F⟩ := C.c.def_ 28 (d := K12.d_law) rfl
    have e := hmg.symm.trans (C.glo 48)
    cases e
    have b := L2.FunD.bindsA (ps := ["script"]) F fun _ _ _ _ _ _ us hl => match us, hl with | [_], _ => rfl
    exact ⟨K, fd, fun vs H Q _ => Fz.spD K 1 K12.f_law .z vs H Q fun _ _ _ => False, KX, fun s u => b s [u] rfl, fun H a ns hl _ hS => Fz.law_sp hS (K12.law_true ns hl), fun base _ _ => Fz.FnOk.toCX0 (K12.body_law C F)⟩
