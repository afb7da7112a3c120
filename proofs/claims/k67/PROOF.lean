import PyProof.Rows.All
import Wide.All
import OpenK.AllK
import Wide.FinOn
import HandS.ForMost
import HandS.ForExc
import HandS.Lambda
import HandS.TupAny
import HandS.IsInst
import HandS.Strs
import KE.SortKeyHeap
import HandS.Set
import HandS.SetFor
import HandS.SortKw
import HandS.More
import HandS.EndTab
import PySem.Challenge.RW_nobodytwice_k67_lists_of_blockers_judged
set_option Elab.async false
set_option linter.all false
set_option autoImplicit false
set_option maxRecDepth 100000
/-! DLa: plain data, how it lies in the tracked heap, the slots of a frame, the weakest readings. -/
namespace DL
open PySem L2

/-- plain data -/
inductive D where
  | non | bl (b : Bool) | int (i : Int) | str (x : Str) | tup (xs : List D) | lst (xs : List D)
  | scr (ns : List Int) | dic (kvs : List (Key × D)) | obj (c : Nat) (fs : List (Str × D)) | fn (k : Nat)

/-- where the text's own classes and defs stand -/
structure Tb where
  cls : Nat → Option Addr
  fn : Nat → Option Addr
  /-- the tables of the defs that hold a lambda, its full name -/
  tabs : List (Addr × Str)

mutual
/-- the value v is the datum d, by what F tells -/
inductive Is (K : PySem.W.Frag) (T : Tb) (F : Hp) : V → D → Prop
  | non : Is K T F .non .non
  | bl (b : Bool) : Is K T F (.bl b) (.bl b)
  | int (i : Int) : Is K T F (.int i) (.int i)
  | str (x : Str) : Is K T F (.str x) (.str x)
  | tup {a : Addr} {xs : List V} {ds : List D} : SqT K F a xs → IsL K T F xs ds → Is K T F (.ref a) (.tup ds)
  | lst {a : Addr} {xs : List V} {ds : List D} : F a = some (.lst xs) → IsL K T F xs ds → Is K T F (.ref a) (.lst ds)
  | scr {a : Addr} {ns : List Int} : SqL K F a (ns.map V.int) → Is K T F (.ref a) (.scr ns)
  | dic {a : Addr} {kvs : List (Key × V)} {ds : List (Key × D)} : F a = some (.dK kvs) → IsK K T F kvs ds → Is K T F (.ref a) (.dic ds)
  | obj {a C dx : Addr} {fv : List (Str × V)} {c : Nat} {fs : List (Str × D)} : F a = some (.ins C dx fv) → T.cls c = some C → IsF K T F fv fs → Is K T F (.ref a) (.obj c fs)
  | fn {k : Nat} {f : Addr} : T.fn k = some f → Is K T F (.ref f) (.fn k)
inductive IsL (K : PySem.W.Frag) (T : Tb) (F : Hp) : List V → List D → Prop
  | nil : IsL K T F [] []
  | cons {v : V} {vs : List V} {d : D} {ds : List D} : Is K T F v d → IsL K T F vs ds → IsL K T F (v :: vs) (d :: ds)
inductive IsK (K : PySem.W.Frag) (T : Tb) (F : Hp) : List (Key × V) → List (Key × D) → Prop
  | nil : IsK K T F [] []
  | cons {k : Key} {v : V} {vs : List (Key × V)} {d : D} {ds : List (Key × D)} : Is K T F v d → IsK K T F vs ds → IsK K T F ((k, v) :: vs) ((k, d) :: ds)
inductive IsF (K : PySem.W.Frag) (T : Tb) (F : Hp) : List (Str × V) → List (Str × D) → Prop
  | nil : IsF K T F [] []
  | cons {k : Str} {v : V} {vs : List (Str × V)} {d : D} {ds : List (Str × D)} : Is K T F v d → IsF K T F vs ds → IsF K T F ((k, v) :: vs) ((k, d) :: ds)
end

/-- what H knows H' knows -/
def Sub (H H' : Hp) : Prop := ∀ a o, H a = some o → H' a = some o
theorem Sub.same {H : Hp} : Sub H H := fun _ _ h => h
theorem Sub.trans {H H1 H2 : Hp} (a : Sub H H1) (b : Sub H1 H2) : Sub H H2 := fun x o h => b x o (a x o h)
theorem Sub.new {H : Hp} {p : Addr} {o : HO} (h : H p = none) : Sub H (upd H p o) := fun a u e => by
  rw [upd_ne (ne_of_none e h)]; exact e
theorem Sub.free {H H' : Hp} {p : Addr} (e : Sub H H') (h : H' p = none) : H p = none := by
  cases q : H p with
  | none => rfl
  | some o => rw [e p o q] at h; cases h
/-- an address of which F knows nothing may be written -/
theorem Sub.wr {F H : Hp} {p : Addr} {o : HO} (e : Sub F H) (h : F p = none) : Sub F (upd H p o) := fun a u ha => by
  rw [upd_ne (ne_of_none ha h)]; exact e a u ha
theorem Sub.both {F H : Hp} {p : Addr} {o : HO} (e : Sub F H) : Sub (upd F p o) (upd H p o) := fun a u ha => by
  by_cases q : a = p
  · subst q; rw [upd_same] at ha ⊢; exact ha
  · rw [upd_ne q] at ha ⊢; exact e a u ha
/-- what stands there is told now -/
theorem Sub.tell {F H : Hp} {p : Addr} {o : HO} (e : Sub F H) (h : H p = some o) : Sub (upd F p o) H := fun a u ha => by
  by_cases q : a = p
  · subst q; rw [upd_same] at ha; cases ha; exact h
  · rw [upd_ne q] at ha; exact e a u ha
theorem Sub.rd {H H' : Hp} {a : Addr} {u : HO} (e : Sub H H') (h : Rd H a u) : Rd H' a u := by
  rcases h with h | ⟨o, h⟩
  · exact .inl (e a _ h)
  · exact .inr ⟨o, e a _ h⟩
theorem Sub.sqL {K : PySem.W.Frag} {H H' : Hp} {a : Addr} {xs : List V} (e : Sub H H') (h : SqL K H a xs) : SqL K H' a xs := h.imp (e.rd) id
theorem Sub.sqT {K : PySem.W.Frag} {H H' : Hp} {a : Addr} {xs : List V} (e : Sub H H') (h : SqT K H a xs) : SqT K H' a xs := h.imp (e.rd) id

section
variable {K : PySem.W.Frag} {T : Tb} {F F' : Hp}
mutual
theorem Is.mono (e : Sub F F') : ∀ {v : V} {d : D}, Is K T F v d → Is K T F' v d
  | _, _, .non => .non
  | _, _, .bl b => .bl b
  | _, _, .int i => .int i
  | _, _, .str x => .str x
  | _, _, .tup h l => .tup (e.sqT h) (IsL.mono e l)
  | _, _, .lst h l => .lst (e _ _ h) (IsL.mono e l)
  | _, _, .scr h => .scr (e.sqL h)
  | _, _, .dic h l => .dic (e _ _ h) (IsK.mono e l)
  | _, _, .obj h c l => .obj (e _ _ h) c (IsF.mono e l)
  | _, _, .fn h => .fn h
theorem IsL.mono (e : Sub F F') : ∀ {vs : List V} {ds : List D}, IsL K T F vs ds → IsL K T F' vs ds
  | _, _, .nil => .nil
  | _, _, .cons h t => .cons (Is.mono e h) (IsL.mono e t)
theorem IsK.mono (e : Sub F F') : ∀ {vs : List (Key × V)} {ds : List (Key × D)}, IsK K T F vs ds → IsK K T F' vs ds
  | _, _, .nil => .nil
  | _, _, .cons h t => .cons (Is.mono e h) (IsK.mono e t)
theorem IsF.mono (e : Sub F F') : ∀ {vs : List (Str × V)} {ds : List (Str × D)}, IsF K T F vs ds → IsF K T F' vs ds
  | _, _, .nil => .nil
  | _, _, .cons h t => .cons (Is.mono e h) (IsF.mono e t)
end
theorem IsL.length : ∀ {vs : List V} {ds : List D}, IsL K T F vs ds → vs.length = ds.length
  | _, _, .nil => rfl
  | _, _, .cons _ t => by simp [IsL.length t]
theorem IsL.append : ∀ {vs us : List V} {ds es : List D}, IsL K T F vs ds → IsL K T F us es → IsL K T F (vs ++ us) (ds ++ es)
  | _, _, _, _, .nil, r => r
  | _, _, _, _, .cons h t, r => .cons h (IsL.append t r)
theorem IsL.get : ∀ {vs : List V} {ds : List D} {i : Nat} {d : D}, IsL K T F vs ds → ds[i]? = some d → ∃ v, vs[i]? = some v ∧ Is K T F v d
  | _, _, _, _, .nil, h => by simp at h
  | _, _, 0, _, .cons h t, e => by simp at e; subst e; exact ⟨_, rfl, h⟩
  | _, _, i + 1, _, .cons h t, e => by
    obtain ⟨v, h1, h2⟩ := IsL.get (i := i) t (by simpa using e)
    exact ⟨v, by simpa using h1, h2⟩
theorem IsL.get' : ∀ {vs : List V} {ds : List D} {i : Nat} {v : V}, IsL K T F vs ds → vs[i]? = some v → ∃ d, ds[i]? = some d ∧ Is K T F v d
  | _, _, _, _, .nil, h => by simp at h
  | _, _, 0, _, .cons h t, e => by simp at e; subst e; exact ⟨_, rfl, h⟩
  | _, _, i + 1, _, .cons h t, e => by
    obtain ⟨v, h1, h2⟩ := IsL.get' (i := i) t (by simpa using e)
    exact ⟨v, by simpa using h1, h2⟩
theorem IsL.take : ∀ {vs : List V} {ds : List D} (n : Nat), IsL K T F vs ds → IsL K T F (vs.take n) (ds.take n)
  | _, _, 0, _ => .nil
  | _, _, _ + 1, .nil => .nil
  | _, _, n + 1, .cons h t => .cons h (IsL.take n t)
theorem IsL.drop : ∀ {vs : List V} {ds : List D} (n : Nat), IsL K T F vs ds → IsL K T F (vs.drop n) (ds.drop n)
  | _, _, 0, r => r
  | _, _, _ + 1, .nil => .nil
  | _, _, n + 1, .cons _ t => IsL.drop n t
theorem IsL.set : ∀ {vs : List V} {ds : List D} {v : V} {d : D} (i : Nat), IsL K T F vs ds → Is K T F v d → IsL K T F (vs.set i v) (ds.set i d)
  | _, _, _, _, _, .nil, _ => .nil
  | _, _, _, _, 0, .cons _ t, r => .cons r t
  | _, _, _, _, i + 1, .cons h t, r => .cons h (IsL.set i t r)
theorem IsL.erase : ∀ {vs : List V} {ds : List D} (i : Nat), IsL K T F vs ds → IsL K T F (vs.eraseIdx i) (ds.eraseIdx i)
  | _, _, _, .nil => by simpa using IsL.nil
  | _, _, 0, .cons _ t => t
  | _, _, i + 1, .cons h t => .cons h (IsL.erase i t)
theorem IsL.reverse : ∀ {vs : List V} {ds : List D}, IsL K T F vs ds → IsL K T F vs.reverse ds.reverse
  | _, _, .nil => .nil
  | _, _, .cons h t => by simpa using (IsL.reverse t).append (.cons h .nil)
theorem isL_ints : ∀ ns : List Int, IsL K T F (ns.map V.int) (ns.map D.int)
  | [] => .nil
  | n :: ns => .cons (.int n) (isL_ints ns)
theorem isL_strs : ∀ ns : List Str, IsL K T F (ns.map V.str) (ns.map D.str)
  | [] => .nil
  | n :: ns => .cons (.str n) (isL_strs ns)
theorem IsL.ints : ∀ {vs : List V} {ns : List Int}, IsL K T F vs (ns.map D.int) → vs = ns.map V.int
  | _, [], .nil => rfl
  | _, _ :: ns, .cons (.int _) t => by rw [IsL.ints t]; rfl
theorem IsL.strs : ∀ {vs : List V} {ns : List Str}, IsL K T F vs (ns.map D.str) → vs = ns.map V.str
  | _, [], .nil => rfl
  | _, _ :: ns, .cons (.str _) t => by rw [IsL.strs t]; rfl
theorem IsL.bools : ∀ {vs : List V} {ns : List Bool}, IsL K T F vs (ns.map D.bl) → vs = ns.map V.bl
  | _, [], .nil => rfl
  | _, _ :: ns, .cons (.bl _) t => by rw [IsL.bools t]; rfl
end

/-! ### slots -/
/-- a thing that its frame alone may change -/
inductive O where
  | lst (xs : List D) | dic (kvs : List (Key × D)) | dit (kvs : List (List Key × D)) | ins (c : Nat) (fs : List (Str × D))
inductive Slot where
  | un | dat (d : D) | own (o : O)
abbrev Fm := List Slot

/-- as a datum -/
def O.frz : O → Option D
  | .lst xs => some (.lst xs)
  | .dic kvs => some (.dic kvs)
  | .ins c fs => some (.obj c fs)
  | .dit _ => none

/-- pairs whose keys are tuples -/
inductive IsT (K : PySem.W.Frag) (T : Tb) (F : Hp) : List (List Key × V) → List (List Key × D) → Prop
  | nil : IsT K T F [] []
  | cons {k : List Key} {v : V} {vs : List (List Key × V)} {d : D} {ds : List (List Key × D)} : Is K T F v d → IsT K T F vs ds → IsT K T F ((k, v) :: vs) ((k, d) :: ds)
theorem IsT.mono {K : PySem.W.Frag} {T : Tb} {F F' : Hp} (e : Sub F F') : ∀ {vs : List (List Key × V)} {ds : List (List Key × D)}, IsT K T F vs ds → IsT K T F' vs ds
  | _, _, .nil => .nil
  | _, _, .cons h t => .cons (Is.mono e h) (IsT.mono e t)

/-- at p, of which F knows nothing, stands o -/
def Own (K : PySem.W.Frag) (T : Tb) (F H : Hp) (p : Addr) : O → Prop
  | .lst ds => ∃ vs, H p = some (.lst vs) ∧ IsL K T F vs ds
  | .dic ds => ∃ vs, H p = some (.dK vs) ∧ IsK K T F vs ds
  | .dit ds => ∃ vs, H p = some (.dT vs) ∧ IsT K T F vs ds
  | .ins c fs => ∃ C dx fv, H p = some (.ins C dx fv) ∧ T.cls c = some C ∧ IsF K T F fv fs
theorem Own.mono {K : PySem.W.Frag} {T : Tb} {F F' H H' : Hp} {p : Addr} {o : O} (e : Sub F F') (h : H' p = H p) (x : Own K T F H p o) : Own K T F' H' p o := by
  cases o with
  | lst ds => obtain ⟨vs, a, b⟩ := x; exact ⟨vs, h.trans a, b.mono e⟩
  | dic ds => obtain ⟨vs, a, b⟩ := x; exact ⟨vs, h.trans a, b.mono e⟩
  | dit ds => obtain ⟨vs, a, b⟩ := x; exact ⟨vs, h.trans a, b.mono e⟩
  | ins c fs => obtain ⟨C, dx, fv, a, b, c⟩ := x; exact ⟨C, dx, fv, h.trans a, b, c.mono e⟩
theorem Own.there {K : PySem.W.Frag} {T : Tb} {F H : Hp} {p : Addr} {o : O} (x : Own K T F H p o) : ∃ u, H p = some u := by
  cases o with
  | lst ds => obtain ⟨vs, a, b⟩ := x; exact ⟨_, a⟩
  | dic ds => obtain ⟨vs, a, b⟩ := x; exact ⟨_, a⟩
  | dit ds => obtain ⟨vs, a, b⟩ := x; exact ⟨_, a⟩
  | ins c fs => obtain ⟨C, dx, fv, a, b, c⟩ := x; exact ⟨_, a⟩

/-- the slot i is an own thing, at p -/
def OwnAt (g : Fm) (σ : St) (i : Nat) (p : Addr) : Prop := (∃ o, g[i]? = some (.own o)) ∧ σ[i]? = some (some (.ref p))
def SlR (K : PySem.W.Frag) (T : Tb) (F H : Hp) : Slot → Option (Option V) → Prop
  | .un, _ => True
  | .dat d, x => ∃ v, x = some (some v) ∧ Is K T F v d
  | .own o, x => ∃ p, x = some (some (.ref p)) ∧ F p = none ∧ Own K T F H p o

/-- the table at P: all that it tells are code objects of the name q, known to F -/
def TabF (F H : Hp) (P : Addr) (q : Str) : Prop := F P = none ∧ ∃ ps : Array Value, H P = some (.tbl ps) ∧ TriplesOk ps.toList ∧ ∀ (pos : Pos) (cv : Value), codeAmong pos ps.toList = some cv → ∃ c, cv = .ref c ∧ F c = some (LamX.CodeO c q)
theorem TabF.step {F H F' H' : Hp} {P : Addr} {q : Str} (t : TabF F H P q) (s : Sub F F') (hF : F' P = none) (hH : H' P = H P) : TabF F' H' P q := by
  obtain ⟨_, ps, h1, h2, h3⟩ := t
  refine ⟨hF, ps, hH.trans h1, h2, fun pos cv hc => ?_⟩
  obtain ⟨c, e1, e2⟩ := h3 pos cv hc
  exact ⟨c, e1, s _ _ e2⟩
theorem Own.noTab {K : PySem.W.Frag} {T : Tb} {F H F2 : Hp} {p P : Addr} {q : Str} {o : O} (x : Own K T F H p o) (t : TabF F2 H P q) : P ≠ p := fun e => by
  subst e
  obtain ⟨_, ps, h, _⟩ := t
  cases o with
  | lst ds => obtain ⟨vs, a, _⟩ := x; rw [h] at a; cases a
  | dic ds => obtain ⟨vs, a, _⟩ := x; rw [h] at a; cases a
  | dit ds => obtain ⟨vs, a, _⟩ := x; rw [h] at a; cases a
  | ins c fs => obtain ⟨C, dx, fv, a, _⟩ := x; rw [h] at a; cases a
/-- the frame g over the slots σ: F is what is settled, Mo is what others hold -/
structure Rl (K : PySem.W.Frag) (T : Tb) (Mo : List Addr) (F H : Hp) (g : Fm) (σ : St) : Prop where
  sub : Sub F H
  mo : ∀ a ∈ Mo, F a = none ∧ ∃ o, H a = some o
  len : g.length = σ.length
  sl : ∀ (i : Nat) (s : Slot), g[i]? = some s → SlR K T F H s σ[i]?
  sep : ∀ (i j : Nat) (p : Addr), OwnAt g σ i p → OwnAt g σ j p → i = j
  out : ∀ (i : Nat) (p : Addr), OwnAt g σ i p → p ∉ Mo
  tab : ∀ p ∈ T.tabs, p.1 ∉ Mo ∧ TabF F H p.1 p.2
/-- later: what was settled is so, what others hold stands as it stood -/
structure Nxt (Mo : List Addr) (F H F' H' : Hp) : Prop where
  sub : Sub F F'
  mo : ∀ a ∈ Mo, H' a = H a
theorem Nxt.same {Mo : List Addr} {F H : Hp} : Nxt Mo F H F H := ⟨Sub.same, fun _ _ => rfl⟩
theorem Nxt.trans {Mo : List Addr} {F H F1 H1 F2 H2 : Hp} (a : Nxt Mo F H F1 H1) (b : Nxt Mo F1 H1 F2 H2) : Nxt Mo F H F2 H2 := ⟨a.sub.trans b.sub, fun x h => (b.mo x h).trans (a.mo x h)⟩

section
variable {K : PySem.W.Frag} {T : Tb} {Mo : List Addr} {F H F' H' : Hp} {g : Fm} {σ : St}
theorem Rl.dat {i : Nat} {d : D} (r : Rl K T Mo F H g σ) (h : g[i]? = some (.dat d)) : ∃ v, σ[i]? = some (some v) ∧ Is K T F v d := r.sl i _ h
theorem Rl.own {i : Nat} {o : O} (r : Rl K T Mo F H g σ) (h : g[i]? = some (.own o)) : ∃ p, σ[i]? = some (some (.ref p)) ∧ F p = none ∧ Own K T F H p o := r.sl i _ h
theorem Rl.ownAt {i : Nat} {o : O} {p : Addr} (h : g[i]? = some (.own o)) (e : σ[i]? = some (some (.ref p))) : OwnAt g σ i p := ⟨⟨o, h⟩, e⟩
/-- settled and heap grow, what is tracked stands -/
theorem Rl.grow (r : Rl K T Mo F H g σ) (f : Sub F F') (e : Sub F' H') (k : ∀ a o, H a = some o → F' a = none → H' a = some o) (n : ∀ a o, H a = some o → F a = none → F' a = none) : Rl K T Mo F' H' g σ where
  sub := e
  mo := fun a ha => by
    obtain ⟨h1, o, h2⟩ := r.mo a ha
    exact ⟨n a o h2 h1, o, k a o h2 (n a o h2 h1)⟩
  len := r.len
  sl := fun i s h => by
    have q := r.sl i s h
    cases s with
    | un => trivial
    | dat d => obtain ⟨v, e1, e2⟩ := q; exact ⟨v, e1, e2.mono f⟩
    | own o =>
      obtain ⟨p, e1, e2, e3⟩ := q
      obtain ⟨u, hu⟩ := e3.there
      have z := n p u hu e2
      exact ⟨p, e1, z, e3.mono f ((k p u hu z).trans hu.symm)⟩
  sep := r.sep
  out := r.out
  tab := fun p hp => by
    obtain ⟨a, t⟩ := r.tab p hp
    obtain ⟨b, ps, c, d⟩ := id t
    have z := n _ _ c b
    exact ⟨a, t.step f z ((k _ _ c z).trans c.symm)⟩
/-- a new object, settled -/
theorem Rl.new {p : Addr} {o : HO} (r : Rl K T Mo F H g σ) (h : H p = none) : Rl K T Mo (upd F p o) (upd H p o) g σ :=
  r.grow (Sub.new (r.sub.free h)) r.sub.both (fun a u e _ => by rw [upd_ne (ne_of_none e h)]; exact e) fun a u e z => by rw [upd_ne (ne_of_none e h)]; exact z
theorem Nxt.new {p : Addr} {o : HO} (r : Rl K T Mo F H g σ) (h : H p = none) : Nxt Mo F H (upd F p o) (upd H p o) :=
  ⟨Sub.new (r.sub.free h), fun a ha => by obtain ⟨_, u, e⟩ := r.mo a ha; exact upd_ne (ne_of_none e h)⟩
/-- a new object, not settled -/
theorem Rl.newO {p : Addr} {o : HO} (r : Rl K T Mo F H g σ) (h : H p = none) : Rl K T Mo F (upd H p o) g σ :=
  r.grow Sub.same (r.sub.wr (r.sub.free h)) (fun a u e _ => by rw [upd_ne (ne_of_none e h)]; exact e) fun a u e z => z
theorem Nxt.newO {p : Addr} {o : HO} (r : Rl K T Mo F H g σ) (h : H p = none) : Nxt Mo F H F (upd H p o) :=
  ⟨Sub.same, fun a ha => by obtain ⟨_, u, e⟩ := r.mo a ha; exact upd_ne (ne_of_none e h)⟩
/-- a slot is given a datum -/
theorem Rl.setD {i : Nat} {v : V} {d : D} (r : Rl K T Mo F H g σ) (h : Is K T F v d) : Rl K T Mo F H (g.set i (.dat d)) (σ.set i (some v)) where
  sub := r.sub
  mo := r.mo
  len := by simpa using r.len
  sl := fun j s hj => by
    by_cases e : i = j
    · subst e
      have hl : i < g.length := by
        have := (List.getElem?_eq_some_iff.mp hj).1
        simpa using this
      rw [List.getElem?_set_self hl] at hj
      cases hj
      exact ⟨v, List.getElem?_set_self (by rw [← r.len]; exact hl), h⟩
    · rw [List.getElem?_set_ne e] at hj ⊢
      exact r.sl j s hj
  sep := fun a b p ha hb => by
    have z : ∀ c, OwnAt (g.set i (.dat d)) (σ.set i (some v)) c p → OwnAt g σ c p := fun c ⟨⟨o, h1⟩, h2⟩ => by
      by_cases e : i = c
      · subst e
        have hl : i < g.length := by
          have := (List.getElem?_eq_some_iff.mp h1).1
          simpa using this
        rw [List.getElem?_set_self hl] at h1
        cases h1
      · rw [List.getElem?_set_ne e] at h1 h2
        exact ⟨⟨o, h1⟩, h2⟩
    exact r.sep a b p (z a ha) (z b hb)
  out := fun c p ⟨⟨o, h1⟩, h2⟩ => by
    by_cases e : i = c
    · subst e
      have hl : i < g.length := by
        have := (List.getElem?_eq_some_iff.mp h1).1
        simpa using this
      rw [List.getElem?_set_self hl] at h1
      cases h1
    · rw [List.getElem?_set_ne e] at h1 h2
      exact r.out c p ⟨⟨o, h1⟩, h2⟩
  tab := r.tab
/-- a slot is given a new own thing -/
theorem Rl.setO {i : Nat} {p : Addr} {o : O} (r : Rl K T Mo F H g σ) (h : Own K T F H p o) (hF : F p = none) (hM : p ∉ Mo) (hn : ∀ j, j ≠ i → ¬ OwnAt g σ j p) : Rl K T Mo F H (g.set i (.own o)) (σ.set i (some (.ref p))) where
  sub := r.sub
  mo := r.mo
  len := by simpa using r.len
  sl := fun j s hj => by
    by_cases e : i = j
    · subst e
      have hl : i < g.length := by
        have := (List.getElem?_eq_some_iff.mp hj).1
        simpa using this
      rw [List.getElem?_set_self hl] at hj
      cases hj
      exact ⟨p, List.getElem?_set_self (by rw [← r.len]; exact hl), hF, h⟩
    · rw [List.getElem?_set_ne e] at hj ⊢
      exact r.sl j s hj
  sep := fun a b q ha hb => by
    have z : ∀ c, OwnAt (g.set i (.own o)) (σ.set i (some (.ref p))) c q → (c = i ∧ q = p) ∨ (c ≠ i ∧ OwnAt g σ c q) := fun c ⟨⟨o', h1⟩, h2⟩ => by
      by_cases e : i = c
      · subst e
        have hl : i < σ.length := by
          have := (List.getElem?_eq_some_iff.mp h2).1
          simpa using this
        rw [List.getElem?_set_self hl] at h2
        cases h2
        exact .inl ⟨rfl, rfl⟩
      · rw [List.getElem?_set_ne e] at h1 h2
        exact .inr ⟨fun q => e q.symm, ⟨o', h1⟩, h2⟩
    rcases z a ha with ⟨a1, a2⟩ | ⟨a1, a2⟩
    · rcases z b hb with ⟨b1, b2⟩ | ⟨b1, b2⟩
      · rw [a1, b1]
      · rw [a2] at b2; exact absurd b2 (hn b b1)
    · rcases z b hb with ⟨b1, b2⟩ | ⟨b1, b2⟩
      · rw [b2] at a2; exact absurd a2 (hn a a1)
      · exact r.sep a b q a2 b2
  out := fun c q ⟨⟨o', h1⟩, h2⟩ => by
    by_cases e : i = c
    · subst e
      have hl : i < σ.length := by
        have := (List.getElem?_eq_some_iff.mp h2).1
        simpa using this
      rw [List.getElem?_set_self hl] at h2
      cases h2
      exact hM
    · rw [List.getElem?_set_ne e] at h1 h2
      exact r.out c q ⟨⟨o', h1⟩, h2⟩
  tab := r.tab
/-- an own thing is changed where it stands -/
theorem Rl.wr {i : Nat} {p : Addr} {o o' : O} {u : HO} (r : Rl K T Mo F H g σ) (hi : g[i]? = some (.own o)) (hp : σ[i]? = some (some (.ref p))) (h : Own K T F (upd H p u) p o') : Rl K T Mo F (upd H p u) (g.set i (.own o')) σ := by
  obtain ⟨p', e1, e2, e3⟩ := r.own hi
  rw [hp] at e1; cases e1
  have me : OwnAt g σ i p := ⟨⟨o, hi⟩, hp⟩
  have lt := (List.getElem?_eq_some_iff.mp hi).1
  have back : ∀ c q, OwnAt (g.set i (.own o')) σ c q → OwnAt g σ c q := fun c q ⟨⟨o2, h1⟩, h2⟩ => by
    by_cases e : i = c
    · subst e; exact ⟨⟨o, hi⟩, h2⟩
    · rw [List.getElem?_set_ne e] at h1; exact ⟨⟨o2, h1⟩, h2⟩
  refine ⟨r.sub.wr e2, fun a ha => ?_, by simpa using r.len, fun j s hj => ?_, fun a b q ha hb => r.sep a b q (back a q ha) (back b q hb), fun c q hc => r.out c q (back c q hc), fun q hq => ⟨(r.tab q hq).1, (r.tab q hq).2.step Sub.same (r.tab q hq).2.1 (upd_ne (e3.noTab (r.tab q hq).2))⟩⟩
  · obtain ⟨h1, v, h2⟩ := r.mo a ha
    have ne : a ≠ p := fun z => r.out i p me (z ▸ ha)
    exact ⟨h1, v, by rw [upd_ne ne]; exact h2⟩
  · by_cases e : i = j
    · subst e
      rw [List.getElem?_set_self lt] at hj
      cases hj
      exact ⟨p, hp, e2, h⟩
    · rw [List.getElem?_set_ne e] at hj
      have q := r.sl j s hj
      cases s with
      | un => trivial
      | dat d => exact q
      | own o2 =>
        obtain ⟨q', a1, a2, a3⟩ := q
        have ne : q' ≠ p := fun z => e (r.sep i j p me ⟨⟨o2, hj⟩, z ▸ a1⟩)
        exact ⟨q', a1, a2, a3.mono Sub.same (upd_ne ne)⟩
theorem Nxt.wr {i : Nat} {p : Addr} {o : O} {u : HO} (r : Rl K T Mo F H g σ) (hi : g[i]? = some (.own o)) (hp : σ[i]? = some (some (.ref p))) : Nxt Mo F H F (upd H p u) :=
  ⟨Sub.same, fun a ha => upd_ne fun z => r.out i p ⟨⟨o, hi⟩, hp⟩ (z ▸ ha)⟩
/-- an own thing is settled for good -/
theorem Own.settled {p : Addr} {o : O} {d : D} (h : Own K T F H p o) (hd : o.frz = some d) (hF : F p = none) : ∃ u, H p = some u ∧ Is K T (upd F p u) (.ref p) d := by
  have n : ∀ {u : HO}, Sub F (upd F p u) := Sub.new hF
  cases o with
  | lst ds => obtain ⟨vs, a, b⟩ := h; cases hd; exact ⟨_, a, .lst upd_same (b.mono n)⟩
  | dic ds => obtain ⟨vs, a, b⟩ := h; cases hd; exact ⟨_, a, .dic upd_same (b.mono n)⟩
  | dit ds => cases hd
  | ins c fs => obtain ⟨C, dx, fv, a, b, c⟩ := h; cases hd; exact ⟨_, a, .obj upd_same b (c.mono n)⟩
theorem Rl.settle {i : Nat} {p : Addr} {o : O} {u : HO} (r : Rl K T Mo F H g σ) (hi : g[i]? = some (.own o)) (hp : σ[i]? = some (some (.ref p))) (hu : H p = some u) {s : Slot} (hs : ∀ o', s ≠ .own o') (h : SlR K T (upd F p u) H s (some (some (.ref p)))) : Rl K T Mo (upd F p u) H (g.set i s) σ := by
  obtain ⟨p', e1, e2, e3⟩ := r.own hi
  rw [hp] at e1; cases e1
  have me : OwnAt g σ i p := ⟨⟨o, hi⟩, hp⟩
  have lt := (List.getElem?_eq_some_iff.mp hi).1
  have n : Sub F (upd F p u) := Sub.new e2
  have back : ∀ c q, OwnAt (g.set i s) σ c q → c ≠ i ∧ OwnAt g σ c q := fun c q ⟨⟨o2, h1⟩, h2⟩ => by
    by_cases e : i = c
    · subst e
      rw [List.getElem?_set_self lt] at h1
      exact absurd (Option.some.inj h1) (hs o2)
    · rw [List.getElem?_set_ne e] at h1; exact ⟨fun z => e z.symm, ⟨o2, h1⟩, h2⟩
  refine ⟨r.sub.tell hu, fun a ha => ?_, by simpa using r.len, fun j s' hj => ?_, fun a b q ha hb => r.sep a b q (back a q ha).2 (back b q hb).2, fun c q hc => r.out c q (back c q hc).2, fun q hq => ⟨(r.tab q hq).1, (r.tab q hq).2.step n (by rw [upd_ne (e3.noTab (r.tab q hq).2)]; exact (r.tab q hq).2.1) rfl⟩⟩
  · obtain ⟨h1, v, h2⟩ := r.mo a ha
    have ne : a ≠ p := fun z => r.out i p me (z ▸ ha)
    exact ⟨by rw [upd_ne ne]; exact h1, v, h2⟩
  · by_cases e : i = j
    · subst e
      rw [List.getElem?_set_self lt] at hj
      cases hj
      rw [hp]; exact h
    · rw [List.getElem?_set_ne e] at hj
      have q := r.sl j s' hj
      cases s' with
      | un => trivial
      | dat d' => obtain ⟨v, a1, a2⟩ := q; exact ⟨v, a1, a2.mono n⟩
      | own o2 =>
        obtain ⟨q', a1, a2, a3⟩ := q
        have ne : q' ≠ p := fun z => e (r.sep i j p me ⟨⟨o2, hj⟩, z ▸ a1⟩)
        exact ⟨q', a1, by rw [upd_ne ne]; exact a2, a3.mono n rfl⟩
theorem Nxt.settle {p : Addr} {u : HO} (h : F p = none) : Nxt Mo F H (upd F p u) H := ⟨Sub.new h, fun _ _ => rfl⟩
/-- a slot is forgotten -/
theorem Rl.drop {i : Nat} (r : Rl K T Mo F H g σ) : Rl K T Mo F H (g.set i .un) σ := by
  have back : ∀ c q, OwnAt (g.set i .un) σ c q → OwnAt g σ c q := fun c q ⟨⟨o2, h1⟩, h2⟩ => by
    by_cases e : i = c
    · subst e
      have lt : i < g.length := by
        have := (List.getElem?_eq_some_iff.mp h1).1
        simpa using this
      rw [List.getElem?_set_self lt] at h1
      cases h1
    · rw [List.getElem?_set_ne e] at h1; exact ⟨⟨o2, h1⟩, h2⟩
  refine ⟨r.sub, r.mo, by simpa using r.len, fun j s hj => ?_, fun a b q ha hb => r.sep a b q (back a q ha) (back b q hb), fun c q hc => r.out c q (back c q hc), r.tab⟩
  by_cases e : i = j
  · subst e
    have lt : i < g.length := by
      have := (List.getElem?_eq_some_iff.mp hj).1
      simpa using this
    rw [List.getElem?_set_self lt] at hj
    cases hj
    trivial
  · rw [List.getElem?_set_ne e] at hj
    exact r.sl j s hj
/-- a forgotten slot's place may hold anything -/
theorem Rl.wipe {i : Nat} (r : Rl K T Mo F H (g.set i .un) σ) (x : Option V) : Rl K T Mo F H (g.set i .un) (σ.set i x) := by
  have back : ∀ c q, OwnAt (g.set i .un) (σ.set i x) c q → OwnAt (g.set i .un) σ c q := fun c q ⟨⟨o2, h1⟩, h2⟩ => by
    by_cases e : i = c
    · subst e
      have lt : i < g.length := by
        have := (List.getElem?_eq_some_iff.mp h1).1
        simpa using this
      rw [List.getElem?_set_self lt] at h1
      cases h1
    · rw [List.getElem?_set_ne e] at h2; exact ⟨⟨o2, h1⟩, h2⟩
  refine ⟨r.sub, r.mo, by simpa using r.len, fun j s hj => ?_, fun a b q ha hb => r.sep a b q (back a q ha) (back b q hb), fun c q hc => r.out c q (back c q hc), r.tab⟩
  by_cases e : i = j
  · subst e
    have lt : i < g.length := by
      have := (List.getElem?_eq_some_iff.mp hj).1
      simpa using this
    rw [List.getElem?_set_self lt] at hj
    cases hj
    trivial
  · have q := r.sl j s hj
    rw [List.getElem?_set_ne e]
    exact q
end
end DL

set_option Elab.async false
set_option linter.all false
set_option autoImplicit false
set_option maxRecDepth 100000
set_option maxHeartbeats 2000000
/-! DLb: == of data. -/
namespace DL
open PySem L2

mutual
/-- data that == may be asked of -/
def D.pure : D → Bool
  | .non => true
  | .bl _ => true
  | .int _ => true
  | .str _ => true
  | .tup xs => pureL xs
  | .lst xs => pureL xs
  | .scr _ => false
  | .dic _ => false
  | .obj _ _ => false
  | .fn _ => false
def pureL : List D → Bool
  | [] => true
  | x :: xs => x.pure && pureL xs
end
mutual
/-- how deep -/
def D.dep : D → Nat
  | .tup xs => depL xs + 1
  | .lst xs => depL xs + 1
  | _ => 0
def depL : List D → Nat
  | [] => 0
  | x :: xs => max x.dep (depL xs)
end
/-- Python's == -/
def b2i (b : Bool) : Int := if b then 1 else 0
mutual
def D.eqv : D → D → Bool
  | .non, .non => true
  | .bl a, .bl b => a == b
  | .bl a, .int j => b2i a == j
  | .int i, .bl b => i == b2i b
  | .int i, .int j => i == j
  | .str x, .str y => x == y
  | .tup xs, .tup ys => eqvL xs ys
  | .lst xs, .lst ys => eqvL xs ys
  | _, _ => false
def eqvL : List D → List D → Bool
  | [], [] => true
  | x :: xs, y :: ys => x.eqv y && eqvL xs ys
  | _, _ => false
end
mutual
theorem D.eqv_self : ∀ d : D, d.pure = true → d.eqv d = true
  | .non, _ => by simp [D.eqv]
  | .bl _, _ => by simp [D.eqv]
  | .int _, _ => by simp [D.eqv]
  | .str _, _ => by simp [D.eqv]
  | .tup xs, h => by simp only [D.eqv]; exact eqvL_self xs (by simpa [D.pure] using h)
  | .lst xs, h => by simp only [D.eqv]; exact eqvL_self xs (by simpa [D.pure] using h)
  | .scr _, h => by simp [D.pure] at h
  | .dic _, h => by simp [D.pure] at h
  | .obj _ _, h => by simp [D.pure] at h
  | .fn _, h => by simp [D.pure] at h
theorem eqvL_self : ∀ ds : List D, pureL ds = true → eqvL ds ds = true
  | [], _ => by simp [eqvL]
  | x :: xs, h => by
    simp only [pureL, Bool.and_eq_true] at h
    simp only [eqvL, Bool.and_eq_true]
    exact ⟨D.eqv_self x h.1, eqvL_self xs h.2⟩
end
theorem eqvL_len : ∀ {xs ys : List D}, xs.length ≠ ys.length → eqvL xs ys = false
  | [], [], h => absurd rfl h
  | [], _ :: _, _ => by simp [eqvL]
  | _ :: _, [], _ => by simp [eqvL]
  | x :: xs, y :: ys, h => by
    simp only [eqvL]
    rw [eqvL_len (xs := xs) (ys := ys) (by simpa using h), Bool.and_false]
theorem eqvL_all : ∀ (xs ys : List D), ((List.range (min xs.length ys.length)).all (fun j => (xs.getD j .non).eqv (ys.getD j .non)) && xs.length == ys.length) = eqvL xs ys
  | [], [] => by simp [eqvL]
  | [], _ :: _ => by simp [eqvL]
  | _ :: _, [] => by simp [eqvL]
  | x :: xs, y :: ys => by
    have ih := eqvL_all xs ys
    have m : min (x :: xs).length (y :: ys).length = min xs.length ys.length + 1 := by simp only [List.length_cons]; omega
    rw [m, List.range_succ_eq_map, List.all_cons, List.all_map]
    simp only [eqvL, ← ih, List.length_cons, Bool.and_assoc]
    congr 2
    simp

mutual
/-- the machine's value u is the datum -/
inductive VIs (h : Heap) : Value → D → Prop
  | non : VIs h .none .non
  | bl (b : Bool) : VIs h (.bool b) (.bl b)
  | int (i : Int) (t : Tok) : VIs h (.int i t) (.int i)
  | str (x : Str) (t : Tok) : VIs h (.str x t) (.str x)
  | tup {a : Addr} {us : List Value} {ds : List D} : h.IsTuple a us.toArray → VIsL h us ds → VIs h (.ref a) (.tup ds)
  | lst {a : Addr} {us : List Value} {ds : List D} : h.IsList a us.toArray → VIsL h us ds → VIs h (.ref a) (.lst ds)
inductive VIsL (h : Heap) : List Value → List D → Prop
  | nil : VIsL h [] []
  | cons {u : Value} {us : List Value} {d : D} {ds : List D} : VIs h u d → VIsL h us ds → VIsL h (u :: us) (d :: ds)
end
theorem VIsL.length {h : Heap} : ∀ {us : List Value} {ds : List D}, VIsL h us ds → us.length = ds.length
  | _, _, .nil => rfl
  | _, _, .cons _ t => by simp [VIsL.length t]
theorem VIsL.get {h : Heap} : ∀ {us : List Value} {ds : List D} {j : Nat} (hj : j < us.length), VIsL h us ds → VIs h us[j] (ds.getD j .non)
  | _, _, 0, _, .cons a _ => by simpa using a
  | _, _, j + 1, hj, .cons _ t => by
    have := VIsL.get (j := j) (by simpa using hj) t
    simpa using this
theorem tup_inj {h : Heap} {a : Addr} {us ws : List Value} (p : h.IsTuple a us.toArray) (q : h.IsTuple a ws.toArray) : us = ws := by
  obtain ⟨o, e, _, n, d⟩ := p
  obtain ⟨o', e', _, n', d'⟩ := q
  rw [e] at e'; cases e'
  rw [d] at d'
  injection d' with d1 _
  simpa using congrArg Array.toList d1
theorem lst_inj {h : Heap} {a : Addr} {us ws : List Value} (p : h.IsList a us.toArray) (q : h.IsList a ws.toArray) : us = ws := by
  obtain ⟨o, e, _, n, d⟩ := p
  obtain ⟨o', e', _, n', d'⟩ := q
  rw [e] at e'; cases e'
  rw [d] at d'
  injection d' with d1 _
  simpa using congrArg Array.toList d1
theorem not_both {h : Heap} {a : Addr} {us ws : List Value} (p : h.IsTuple a us.toArray) (q : h.IsList a ws.toArray) : False := by
  obtain ⟨o, e, c, n, d⟩ := p
  obtain ⟨o', e', c', n', d'⟩ := q
  rw [e] at e'; cases e'
  rw [c] at c'
  injection c' with z
  exact absurd z (by decide)
mutual
theorem VIs.uniq {h : Heap} : ∀ {d e : D} {u : Value}, VIs h u d → VIs h u e → d = e
  | .non, _, _, .non, q => by cases q; rfl
  | .bl _, _, _, .bl _, q => by cases q; rfl
  | .int _, _, _, .int _ _, q => by cases q; rfl
  | .str _, _, _, .str _ _, q => by cases q; rfl
  | .tup ds, _, _, .tup p l, q => by
    cases q with
    | tup p' l' =>
      have z := tup_inj p p'
      subst z
      rw [VIsL.uniq l l']
    | lst p' l' => exact (not_both p p').elim
  | .lst ds, _, _, .lst p l, q => by
    cases q with
    | lst p' l' =>
      have z := lst_inj p p'
      subst z
      rw [VIsL.uniq l l']
    | tup p' l' => exact (not_both p' p).elim
theorem VIsL.uniq {h : Heap} : ∀ {ds es : List D} {us : List Value}, VIsL h us ds → VIsL h us es → ds = es
  | [], _, _, .nil, q => by cases q; rfl
  | d :: ds, _, _, .cons a t, q => by
    cases q with
    | cons b t' => rw [VIs.uniq a b, VIsL.uniq t t']
end
theorem VIs.pure' {h : Heap} : ∀ {d : D} {u : Value}, VIs h u d → d.pure = true := by
  have main : ∀ n : Nat, (∀ (d : D) (u : Value), sizeOf d < n → VIs h u d → d.pure = true) ∧ (∀ (ds : List D) (us : List Value), sizeOf ds < n → VIsL h us ds → pureL ds = true) := by
    intro n
    induction n with
    | zero => exact ⟨fun _ _ z => absurd z (Nat.not_lt_zero _), fun _ _ z => absurd z (Nat.not_lt_zero _)⟩
    | succ n ih =>
      refine ⟨fun d u z q => ?_, fun ds us z q => ?_⟩
      · cases q with
        | tup p l => simp only [D.pure]; exact ih.2 _ _ (by simp at z; omega) l
        | lst p l => simp only [D.pure]; exact ih.2 _ _ (by simp at z; omega) l
        | _ => simp [D.pure]
      · cases q with
        | nil => simp [pureL]
        | cons a t =>
          simp only [pureL, Bool.and_eq_true]
          simp at z
          exact ⟨ih.1 _ _ (by omega) a, ih.2 _ _ (by omega) t⟩
  exact fun {d u} q => (main (sizeOf d + 1)).1 d u (Nat.lt_succ_self _) q

open SeqAt in
theorem eq_flat_seq {A : Around} {s : Shared} {a : Addr} {us : List Value} (hu : A.units < cLine) (p : s.heap.IsTuple a us.toArray ∨ s.heap.IsList a us.toArray) {u : Value} {d : D} (q : VIs s.heap u d) (hd : ∀ xs, d ≠ .tup xs) (hl : ∀ xs, d ≠ .lst xs) :
    EqAt A s u (.ref a) false ∧ EqAt A s (.ref a) u false ∧ RcAt A s u (.ref a) false ∧ RcAt A s (.ref a) u false := by
  cases q with
  | non =>
    rcases p with p | p
    · exact ⟨EqAt.none_tuple p hu, EqAt.tuple_none p hu, RcAt.none_tuple p hu, RcAt.tuple_none p hu⟩
    · exact ⟨EqAt.none_list p hu, EqAt.list_none p hu, RcAt.none_list p hu, RcAt.list_none p hu⟩
  | bl b =>
    rcases p with p | p
    · exact ⟨EqAt.bool_tuple b p hu, EqAt.tuple_bool b p hu, RcAt.bool_tuple b p hu, RcAt.tuple_bool b p hu⟩
    · exact ⟨EqAt.bool_list b p hu, EqAt.list_bool b p hu, RcAt.bool_list b p hu, RcAt.list_bool b p hu⟩
  | int i t =>
    rcases p with p | p
    · exact ⟨EqAt.int_tuple i t p hu, EqAt.tuple_int i t p hu, RcAt.int_tuple i t p hu, RcAt.tuple_int i t p hu⟩
    · exact ⟨EqAt.int_list i t p hu, EqAt.list_int i t p hu, RcAt.int_list i t p hu, RcAt.list_int i t p hu⟩
  | str x t =>
    rcases p with p | p
    · exact ⟨EqAt.str_tuple x t p hu, EqAt.tuple_str x t p hu, RcAt.str_tuple x t p hu, RcAt.tuple_str x t p hu⟩
    · exact ⟨EqAt.str_list x t p hu, EqAt.list_str x t p hu, RcAt.str_list x t p hu, RcAt.list_str x t p hu⟩
  | tup _ _ => exact absurd rfl (hd _)
  | lst _ _ => exact absurd rfl (hl _)

open SeqAt in
theorem eq_flat {A : Around} {s : Shared} {u w : Value} {d e : D} (p : VIs s.heap u d) (q : VIs s.heap w e) (hd : ∀ xs, d ≠ .tup xs ∧ d ≠ .lst xs) (he : ∀ xs, e ≠ .tup xs ∧ e ≠ .lst xs) : EqAt A s u w (d.eqv e) ∧ RcAt A s u w (d.eqv e) := by
  cases p with
  | tup _ _ => exact absurd rfl (hd _).1
  | lst _ _ => exact absurd rfl (hd _).2
  | non =>
    cases q with
    | tup _ _ => exact absurd rfl (he _).1
    | lst _ _ => exact absurd rfl (he _).2
    | non => exact ⟨EqAt.same _, RcAt.none_none⟩
    | bl b => exact ⟨EqAt.none_bool b, RcAt.none_bool b⟩
    | int b t => exact ⟨EqAt.none_int b t, RcAt.none_int b t⟩
    | str b t => exact ⟨EqAt.none_str b t, RcAt.none_str b t⟩
  | bl a =>
    cases q with
    | tup _ _ => exact absurd rfl (he _).1
    | lst _ _ => exact absurd rfl (he _).2
    | non => exact ⟨EqAt.bool_none a, RcAt.bool_none a⟩
    | bl b => exact ⟨EqAt.bool_bool a b, RcAt.bool_bool a b⟩
    | int b t => exact ⟨EqAt.bool_int a b t, RcAt.bool_int a b t⟩
    | str b t => exact ⟨EqAt.bool_str a b t, RcAt.bool_str a b t⟩
  | int a ta =>
    cases q with
    | tup _ _ => exact absurd rfl (he _).1
    | lst _ _ => exact absurd rfl (he _).2
    | non => exact ⟨EqAt.int_none a ta, RcAt.int_none a ta⟩
    | bl b => exact ⟨EqAt.int_bool a ta b, RcAt.int_bool a ta b⟩
    | int b t => exact ⟨EqAt.int_int a ta b t, RcAt.int_int a ta b t⟩
    | str b t => exact ⟨EqAt.int_str a ta b t, RcAt.int_str a ta b t⟩
  | str a ta =>
    cases q with
    | tup _ _ => exact absurd rfl (he _).1
    | lst _ _ => exact absurd rfl (he _).2
    | non => exact ⟨EqAt.str_none a ta, RcAt.str_none a ta⟩
    | bl b => exact ⟨EqAt.str_bool a ta b, RcAt.str_bool a ta b⟩
    | int b t => exact ⟨EqAt.str_int a ta b t, RcAt.str_int a ta b t⟩
    | str b t => exact ⟨EqAt.str_str a ta b t, RcAt.str_str a ta b t⟩
theorem seq_or (d : D) : (∃ xs, d = .tup xs) ∨ (∃ xs, d = .lst xs) ∨ ∀ xs, d ≠ .tup xs ∧ d ≠ .lst xs := by
  cases d <;> first | exact .inl ⟨_, rfl⟩ | exact .inr (.inl ⟨_, rfl⟩) | exact .inr (.inr fun xs => ⟨(fun z => nomatch z), (fun z => nomatch z)⟩)
theorem depL_get : ∀ {xs : List D} {j : Nat}, (xs.getD j .non).dep ≤ depL xs
  | [], _ => by simp [D.dep]
  | x :: xs, 0 => by simp [depL]; omega
  | x :: xs, j + 1 => by
    have := depL_get (xs := xs) (j := j)
    simp only [List.getD_cons_succ, depL]
    omega
open SeqAt in
theorem eq_data : ∀ (n : Nat) (d e : D) (A : Around) (s : Shared) (u w : Value), d.dep ≤ n → VIs s.heap u d → VIs s.heap w e → A.units + n < cLine → EqAt A s u w (d.eqv e) ∧ RcAt A s u w (d.eqv e) := by
  intro n
  induction n with
  | zero =>
    intro d e A s u w hn p q hu
    have hA : A.units < cLine := by omega
    rcases seq_or d with ⟨xs, rfl⟩ | ⟨xs, rfl⟩ | hd
    · simp [D.dep] at hn
    · simp [D.dep] at hn
    · rcases seq_or e with ⟨ys, rfl⟩ | ⟨ys, rfl⟩ | he
      · cases q with
        | tup q l =>
          have z : d.eqv (.tup ys) = false := by cases p <;> first | exact absurd rfl (hd _).1 | exact absurd rfl (hd _).2 | (simp [D.eqv])
          rw [z]
          have k := eq_flat_seq hA (.inl q) p (fun xs => (hd xs).1) fun xs => (hd xs).2
          exact ⟨k.1, k.2.2.1⟩
      · cases q with
        | lst q l =>
          have z : d.eqv (.lst ys) = false := by cases p <;> first | exact absurd rfl (hd _).1 | exact absurd rfl (hd _).2 | (simp [D.eqv])
          rw [z]
          have k := eq_flat_seq hA (.inr q) p (fun xs => (hd xs).1) fun xs => (hd xs).2
          exact ⟨k.1, k.2.2.1⟩
      · exact eq_flat p q hd he
  | succ n ih =>
    intro d e A s u w hn p q hu
    have hA : A.units < cLine := by omega
    have hin : A.in1.units + n < cLine := by
      have : A.in1.units = A.units + 1 := rfl
      omega
    rcases seq_or d with ⟨xs, rfl⟩ | ⟨xs, rfl⟩ | hd
    · cases p with
      | @tup a us _ p l =>
        have hx : depL xs ≤ n := by simp only [D.dep] at hn; omega
        rcases seq_or e with ⟨ys, rfl⟩ | ⟨ys, rfl⟩ | he
        · cases q with
          | @tup b ws _ q k =>
            have h1 := l.length
            have h2 := k.length
            have body : ∀ j (j1 : j < us.toArray.size) (j2 : j < ws.toArray.size), EqAt A.in1 s us.toArray[j] ws.toArray[j] ((xs.getD j .non).eqv (ys.getD j .non)) := fun j j1 j2 => by
              have r1 := l.get (j := j) (by simpa using j1)
              have r2 := k.get (j := j) (by simpa using j2)
              have := (ih _ _ A.in1 s _ _ (Nat.le_trans depL_get hx) r1 r2 hin).1
              simpa using this
            have main : RcAt A s (.ref a) (.ref b) ((D.tup xs).eqv (.tup ys)) := by
              have z := RcAt.tuples p q hA body
              have e1 : us.toArray.size = xs.length := by simpa using h1
              have e2 : ws.toArray.size = ys.length := by simpa using h2
              rw [e1, e2] at z
              simp only [D.eqv, ← eqvL_all]
              exact z
            refine ⟨?_, main⟩
            by_cases ab : a = b
            · subst ab
              have z := VIs.uniq (VIs.tup p l) (VIs.tup q k)
              rw [← z, D.eqv_self _ (VIs.tup p l).pure']
              exact EqAt.same _
            · exact EqAt.of_refs ab main
        · cases q with
          | lst q k =>
            simp only [D.eqv]
            exact ⟨EqAt.tuple_list p q hA, RcAt.tuple_list p q hA⟩
        · have z : (D.tup xs).eqv e = false := by cases q <;> first | exact absurd rfl (he _).1 | exact absurd rfl (he _).2 | (simp [D.eqv])
          rw [z]
          have k := eq_flat_seq hA (.inl p) q (fun xs => (he xs).1) fun xs => (he xs).2
          exact ⟨k.2.1, k.2.2.2⟩
    · cases p with
      | @lst a us _ p l =>
        have hx : depL xs ≤ n := by simp only [D.dep] at hn; omega
        rcases seq_or e with ⟨ys, rfl⟩ | ⟨ys, rfl⟩ | he
        · cases q with
          | tup q k =>
            simp only [D.eqv]
            exact ⟨EqAt.list_tuple p q hA, RcAt.list_tuple p q hA⟩
        · cases q with
          | @lst b ws _ q k =>
            have h1 := l.length
            have h2 := k.length
            have body : ∀ j (j1 : j < us.toArray.size) (j2 : j < ws.toArray.size), EqAt A.in1 s us.toArray[j] ws.toArray[j] ((xs.getD j .non).eqv (ys.getD j .non)) := fun j j1 j2 => by
              have r1 := l.get (j := j) (by simpa using j1)
              have r2 := k.get (j := j) (by simpa using j2)
              have := (ih _ _ A.in1 s _ _ (Nat.le_trans depL_get hx) r1 r2 hin).1
              simpa using this
            have e1 : us.toArray.size = xs.length := by simpa using h1
            have e2 : ws.toArray.size = ys.length := by simpa using h2
            have main : RcAt A s (.ref a) (.ref b) ((D.lst xs).eqv (.lst ys)) := by
              by_cases hs : us.toArray.size = ws.toArray.size
              · have z := RcAt.lists p q hs hA body
                have hl : xs.length = ys.length := by omega
                have w := eqvL_all xs ys
                rw [← hl, Nat.min_self] at w
                simp only [D.eqv, ← w, beq_self_eq_true, Bool.and_true]
                rw [e1] at z
                exact z
              · have hl : xs.length ≠ ys.length := by omega
                simp only [D.eqv, eqvL_len hl]
                exact RcAt.lists_lengths p q (by simpa using hs) hA
            refine ⟨?_, main⟩
            by_cases ab : a = b
            · subst ab
              have z := VIs.uniq (VIs.lst p l) (VIs.lst q k)
              rw [← z, D.eqv_self _ (VIs.lst p l).pure']
              exact EqAt.same _
            · exact EqAt.of_refs ab main
        · have z : (D.lst xs).eqv e = false := by cases q <;> first | exact absurd rfl (he _).1 | exact absurd rfl (he _).2 | (simp [D.eqv])
          rw [z]
          have k := eq_flat_seq hA (.inr p) q (fun xs => (he xs).1) fun xs => (he xs).2
          exact ⟨k.2.1, k.2.2.2⟩
    · have d0 : d.dep = 0 := by cases p <;> first | rfl | exact absurd rfl (hd _).1 | exact absurd rfl (hd _).2
      exact ih d e A s u w (by omega) p q (by omega)

/-! ### from the tracked heap -/
section
variable {X : Cx} {pins : List (Addr × Obj)} {σ : St} {H F : Hp} {s : Shared} {T : Tb}
mutual
theorem Is.vis (I : Inv X pins σ H s) (f : Sub F H) : ∀ {v : V} {u : Value} {d : D}, Is X.K T F v d → RelV v u → d.pure = true → VIs s.heap u d
  | _, _, _, .non, r, _ => by cases r; exact .non
  | _, _, _, .bl b, r, _ => by cases r; exact .bl b
  | _, _, _, .int i, r, _ => by obtain ⟨t, rfl⟩ := r; exact .int i t
  | _, _, _, .str x, r, _ => by obtain ⟨t, rfl⟩ := r; exact .str x t
  | _, _, _, .tup h l, r, p => by
    cases r
    obtain ⟨its, rv, ht, _⟩ := I.tuple (f.sqT h)
    exact .tup ht (IsL.vis I f l rv (by simpa [D.pure] using p))
  | _, _, _, .lst h l, r, p => by
    cases r
    obtain ⟨its, rv, ht, _⟩ := I.list (SqL.of (f _ _ h))
    exact .lst ht.isList (IsL.vis I f l rv (by simpa [D.pure] using p))
  | _, _, _, .scr _, _, p => by simp [D.pure] at p
  | _, _, _, .dic _ _, _, p => by simp [D.pure] at p
  | _, _, _, .obj _ _ _, _, p => by simp [D.pure] at p
  | _, _, _, .fn _, _, p => by simp [D.pure] at p
theorem IsL.vis (I : Inv X pins σ H s) (f : Sub F H) : ∀ {vs : List V} {us : List Value} {ds : List D}, IsL X.K T F vs ds → Vals vs us → pureL ds = true → VIsL s.heap us ds
  | _, _, _, .nil, r, _ => by cases r; exact .nil
  | _, _, _, .cons h t, r, p => by
    simp only [pureL, Bool.and_eq_true] at p
    cases r with
    | cons r rs => exact .cons (Is.vis I f h r p.1) (IsL.vis I f t rs p.2)
end
end
end DL

set_option Elab.async false
set_option linter.all false
set_option autoImplicit false
set_option maxRecDepth 100000
set_option maxHeartbeats 2000000
/-! DLc: the operations on data, and that the machine does them. -/
namespace DL
open PySem L2

/-! ### the weakest readings -/
section
variable (X : Cx)
def wE (e : Expr) : TE := fun σ H Q => ∀ (pins : List (Addr × Obj)) (s : Shared), Inv X pins σ H s → wpAny (model X.prog X.w) X.A (eval e X.env) (EP X pins σ Q) X.xe s
def wT (e : Expr) : TT := fun σ H Q => ∀ (pins : List (Addr × Obj)) (s : Shared), Inv X pins σ H s → wpAny (model X.prog X.w) X.A (isTrue e X.env (eval e X.env)) (TP X pins σ Q) X.xe s
def wPW (e : Expr) : TT := fun σ H Q => ∀ (whole : Sem Value) (pins : List (Addr × Obj)) (s : Shared), Inv X pins σ H s → wpAny (model X.prog X.w) X.A (isTrue e X.env whole) (TP X pins σ Q) X.xe s
def wA (es : List Expr) : TA := fun σ H Q => ∀ (pos : Pos) (pins : List (Addr × Obj)) (s : Shared), Inv X pins σ H s → wpAny (model X.prog X.w) X.A (spliced (backTo pos (starEach es X.env))) (AP X pins σ Q) X.xe s
def wS (st : Stmt) : TS := fun D σ H => ∀ (pins : List (Addr × Obj)) (s : Shared), Inv X pins σ H s → wpAny (model X.prog X.w) X.A (exec st X.env) (SP X pins D) X.xe s
def wSs (st : List Stmt) : TS := fun D σ H => ∀ (pins : List (Addr × Obj)) (s : Shared), Inv X pins σ H s → wpAny (model X.prog X.w) X.A (execs st X.env) (SP X pins D) X.xe s
def wB (f : Value → Value → Sem Value) : R2 := fun x y H Q => ∀ (pins : List (Addr × Obj)) (s : Shared) (σ : St) (v u : Value), Inv X pins σ H s → RelV x v → RelV y u → wpAny (model X.prog X.w) X.A (f v u) (EP X pins σ Q) X.xe s
def wC (f : Value) : List V → Hp → VK → Prop := fun xs H Q => ∀ (pins : List (Addr × Obj)) (s : Shared) (σ : St) (us : List Value), Inv X pins σ H s → Vals xs us → wpAny (model X.prog X.w) X.A (call f us) (EP X pins σ Q) X.xe s
def wM (id : String) : V → List V → Hp → VK → Prop := fun x xs H Q => ∀ (pins : List (Addr × Obj)) (s : Shared) (σ : St) (v : Value) (us : List Value), Inv X pins σ H s → RelV x v → Vals xs us → wpAny (model X.prog X.w) X.A (call (.builtin id) (v :: us)) (EP X pins σ Q) X.xe s
end
section
variable {X : Cx}
theorem pe_w {e : Expr} : PE X e (wE X e) := ⟨fun pins s _ _ _ I h => h pins s I⟩
theorem pt_w {e : Expr} : PT X e (wT X e) := ⟨fun pins s _ _ _ I h => h pins s I⟩
theorem pw_w {e : Expr} : PW X e (wPW X e) := ⟨fun wh pins s _ _ _ I h => h wh pins s I⟩
theorem pa_w {es : List Expr} : PA X es (wA X es) := ⟨fun pos pins s _ _ _ I h => h pos pins s I⟩
theorem ps_w {st : Stmt} : PS X st (wS X st) := ⟨fun pins s _ _ _ I h => h pins s I⟩
theorem pss_w {st : List Stmt} : PSs X st (wSs X st) := ⟨fun pins s _ _ _ I h => h pins s I⟩
theorem op_w {f : Value → Value → Sem Value} : OpR X f (wB X f) := fun pins s σ _ _ _ v u _ I r1 r2 h => h pins s σ v u I r1 r2
theorem cr_w {f : Value} : CallR X f (wC X f) := fun pins s σ _ _ us _ I r h => h pins s σ us I r
theorem mt_w {id : String} : MtR X id (wM X id) := fun pins s σ _ _ _ v us _ I r1 r2 h => h pins s σ v us I r1 r2
variable {σ : St} {H : Hp}
theorem toE {e : Expr} {t : TE} {Q : VK} (h : PE X e t) (q : t σ H Q) : wE X e σ H Q := fun pins s I => h.run pins s σ H Q I q
theorem toT {e : Expr} {t : TT} {Q : Bool → Hp → Prop} (h : PT X e t) (q : t σ H Q) : wT X e σ H Q := fun pins s I => h.run pins s σ H Q I q
theorem toPW {e : Expr} {t : TT} {Q : Bool → Hp → Prop} (h : PW X e t) (q : t σ H Q) : wPW X e σ H Q := fun wh pins s I => h.run wh pins s σ H Q I q
theorem toA {es : List Expr} {t : TA} {Q : List V → Hp → Prop} (h : PA X es t) (q : t σ H Q) : wA X es σ H Q := fun pos pins s I => h.run pos pins s σ H Q I q
theorem toS {st : Stmt} {t : TS} {D : Ends} (h : PS X st t) (q : t D σ H) : wS X st D σ H := fun pins s I => h.run pins s σ H D I q
theorem toSs {st : List Stmt} {t : TS} {D : Ends} (h : PSs X st t) (q : t D σ H) : wSs X st D σ H := fun pins s I => h.run pins s σ H D I q
theorem toB {f : Value → Value → Sem Value} {r : R2} {x y : V} {Q : VK} (h : OpR X f r) (q : r x y H Q) : wB X f x y H Q := fun pins s σ v u I r1 r2 => h pins s σ H x y v u Q I r1 r2 q
theorem toC {f : Value} {r : List V → Hp → VK → Prop} {xs : List V} {Q : VK} (h : CallR X f r) (q : r xs H Q) : wC X f xs H Q := fun pins s σ us I r1 => h pins s σ H xs us Q I r1 q
theorem toM {id : String} {r : V → List V → Hp → VK → Prop} {x : V} {xs : List V} {Q : VK} (h : MtR X id r) (q : r x xs H Q) : wM X id x xs H Q := fun pins s σ v us I r1 r2 => h pins s σ H x xs v us Q I r1 r2 q
end

/-! ### new settled objects -/
inductive Alc : Hp → Hp → Hp → Hp → Prop
  | same (F H : Hp) : Alc F H F H
  | new {F H F' H' : Hp} {p : Addr} (o : HO) : H p = none → Alc (upd F p o) (upd H p o) F' H' → Alc F H F' H'
theorem Alc.one {F H : Hp} {p : Addr} (o : HO) (h : H p = none) : Alc F H (upd F p o) (upd H p o) := .new o h (.same _ _)
theorem Alc.trans {F H F1 H1 F2 H2 : Hp} (a : Alc F H F1 H1) (b : Alc F1 H1 F2 H2) : Alc F H F2 H2 := by
  induction a with
  | same => exact b
  | new o h _ ih => exact .new o h (ih b)
theorem Alc.sub {F H F' H' : Hp} (a : Alc F H F' H') : Sub F H → Sub F F' ∧ Sub F' H' := by
  induction a with
  | same => exact fun e => ⟨Sub.same, e⟩
  | new o h _ ih => exact fun e => ⟨(Sub.new (e.free h)).trans (ih e.both).1, (ih e.both).2⟩
theorem Alc.rl {K : PySem.W.Frag} {T : Tb} {Mo : List Addr} {F H F' H' : Hp} {g : Fm} {σ : St} (a : Alc F H F' H') : Rl K T Mo F H g σ → Rl K T Mo F' H' g σ ∧ Nxt Mo F H F' H' := by
  induction a with
  | same => exact fun r => ⟨r, Nxt.same⟩
  | new o h _ ih => exact fun r => ⟨(ih (r.new h)).1, (Nxt.new r h).trans (ih (r.new h)).2⟩

/-! ### + - * and their kin -/
inductive Bo where
  | add | sub | mul | fdiv | mod | pow | shl | shr | band | bor
def Bo.op : Bo → Operator
  | .add => .Add | .sub => .Sub | .mul => .Mult | .fdiv => .FloorDiv | .mod => .Mod | .pow => .Pow | .shl => .LShift | .shr => .RShift | .band => .BitAnd | .bor => .BitOr
instance (i j : Int) : Decidable (CMul i j) := inferInstanceAs (Decidable ((-(2 ^ 64) < i ∧ i < 2 ^ 64) ∨ (-(2 ^ 64) < j ∧ j < 2 ^ 64)))
instance (i j : Int) : Decidable (CDiv i j) := inferInstanceAs (Decidable (0 < j ∧ j < 1073741824))
instance (i j : Int) : Decidable (CPow i j) := inferInstanceAs (Decidable (0 ≤ j ∧ j ≤ 1000000 ∧ i.natAbs < 2 ^ 64))
def intB : Bo → Int → Int → Option Int
  | .add, i, j => some (i + j)
  | .sub, i, j => some (i - j)
  | .mul, i, j => if CMul i j then some (i * j) else none
  | .fdiv, i, j => if CDiv i j then some (i / j) else none
  | .mod, i, j => if 0 < j then some (i % j) else none
  | .pow, i, j => if CPow i j then some (i ^ j.toNat) else none
  | .shl, i, j => if CPow i j then some (i * 2 ^ j.toNat) else none
  | .shr, i, j => if 0 ≤ j then some (i / 2 ^ j.toNat) else none
  | .band, i, j => some (Builtin.bitAnd i j)
  | .bor, i, j => some (Builtin.bitOr i j)
def binD (o : Bo) : D → D → Option D
  | .int i, .int j => (intB o i j).map .int
  | .str x, .str y => match o with
    | .add => if x.length + y.length ≤ sizeLine then some (.str (x ++ y)) else none
    | _ => none
  | .lst xs, .lst ys => match o with
    | .add => if xs.length + ys.length ≤ sizeLine then some (.lst (xs ++ ys)) else none
    | _ => none
  | .tup xs, .tup ys => match o with
    | .add => if xs.length + ys.length ≤ sizeLine then some (.tup (xs ++ ys)) else none
    | _ => none
  | _, _ => none
section
variable {X : Cx} {T : Tb} {F H : Hp} {Q : VK}
theorem intB_ok {o : Bo} {i j k : Int} (h : intB o i j = some k) (q : Q (.int k) H) : wB X (binaryOp o.op) (.int i) (.int j) H Q := by
  cases o with
  | add => cases h; exact toB op_add ⟨i, j, rfl, rfl, q⟩
  | sub => cases h; exact toB op_sub ⟨i, j, rfl, rfl, q⟩
  | mul =>
    simp only [intB] at h
    split at h
    · next c => cases h; exact toB op_mul ⟨i, j, rfl, rfl, c, q⟩
    · cases h
  | fdiv =>
    simp only [intB] at h
    split at h
    · next c => cases h; exact toB op_fdiv ⟨i, j, rfl, rfl, c, q⟩
    · cases h
  | mod =>
    simp only [intB] at h
    split at h
    · next c => cases h; exact toB op_mod ⟨i, j, rfl, rfl, c, q⟩
    · cases h
  | pow =>
    simp only [intB] at h
    split at h
    · next c => cases h; exact toB op_pow ⟨i, j, rfl, rfl, c, q⟩
    · cases h
  | shl =>
    simp only [intB] at h
    split at h
    · next c => cases h; exact toB op_shl ⟨i, j, rfl, rfl, c, q⟩
    · cases h
  | shr =>
    simp only [intB] at h
    split at h
    · next c => cases h; exact toB op_shr ⟨i, j, rfl, rfl, c, q⟩
    · cases h
  | band => cases h; exact toB op_and ⟨i, j, rfl, rfl, q⟩
  | bor => cases h; exact toB op_or ⟨i, j, rfl, rfl, q⟩
theorem binD_ok {o : Bo} {x y z : D} {u v : V} (h : binD o x y = some z) (hx : Is X.K T F u x) (hy : Is X.K T F v y) (f : Sub F H)
    (q : ∀ F' H' w, Alc F H F' H' → Is X.K T F' w z → Q w H') : wB X (binaryOp o.op) u v H Q := by
  cases hx with
  | int i =>
    cases hy with
    | int j =>
      simp only [binD] at h
      cases e : intB o i j with
      | none => rw [e] at h; cases h
      | some k =>
        rw [e] at h
        cases h
        exact intB_ok e (q F H _ (.same _ _) (.int k))
    | _ => simp [binD] at h
  | str a =>
    cases hy with
    | str b =>
      cases o <;> simp only [binD] at h <;> first | cases h | skip
      split at h
      · next c => cases h; exact toB op_add_str ⟨a, b, rfl, rfl, c, q F H _ (.same _ _) (.str _)⟩
      · cases h
    | _ => simp [binD] at h
  | lst h1 l1 =>
    cases hy with
    | lst h2 l2 =>
      cases o <;> simp only [binD] at h <;> first | cases h | skip
      split at h
      · next c =>
        cases h
        refine toB op_cat ⟨_, _, _, _, rfl, rfl, f _ _ h1, f _ _ h2, by rw [l1.length, l2.length]; exact c, fun p hp => ?_⟩
        exact q _ _ _ (.one _ hp) (.lst upd_same ((l1.append l2).mono (Sub.new (f.free hp))))
      · cases h
    | _ => simp [binD] at h
  | tup h1 l1 =>
    cases hy with
    | tup h2 l2 =>
      cases o <;> simp only [binD] at h <;> first | cases h | skip
      split at h
      · next c =>
        cases h
        refine toB op_catA ⟨_, _, _, _, rfl, rfl, f.sqT h1, f.sqT h2, by rw [l1.length, l2.length]; exact c, fun e => ?_, fun _ e => ?_, fun _ _ p hp => ?_⟩
        · subst e; cases l1; exact q F H _ (.same _ _) (.tup h2 l2)
        · subst e; cases l2; rw [List.append_nil] at q; exact q F H _ (.same _ _) (.tup h1 l1)
        · exact q _ _ _ (.one _ hp) (.tup (SqT.of upd_same) ((l1.append l2).mono (Sub.new (f.free hp))))
      · cases h
    | _ => simp [binD] at h
  | _ => simp [binD] at h
end

/-! ### comparisons -/
inductive Co where
  | eq | ne | lt | le | gt | ge | inn | nin | is | isn
def Co.op : Co → CmpOp
  | .eq => .Eq | .ne => .NotEq | .lt => .Lt | .le => .LtE | .gt => .Gt | .ge => .GtE | .inn => .In | .nin => .NotIn | .is => .Is | .isn => .IsNot
/-- x == y may be asked -/
def eqOk (x y : D) : Bool := x.pure && y.pure && decide (x.dep ≤ 60)
def isNon : D → Bool
  | .non => true
  | _ => false
def keyD : D → Option Key
  | .int i => some (.inl i)
  | .str x => some (.inr x)
  | _ => none
def valD {κ : Type} [DecidableEq κ] (kvs : List (κ × D)) (k : κ) : Option D := (kvs.find? fun kv => decide (kv.1 = k)).map (·.2)
/-- x in y -/
def inD (x : D) : D → Option Bool
  | .lst ys => if x.pure && pureL ys && decide (depL ys ≤ 60) then some (ys.any fun y => y.eqv x) else none
  | .tup ys => if x.pure && pureL ys && decide (depL ys ≤ 60) then some (ys.any fun y => y.eqv x) else none
  | .str z => match x with
    | .str a => match a.cps with
      | ⟨[c]⟩ => some (decide (c ∈ z.cps.toList))
      | _ => some (!(Builtin.Str.occurrences z a 0 z.length 1).isEmpty)
    | _ => none
  | .dic kvs => (keyD x).map fun k => (valD kvs k).isSome
  | _ => none
def cmpI : Co → Int → Int → Option Bool
  | .lt, i, j => some (decide (i < j))
  | .le, i, j => some (decide (i ≤ j))
  | .gt, i, j => some (decide (j < i))
  | .ge, i, j => some (decide (j ≤ i))
  | _, _, _ => none
def cmpD (o : Co) (x y : D) : Option Bool :=
  match o with
  | .eq => if eqOk x y then some (x.eqv y) else none
  | .ne => if eqOk x y then some (!x.eqv y) else none
  | .inn => inD x y
  | .nin => (inD x y).map not
  | .is => if isNon y then some (isNon x) else none
  | .isn => if isNon y then some (!isNon x) else none
  | o => match x, y with
    | .int i, .int j => cmpI o i j
    | _, _ => none
theorem depL_mem {x : D} : ∀ {xs : List D}, x ∈ xs → x.dep ≤ depL xs
  | y :: ys, h => by
    simp only [depL]
    rcases List.mem_cons.mp h with e | e
    · subst e; omega
    · have := depL_mem e; omega
theorem VIsL.mem {h : Heap} {u : Value} : ∀ {us : List Value} {ds : List D}, VIsL h us ds → u ∈ us → ∃ d ∈ ds, VIs h u d
  | _, _, .nil, m => by cases m
  | _, _, .cons a t, m => by
    rcases List.mem_cons.mp m with e | e
    · subst e; exact ⟨_, List.mem_cons_self, a⟩
    · obtain ⟨d, m', q⟩ := VIsL.mem t e
      exact ⟨d, List.mem_cons_of_mem _ m', q⟩
/-- whether the value u is == x, read off the heap -/
noncomputable def eqTo (h : Heap) (x : D) (u : Value) : Bool := @decide (∃ d, VIs h u d ∧ d.eqv x = true) (Classical.propDecidable _)
theorem eqTo_of {h : Heap} {x d : D} {u : Value} (q : VIs h u d) : eqTo h x u = d.eqv x := by
  unfold eqTo
  cases e : d.eqv x with
  | true => exact @decide_eq_true _ (Classical.propDecidable _) ⟨d, q, e⟩
  | false =>
    refine @decide_eq_false _ (Classical.propDecidable _) fun ⟨d', q', e'⟩ => ?_
    rw [q'.uniq q, e] at e'
    cases e'
theorem any_eqTo {h : Heap} {x : D} : ∀ {us : List Value} {ds : List D}, VIsL h us ds → us.any (eqTo h x) = ds.any fun d => d.eqv x
  | _, _, .nil => rfl
  | _, _, .cons a t => by rw [List.any_cons, List.any_cons, eqTo_of a, any_eqTo t]
section
variable {X : Cx} {T : Tb} {F H : Hp} {Q : VK}
theorem Is.isNon {v : V} {d : D} (h : Is X.K T F v d) : DL.isNon d = decide (v = .non) := by
  cases h <;> first | rfl | (simp [DL.isNon])
theorem valV_of : ∀ {kvs : List (Key × V)} {ds : List (Key × D)} (k : Key), IsK X.K T F kvs ds → (valD ds k).isSome = (valV kvs k).isSome
  | _, _, _, .nil => rfl
  | _, _, k, .cons (k := k') h t => by
    unfold valD valV
    rw [List.find?_cons, List.find?_cons]
    by_cases e : k' = k
    · simp [e]
    · simp only [e, decide_false]
      exact valV_of k t
theorem seq_in {neg : Bool} {x : D} {ys : List D} {a : Addr} {u : V} {xs : List V} (hu : X.A.units + 64 < cLine) (hx : Is X.K T F u x) (p1 : x.pure = true) (p2 : pureL ys = true) (p3 : depL ys ≤ 60)
    (hl : IsL X.K T F xs ys) (hq : SqL X.K H a xs ∨ SqT X.K H a xs) (f : Sub F H) (q : Q (.bl (if neg then !(ys.any fun y => y.eqv x) else ys.any fun y => y.eqv x)) H) :
    wB X (compareOp (if neg then .NotIn else .In)) u (.ref a) H Q := by
  intro pins s σ v w I r1 r2
  cases r2
  have vx := hx.vis I f r1 p1
  have e1 : ∀ {us : List Value}, VIsL s.heap us ys → ∀ y ∈ us.toArray, SeqAt.EqAt X.A.in1 s y v (eqTo s.heap x y) := fun {us} l y hy => by
    obtain ⟨d, m, k⟩ := l.mem (by simpa using hy)
    rw [eqTo_of k]
    have hd := depL_mem m
    have hA : X.A.in1.units = X.A.units + 1 := rfl
    exact (eq_data 60 d x X.A.in1 s y v (by omega) k vx (by omega)).1
  have e2 : ∀ {us : List Value}, VIsL s.heap us ys → us.toArray.any (eqTo s.heap x) = ys.any fun y => y.eqv x := fun {us} l => by
    rw [← any_eqTo l]; simp
  rcases hq with hq | hq
  · obtain ⟨its, rv, pl, _⟩ := I.list hq
    have l := hl.vis I f rv p2
    cases neg with
    | false => exact SeqAt.in_listAt (eqTo s.heap x) pl.isList (e1 l) ⟨.bl _, H, I, rfl, by rw [e2 l]; exact q⟩
    | true => exact SeqAt.notIn_listAt (eqTo s.heap x) pl.isList (e1 l) ⟨.bl _, H, I, rfl, by rw [e2 l]; exact q⟩
  · obtain ⟨its, rv, pl, _⟩ := I.tuple hq
    have l := hl.vis I f rv p2
    cases neg with
    | false => exact SeqAt.in_tupleAt (eqTo s.heap x) pl (e1 l) ⟨.bl _, H, I, rfl, by rw [e2 l]; exact q⟩
    | true => exact SeqAt.notIn_tupleAt (eqTo s.heap x) pl (e1 l) ⟨.bl _, H, I, rfl, by rw [e2 l]; exact q⟩
end
end DL

set_option Elab.async false
set_option linter.all false
set_option autoImplicit false
set_option maxRecDepth 100000
set_option maxHeartbeats 2000000
/-! DLd: comparisons, truth, places, slices, built-in functions and methods on data. -/
namespace DL
open PySem L2

open SeqAt in
theorem ne_data {d e : D} {A : Around} {s : Shared} {u w : Value} (hn : d.dep ≤ 60) (p : VIs s.heap u d) (q : VIs s.heap w e) (hu : A.units + 64 < cLine) : RcNeAt A s u w (!d.eqv e) := by
  have hA : A.units < cLine := by omega
  have hin : A.in1.units = A.units + 1 := rfl
  have items : ∀ {us ws : List Value} {xs ys : List D}, VIsL s.heap us xs → VIsL s.heap ws ys → depL xs ≤ 60 → ∀ j (j1 : j < us.toArray.size) (j2 : j < ws.toArray.size), EqAt A.in1 s us.toArray[j] ws.toArray[j] ((xs.getD j .non).eqv (ys.getD j .non)) := fun {us ws xs ys} l k hx j j1 j2 => by
    have r1 := l.get (j := j) (by simpa using j1)
    have r2 := k.get (j := j) (by simpa using j2)
    have := (eq_data 60 _ _ A.in1 s _ _ (Nat.le_trans depL_get hx) r1 r2 (by omega)).1
    simpa using this
  cases p with
  | non =>
    cases q with
    | non => exact RcNeAt.none_none
    | bl b => exact RcNeAt.none_bool b
    | int b t => exact RcNeAt.none_int b t
    | str b t => exact RcNeAt.none_str b t
    | tup q k => exact RcNeAt.none_tuple q hA
    | lst q k => exact RcNeAt.none_list q hA
  | bl a =>
    cases q with
    | non => exact RcNeAt.bool_none a
    | bl b => exact RcNeAt.bool_bool a b
    | int b t => exact RcNeAt.bool_int a b t
    | str b t => exact RcNeAt.bool_str a b t
    | tup q k => exact RcNeAt.bool_tuple a q hA
    | lst q k => exact RcNeAt.bool_list a q hA
  | int a ta =>
    cases q with
    | non => exact RcNeAt.int_none a ta
    | bl b => exact RcNeAt.int_bool a ta b
    | int b t => exact RcNeAt.int_int a ta b t
    | str b t => exact RcNeAt.int_str a ta b t
    | tup q k => exact RcNeAt.int_tuple a ta q hA
    | lst q k => exact RcNeAt.int_list a ta q hA
  | str a ta =>
    cases q with
    | non => exact RcNeAt.str_none a ta
    | bl b => exact RcNeAt.str_bool a ta b
    | int b t => exact RcNeAt.str_int a ta b t
    | str b t => exact RcNeAt.str_str a ta b t
    | tup q k => exact RcNeAt.str_tuple a ta q hA
    | lst q k => exact RcNeAt.str_list a ta q hA
  | @tup _ us xs p l =>
    have hx : depL xs ≤ 60 := by simp only [D.dep] at hn; omega
    cases q with
    | non => exact RcNeAt.tuple_none p hA
    | bl b => exact RcNeAt.tuple_bool b p hA
    | int b t => exact RcNeAt.tuple_int b t p hA
    | str b t => exact RcNeAt.tuple_str b t p hA
    | lst q k => exact RcNeAt.tuple_list p q hA
    | @tup _ ws ys q k =>
      have z := RcNeAt.tuples p q hA (items l k hx)
      have e1 : us.toArray.size = xs.length := by simpa using l.length
      have e2 : ws.toArray.size = ys.length := by simpa using k.length
      rw [e1, e2] at z
      simp only [D.eqv, ← eqvL_all]
      exact z
  | @lst _ us xs p l =>
    have hx : depL xs ≤ 60 := by simp only [D.dep] at hn; omega
    cases q with
    | non => exact RcNeAt.list_none p hA
    | bl b => exact RcNeAt.list_bool b p hA
    | int b t => exact RcNeAt.list_int b t p hA
    | str b t => exact RcNeAt.list_str b t p hA
    | tup q k => exact RcNeAt.list_tuple p q hA
    | @lst _ ws ys q k =>
      have e1 : us.toArray.size = xs.length := by simpa using l.length
      have e2 : ws.toArray.size = ys.length := by simpa using k.length
      by_cases hs : us.toArray.size = ws.toArray.size
      · have z := RcNeAt.lists p q hs hA (items l k hx)
        have hl : xs.length = ys.length := by omega
        have w := eqvL_all xs ys
        rw [← hl, Nat.min_self] at w
        simp only [D.eqv, ← w, beq_self_eq_true, Bool.and_true]
        rw [e1] at z
        exact z
      · have hl : xs.length ≠ ys.length := by omega
        simp only [D.eqv, eqvL_len hl]
        exact RcNeAt.lists_lengths p q (by simpa using hs) hA

section
variable {X : Cx} {T : Tb} {F H : Hp} {Q : VK}
theorem inD_ok {neg : Bool} {x y : D} {b : Bool} {u v : V} (hu : X.A.units + 64 < cLine) (h : inD x y = some b) (hx : Is X.K T F u x) (hy : Is X.K T F v y) (hd : ∀ kvs, y ≠ .dic kvs) (f : Sub F H) (q : Q (.bl (if neg then !b else b)) H) :
    wB X (compareOp (if neg then .NotIn else .In)) u v H Q := by
  cases hy with
  | lst h1 l =>
    simp only [inD] at h
    split at h
    · next c =>
      simp only [Bool.and_eq_true, decide_eq_true_eq] at c
      cases h
      exact seq_in hu hx c.1.1 c.1.2 c.2 l (.inl (SqL.of (f _ _ h1))) f q
    · cases h
  | tup h1 l =>
    simp only [inD] at h
    split at h
    · next c =>
      simp only [Bool.and_eq_true, decide_eq_true_eq] at c
      cases h
      exact seq_in hu hx c.1.1 c.1.2 c.2 l (.inr (f.sqT h1)) f q
    · cases h
  | str z =>
    cases hx with
    | str a =>
      simp only [inD] at h
      split at h
      · next c e =>
        cases h
        have ea : a = ⟨#[c]⟩ := by cases a; simp_all
        subst ea
        cases neg with
        | false => exact toB op_in_sign ⟨c, z, rfl, rfl, q⟩
        | true => exact toB op_notIn_sign ⟨c, z, rfl, rfl, q⟩
      · cases h
        cases neg with
        | false => exact toB op_in_str ⟨a, z, rfl, rfl, q⟩
        | true => exact toB op_notIn_str ⟨a, z, rfl, rfl, q⟩
    | _ => simp [inD] at h
  | dic _ _ => exact absurd rfl (hd _)
  | _ => simp [inD] at h
theorem eq_ok {neg : Bool} {x y : D} {u v : V} (hu : X.A.units + 64 < cLine) (c : eqOk x y = true) (hx : Is X.K T F u x) (hy : Is X.K T F v y) (f : Sub F H) (q : Q (.bl (if neg then !x.eqv y else x.eqv y)) H) :
    wB X (compareOp (if neg then .NotEq else .Eq)) u v H Q := by
  intro pins s σ a b I r1 r2
  simp only [eqOk, Bool.and_eq_true, decide_eq_true_eq] at c
  obtain ⟨⟨c1, c2⟩, c3⟩ := c
  have v1 := hx.vis I f r1 c1
  have v2 := hy.vis I f r2 c2
  cases neg with
  | false => exact (eq_data 60 x y X.A s a b c3 v1 v2 (by omega)).2 X.prog X.w X.xe _ ⟨.bl _, H, I, rfl, q⟩
  | true => exact ne_data c3 v1 v2 hu X.prog X.w X.xe _ ⟨.bl _, H, I, rfl, q⟩
theorem cmpI_ok {o : Co} {i j : Int} {b : Bool} (h : cmpI o i j = some b) (q : Q (.bl b) H) : wB X (compareOp o.op) (.int i) (.int j) H Q := by
  cases o <;> simp only [cmpI] at h <;> first | cases h | skip
  · exact toB op_lt ⟨i, j, rfl, rfl, q⟩
  · exact toB op_le ⟨i, j, rfl, rfl, q⟩
  · exact toB op_gt ⟨i, j, rfl, rfl, q⟩
  · exact toB op_ge ⟨i, j, rfl, rfl, q⟩
/-- in of a dict is asked of its own node -/
def noDic : Co → D → Bool
  | .inn, .dic _ => false
  | .nin, .dic _ => false
  | _, _ => true
theorem cmpD_ok {o : Co} {x y : D} {b : Bool} {u v : V} (hu : X.A.units + 64 < cLine) (h : cmpD o x y = some b) (nd : noDic o y = true) (hx : Is X.K T F u x) (hy : Is X.K T F v y) (f : Sub F H) (q : Q (.bl b) H) :
    wB X (compareOp o.op) u v H Q := by
  cases o with
  | eq =>
    simp only [cmpD] at h
    split at h
    · next c => cases h; exact eq_ok (neg := false) hu c hx hy f q
    · cases h
  | ne =>
    simp only [cmpD] at h
    split at h
    · next c => cases h; exact eq_ok (neg := true) hu c hx hy f q
    · cases h
  | inn =>
    simp only [cmpD] at h
    exact inD_ok (neg := false) hu h hx hy (fun kvs e => by rw [e] at nd; cases nd) f q
  | nin =>
    simp only [cmpD] at h
    cases e : inD x y with
    | none => rw [e] at h; cases h
    | some c =>
      rw [e] at h
      cases h
      exact inD_ok (neg := true) hu e hx hy (fun kvs e => by rw [e] at nd; cases nd) f q
  | is =>
    simp only [cmpD] at h
    split at h
    · next c =>
      cases h
      have e := hy.isNon
      rw [c] at e
      have e2 : v = .non := of_decide_eq_true e.symm
      rw [hx.isNon] at q
      exact toB op_isN ⟨e2, q⟩
    · cases h
  | isn =>
    simp only [cmpD] at h
    split at h
    · next c =>
      cases h
      have e := hy.isNon
      rw [c] at e
      have e2 : v = .non := of_decide_eq_true e.symm
      rw [hx.isNon] at q
      exact toB op_notN ⟨e2, q⟩
    · cases h
  | lt =>
    cases hx <;> cases hy <;> simp only [cmpD] at h <;> first | exact cmpI_ok h q | cases h
  | le =>
    cases hx <;> cases hy <;> simp only [cmpD] at h <;> first | exact cmpI_ok h q | cases h
  | gt =>
    cases hx <;> cases hy <;> simp only [cmpD] at h <;> first | exact cmpI_ok h q | cases h
  | ge =>
    cases hx <;> cases hy <;> simp only [cmpD] at h <;> first | exact cmpI_ok h q | cases h

/-! ### truth -/
def truD : D → Option Bool
  | .non => some false
  | .bl b => some b
  | .int i => some (i != 0)
  | .str x => if x.length ≤ sizeLine then some ((x.length : Int) != 0) else none
  | .lst xs => some (!xs.isEmpty)
  | .tup xs => some (!xs.isEmpty)
  | _ => none
theorem truD_ok {x : D} {b : Bool} {u : V} (h : truD x = some b) (hx : Is X.K T F u x) (f : Sub F H) : TruV X.K u H b := by
  cases hx with
  | non => cases h; rfl
  | bl c => cases h; rfl
  | int i => cases h; rfl
  | str x =>
    simp only [truD] at h
    split at h
    · next c => cases h; exact ⟨c, rfl⟩
    · cases h
  | lst h1 l =>
    cases h
    refine .inl ⟨_, SqL.of (f _ _ h1), ?_⟩
    cases l <;> rfl
  | tup h1 l =>
    cases h
    refine .inr (.inl ⟨_, f.sqT h1, ?_⟩)
    cases l <;> rfl
  | _ => cases h

/-! ### places and slices -/
def idxD : D → D → Option D
  | .lst xs, .int i => atI xs i
  | .tup xs, .int i => atI xs i
  | .scr ns, .int i => (atI ns i).map .int
  | .str z, .int i => if z.length ≤ sizeLine then (atI z.cps.toList i).map fun c => .str ⟨#[c]⟩ else none
  | _, _ => none
theorem IsL.atI {vs : List V} {ds : List D} {i : Int} {d : D} (l : IsL X.K T F vs ds) (h : L2.atI ds i = some d) : ∃ v, L2.atI vs i = some v ∧ Is X.K T F v d := by
  unfold L2.atI at h ⊢
  rw [l.length]
  cases e : ixN ds.length i with
  | none => rw [e] at h; cases h
  | some j =>
    rw [e] at h
    obtain ⟨v, h1, h2⟩ := l.get (i := j) h
    exact ⟨v, h1, h2⟩
theorem idxD_ok {x y d : D} {u v : V} (h : idxD x y = some d) (hx : Is X.K T F u x) (hy : Is X.K T F v y) (f : Sub F H) (q : ∀ w, Is X.K T F w d → Q w H) : rIx X.K u v H Q := by
  cases hx with
  | lst h1 l =>
    cases hy with
    | int i =>
      obtain ⟨w, e, k⟩ := l.atI h
      exact .inl ⟨_, _, i, w, rfl, rfl, SqL.of (f _ _ h1), e, q w k⟩
    | _ => cases h
  | tup h1 l =>
    cases hy with
    | int i =>
      obtain ⟨w, e, k⟩ := l.atI h
      exact .inr (.inl ⟨_, _, i, w, rfl, rfl, f.sqT h1, e, q w k⟩)
    | _ => cases h
  | @scr a ns h1 =>
    cases hy with
    | int i =>
      simp only [idxD] at h
      cases e : L2.atI ns i with
      | none => rw [e] at h; cases h
      | some n =>
        rw [e] at h
        cases h
        refine .inl ⟨_, _, i, .int n, rfl, rfl, f.sqL h1, ?_, q _ (.int n)⟩
        unfold L2.atI at e ⊢
        rw [List.length_map]
        cases e2 : ixN ns.length i with
        | none => rw [e2] at e; cases e
        | some j =>
          rw [e2] at e
          show (ns.map V.int)[j]? = _
          rw [List.getElem?_map]
          rw [show ns[j]? = some n from e]
          rfl
    | _ => cases h
  | str z =>
    cases hy with
    | int i =>
      simp only [idxD] at h
      split at h
      · next c =>
        cases e : L2.atI z.cps.toList i with
        | none => rw [e] at h; cases h
        | some n =>
          rw [e] at h
          cases h
          exact .inr (.inr ⟨z, i, n, rfl, rfl, c, e, q _ (.str _)⟩)
      · cases h
    | _ => cases h
  | _ => cases hy <;> cases h
/-- xs[lo:hi] -/
def cut {α : Type} (xs : List α) (lo hi : Option Int) : List α := (xs.drop (HT.sIx xs.length 0 lo)).take (HT.sIx xs.length xs.length hi - HT.sIx xs.length 0 lo)
def slcD : D → Option Int → Option Int → Option D
  | .lst xs, lo, hi => some (.lst (cut xs lo hi))
  | .tup xs, lo, hi => some (.tup (cut xs lo hi))
  | .scr ns, lo, hi => some (.lst ((cut ns lo hi).map .int))
  | .str z, lo, hi => if z.length ≤ sizeLine then some (.str (cutS z lo hi)) else none
  | _, _, _ => none
theorem IsL.cut {vs : List V} {ds : List D} (lo hi : Option Int) (l : IsL X.K T F vs ds) : IsL X.K T F (cutV vs lo hi) (cut ds lo hi) := by
  unfold DL.cut cutV
  rw [l.length]
  exact (l.drop _).take _
theorem cut_map {α β : Type} (f : α → β) (xs : List α) (lo hi : Option Int) : cut (xs.map f) lo hi = (cut xs lo hi).map f := by
  unfold cut
  rw [List.length_map, List.map_take, List.map_drop]
theorem cutV_eq (xs : List V) (lo hi : Option Int) : cutV xs lo hi = cut xs lo hi := rfl
def rSl (K : PySem.W.Frag) : V → Option Int → Option Int → Hp → VK → Prop := fun x lo hi H Q => rSlL K x lo hi H Q ∨ rSlA K x lo hi H Q ∨ rSlS x lo hi H Q
theorem sl_any : L2.SlR X (rSl X.K) := sl_list.or (sl_tupA.or sl_str)
theorem cut_all {α : Type} {xs : List α} {lo hi : Option Int} (h : HT.sIx xs.length 0 lo = 0 ∧ HT.sIx xs.length xs.length hi = xs.length) : cut xs lo hi = xs := by
  unfold cut
  rw [h.1, h.2]
  simp
theorem slcD_ok {x d : D} {lo hi : Option Int} {u : V} (h : slcD x lo hi = some d) (hx : Is X.K T F u x) (f : Sub F H) (q : ∀ F' H' w, Alc F H F' H' → Is X.K T F' w d → Q w H') : rSl X.K u lo hi H Q := by
  cases hx with
  | lst h1 l =>
    cases h
    exact .inl ⟨_, _, rfl, SqL.of (f _ _ h1), fun p hp => q _ _ _ (.one _ hp) (.lst upd_same ((l.cut lo hi).mono (Sub.new (f.free hp))))⟩
  | tup h1 l =>
    cases h
    refine .inr (.inl ⟨_, _, rfl, f.sqT h1, fun c => ?_, fun _ p hp => q _ _ _ (.one _ hp) (.tup (SqT.of upd_same) ((l.cut lo hi).mono (Sub.new (f.free hp))))⟩)
    rw [l.length] at c
    rw [cut_all c] at q
    exact q F H _ (.same _ _) (.tup h1 l)
  | @scr a ns h1 =>
    cases h
    refine .inl ⟨_, _, rfl, f.sqL h1, fun p hp => q _ _ _ (.one _ hp) (.lst upd_same ?_)⟩
    rw [cutV_eq, cut_map]
    exact isL_ints _
  | str z =>
    simp only [slcD] at h
    split at h
    · next c => cases h; exact .inr (.inr ⟨z, rfl, c, q F H _ (.same _ _) (.str _)⟩)
    · cases h
  | _ => cases h
end
end DL

set_option Elab.async false
set_option linter.all false
set_option autoImplicit false
set_option maxRecDepth 100000
set_option maxHeartbeats 2000000
/-! DLe: built-in functions and methods of texts on data; isinstance. -/
namespace DL
open PySem L2

/-- as a list of ints, of truths, of texts -/
def intsD : List D → Option (List Int)
  | [] => some []
  | .int i :: r => (intsD r).map (i :: ·)
  | _ => none
def boolsD : List D → Option (List Bool)
  | [] => some []
  | .bl i :: r => (boolsD r).map (i :: ·)
  | _ => none
def strsD : List D → Option (List Str)
  | [] => some []
  | .str i :: r => (strsD r).map (i :: ·)
  | _ => none
theorem intsD_map : ∀ ns : List Int, intsD (ns.map D.int) = some ns
  | [] => rfl
  | n :: ns => by simp [intsD, intsD_map ns]
theorem boolsD_map : ∀ ns : List Bool, boolsD (ns.map D.bl) = some ns
  | [] => rfl
  | n :: ns => by simp [boolsD, boolsD_map ns]
theorem strsD_map : ∀ ns : List Str, strsD (ns.map D.str) = some ns
  | [] => rfl
  | n :: ns => by simp [strsD, strsD_map ns]
theorem of_intsD : ∀ {ds : List D} {ns : List Int}, intsD ds = some ns → ds = ns.map D.int
  | [], _, h => by cases h; rfl
  | d :: ds, ns, h => by
    cases d <;> first | (simp [intsD] at h; done) | skip
    simp only [intsD] at h
    cases e : intsD ds with
    | none => rw [e] at h; cases h
    | some ms => rw [e] at h; cases h; rw [of_intsD e]; rfl
theorem of_boolsD : ∀ {ds : List D} {ns : List Bool}, boolsD ds = some ns → ds = ns.map D.bl
  | [], _, h => by cases h; rfl
  | d :: ds, ns, h => by
    cases d <;> first | (simp [boolsD] at h; done) | skip
    simp only [boolsD] at h
    cases e : boolsD ds with
    | none => rw [e] at h; cases h
    | some ms => rw [e] at h; cases h; rw [of_boolsD e]; rfl
theorem of_strsD : ∀ {ds : List D} {ns : List Str}, strsD ds = some ns → ds = ns.map D.str
  | [], _, h => by cases h; rfl
  | d :: ds, ns, h => by
    cases d <;> first | (simp [strsD] at h; done) | skip
    simp only [strsD] at h
    cases e : strsD ds with
    | none => rw [e] at h; cases h
    | some ms => rw [e] at h; cases h; rw [of_strsD e]; rfl

inductive Bf where
  | len | abs | int | str | min | max | lst | tup | sum | any | all
  deriving DecidableEq
def Bf.name : Bf → Str
  | .len => "len" | .abs => "abs" | .int => "int" | .str => "str" | .min => "min" | .max => "max" | .lst => "list" | .tup => "tuple" | .sum => "sum" | .any => "any" | .all => "all"
def Bf.val : Bf → Value
  | .len => .builtin "len" | .abs => .builtin "abs" | .int => .type "int" | .str => .type "str" | .min => .builtin "min" | .max => .builtin "max" | .lst => .type "list" | .tup => .type "tuple" | .sum => .builtin "sum" | .any => .builtin "any" | .all => .builtin "all"
theorem Bf.boot (b : Bf) : bootBuiltins b.name = some b.val := by cases b <;> decide +kernel
theorem Bf.own (b : Bf) : b.name ≠ "__name__" := by cases b <;> decide +kernel
theorem Bf.dbg (b : Bf) : (b.name == ("__debug__" : Str)) = false := by cases b <;> decide +kernel
def bifD : Bf → List D → Option D
  | .len, [.lst xs] => some (.int xs.length)
  | .len, [.tup xs] => some (.int xs.length)
  | .len, [.scr xs] => some (.int xs.length)
  | .len, [.str x] => if x.length ≤ sizeLine then some (.int x.length) else none
  | .abs, [.int i] => some (.int (if i < 0 then -i else i))
  | .int, [.int i] => some (.int i)
  | .int, [.bl b] => some (.int (if b then 1 else 0))
  | .str, [.int i] => if i.natAbs.log2 < 1920 then some (.str (Str.ofString (toString i))) else none
  | .min, [.int i, .int j] => some (.int (if j < i then j else i))
  | .max, [.int i, .int j] => some (.int (if j > i then j else i))
  | .lst, [.lst xs] => some (.lst xs)
  | .lst, [.tup xs] => some (.lst xs)
  | .lst, [.scr ns] => some (.lst (ns.map .int))
  | .tup, [.lst xs] => some (.tup xs)
  | .tup, [.tup xs] => some (.tup xs)
  | .sum, [.lst xs] => (intsD xs).map fun ns => .int ns.sum
  | .any, [.lst xs] => (boolsD xs).map fun ns => .bl (ns.any id)
  | .all, [.lst xs] => (boolsD xs).map fun ns => .bl (ns.all id)
  | _, _ => none
section
variable {X : Cx} {T : Tb} {F H : Hp} {Q : VK}
theorem is1 {vs : List V} {d : D} (l : IsL X.K T F vs [d]) : ∃ v, vs = [v] ∧ Is X.K T F v d := by
  cases l with
  | cons h t => cases t; exact ⟨_, rfl, h⟩
theorem is2 {vs : List V} {d e : D} (l : IsL X.K T F vs [d, e]) : ∃ v w, vs = [v, w] ∧ Is X.K T F v d ∧ Is X.K T F w e := by
  cases l with
  | cons h t =>
    obtain ⟨w, rfl, k⟩ := is1 t
    exact ⟨_, w, rfl, h, k⟩
theorem bifD_ok {b : Bf} {ds : List D} {d : D} {vs : List V} (hc : X.calm = true) (h : bifD b ds = some d) (l : IsL X.K T F vs ds) (f : Sub F H) (q : ∀ F' H' w, Alc F H F' H' → Is X.K T F' w d → Q w H') : wC X b.val vs H Q := by
  unfold bifD at h
  split at h
  · cases h
    obtain ⟨v, rfl, k⟩ := is1 l
    cases k with
    | lst h1 l1 => exact toC call_len_seq ⟨_, _, rfl, .inl (SqL.of (f _ _ h1)), by rw [l1.length]; exact q F H _ (.same _ _) (.int _)⟩
  · cases h
    obtain ⟨v, rfl, k⟩ := is1 l
    cases k with
    | tup h1 l1 => exact toC call_len_seq ⟨_, _, rfl, .inr (f.sqT h1), by rw [l1.length]; exact q F H _ (.same _ _) (.int _)⟩
  · cases h
    obtain ⟨v, rfl, k⟩ := is1 l
    cases k with
    | scr h1 => exact toC call_len_seq ⟨_, _, rfl, .inl (f.sqL h1), by rw [List.length_map]; exact q F H _ (.same _ _) (.int _)⟩
  · split at h
    · next c =>
      cases h
      obtain ⟨v, rfl, k⟩ := is1 l
      cases k with
      | str x => exact toC call_len_str ⟨_, rfl, c, q F H _ (.same _ _) (.int _)⟩
    · cases h
  · cases h
    obtain ⟨v, rfl, k⟩ := is1 l
    cases k with
    | int i => exact toC call_abs ⟨_, rfl, q F H _ (.same _ _) (.int _)⟩
  · cases h
    obtain ⟨v, rfl, k⟩ := is1 l
    cases k with
    | int i => exact toC call_int1 (.inl ⟨_, rfl, q F H _ (.same _ _) (.int _)⟩)
  · cases h
    obtain ⟨v, rfl, k⟩ := is1 l
    cases k with
    | bl i => exact toC call_int1 (.inr ⟨_, rfl, q F H _ (.same _ _) (.int _)⟩)
  · split at h
    · next c =>
      cases h
      obtain ⟨v, rfl, k⟩ := is1 l
      cases k with
      | int x => exact toC call_str_int ⟨_, rfl, c, q F H _ (.same _ _) (.str _)⟩
    · cases h
  · cases h
    obtain ⟨v, w, rfl, k1, k2⟩ := is2 l
    cases k1 with
    | int i => cases k2 with
      | int j => exact toC (call_min2 hc) ⟨_, _, rfl, q F H _ (.same _ _) (.int _)⟩
  · cases h
    obtain ⟨v, w, rfl, k1, k2⟩ := is2 l
    cases k1 with
    | int i => cases k2 with
      | int j => exact toC (call_max2 hc) ⟨_, _, rfl, q F H _ (.same _ _) (.int _)⟩
  · cases h
    obtain ⟨v, rfl, k⟩ := is1 l
    cases k with
    | lst h1 l1 => exact toC call_list_of ⟨_, _, rfl, .inl (SqL.of (f _ _ h1)), fun p hp => q _ _ _ (.one _ hp) (.lst upd_same (l1.mono (Sub.new (f.free hp))))⟩
  · cases h
    obtain ⟨v, rfl, k⟩ := is1 l
    cases k with
    | tup h1 l1 => exact toC call_list_of ⟨_, _, rfl, .inr (f.sqT h1), fun p hp => q _ _ _ (.one _ hp) (.lst upd_same (l1.mono (Sub.new (f.free hp))))⟩
  · cases h
    obtain ⟨v, rfl, k⟩ := is1 l
    cases k with
    | scr h1 => exact toC call_list_of ⟨_, _, rfl, .inl (f.sqL h1), fun p hp => q _ _ _ (.one _ hp) (.lst upd_same (isL_ints _))⟩
  · cases h
    obtain ⟨v, rfl, k⟩ := is1 l
    cases k with
    | lst h1 l1 => exact toC call_tuple_of ⟨_, _, rfl, .inl ⟨SqL.of (f _ _ h1), fun p hp => q _ _ _ (.one _ hp) (.tup (SqT.of upd_same) (l1.mono (Sub.new (f.free hp))))⟩⟩
  · cases h
    obtain ⟨v, rfl, k⟩ := is1 l
    cases k with
    | tup h1 l1 => exact toC call_tuple_of ⟨_, _, rfl, .inr ⟨f.sqT h1, q F H _ (.same _ _) (.tup h1 l1)⟩⟩
  · next xs =>
    cases e : intsD xs with
    | none => rw [e] at h; cases h
    | some ns =>
      rw [e] at h
      cases h
      obtain ⟨v, rfl, k⟩ := is1 l
      cases k with
      | lst h1 l1 =>
        rw [of_intsD e] at l1
        rw [l1.ints] at h1
        exact toC (cr_sum hc) ⟨_, ns, rfl, SqL.of (f _ _ h1), q F H _ (.same _ _) (.int _)⟩
  · next xs =>
    cases e : boolsD xs with
    | none => rw [e] at h; cases h
    | some ns =>
      rw [e] at h
      cases h
      obtain ⟨v, rfl, k⟩ := is1 l
      cases k with
      | lst h1 l1 =>
        rw [of_boolsD e] at l1
        rw [l1.bools] at h1
        exact toC (cr_any hc) ⟨_, ns, rfl, SqL.of (f _ _ h1), q F H _ (.same _ _) (.bl _)⟩
  · next xs =>
    cases e : boolsD xs with
    | none => rw [e] at h; cases h
    | some ns =>
      rw [e] at h
      cases h
      obtain ⟨v, rfl, k⟩ := is1 l
      cases k with
      | lst h1 l1 =>
        rw [of_boolsD e] at l1
        rw [l1.bools] at h1
        exact toC (cr_all hc) ⟨_, ns, rfl, SqL.of (f _ _ h1), q F H _ (.same _ _) (.bl _)⟩
  · cases h
end

/-! ### methods of texts with one argument -/
inductive Me where
  | split | join
  deriving DecidableEq
def Me.name : Me → Str
  | .split => "split" | .join => "join"
def Me.id : Me → String
  | .split => "str.split" | .join => "str.join"
theorem Me.slot (m : Me) : PySem.Slot "str" m.name m.id := by
  cases m
  · exact F.slot_str_split
  · exact F.slot_str_join
theorem Me.ty (m : Me) : typeOf (.builtin m.id) = pure (.type "method_descriptor") := by
  cases m
  · exact F.type_str_split
  · exact F.type_str_join
def metD : Me → Str → D → Option D
  | .split, a, .str b => if (b.length == 0) = false ∧ a.length + 2 ≤ sizeLine then some (.lst ((Txt.split a b).map .str)) else none
  | .join, a, .lst ds => (strsD ds).bind fun ys => if (ys.map (·.length)).sum + ys.length * a.length ≤ 16777216 then some (.str (Txt.join a ys)) else none
  | _, _, _ => none
section
variable {X : Cx} {T : Tb} {F H : Hp} {Q : VK}
theorem metD_ok {m : Me} {a : Str} {x d : D} {v : V} (h : metD m a x = some d) (k : Is X.K T F v x) (f : Sub F H) (q : ∀ F' H' w, Alc F H F' H' → Is X.K T F' w d → Q w H') : wM X m.id (.str a) [v] H Q := by
  unfold metD at h
  split at h
  · split at h
    · next c =>
      cases h
      cases k with
      | str _ => exact toM mt_split ⟨a, _, rfl, rfl, c.1, c.2, fun p hp => q _ _ _ (.one _ hp) (.lst upd_same (isL_strs _))⟩
    · cases h
  · next ds =>
    cases e : strsD ds with
    | none => rw [e] at h; cases h
    | some ys =>
      rw [e] at h
      simp only [Option.bind_some] at h
      split at h
      · next c =>
        cases h
        cases k with
        | lst h1 l1 =>
          rw [of_strsD e] at l1
          rw [l1.strs] at h1
          exact toM mt_join ⟨a, _, ys, rfl, rfl, .inl (SqL.of (f _ _ h1)), c, q F H _ (.same _ _) (.str _)⟩
      · cases h
  · cases h
end

/-! ### isinstance -/
inductive Ty where
  | tup | lst | dic | bl | int | str
  deriving DecidableEq
def Ty.name : Ty → String
  | .tup => "tuple" | .lst => "list" | .dic => "dict" | .bl => "bool" | .int => "int" | .str => "str"
def Ty.key : Ty → Str
  | .tup => "tuple" | .lst => "list" | .dic => "dict" | .bl => "bool" | .int => "int" | .str => "str"
theorem Ty.boot (b : Ty) : bootBuiltins b.key = some (.type b.name) := by cases b <;> decide +kernel
theorem Ty.own (b : Ty) : b.key ≠ "__name__" := by cases b <;> decide +kernel
theorem Ty.dbg (b : Ty) : (b.key == ("__debug__" : Str)) = false := by cases b <;> decide +kernel
/-- isinstance(d, one of these) -/
def isiD : D → List Ty → Option Bool
  | .non, _ => some false
  | .bl _, ts => some (ts.any fun t => t = .bl ∨ t = .int)
  | .int _, ts => some (ts.any fun t => t = .int)
  | .str _, ts => some (ts.any fun t => t = .str)
  | .tup _, ts => some (ts.any fun t => t = .tup)
  | .lst _, ts => some (ts.any fun t => t = .lst)
  | .dic _, ts => some (ts.any fun t => t = .dic)
  | _, _ => none
def tyD : D → Option String
  | .non => some "NoneType" | .bl _ => some "bool" | .int _ => some "int" | .str _ => some "str" | .tup _ => some "tuple" | .lst _ => some "list" | .dic _ => some "dict"
  | _ => none
theorem kit_all (a : String) (h : a ∈ ["NoneType", "bool", "int", "str", "tuple", "list", "dict"]) (t : Ty) : kitB a t.name = some (decide (a = t.name) || decide (a = "bool" ∧ t = .int)) := by
  simp only [List.mem_cons, List.not_mem_nil, or_false] at h
  rcases h with rfl | rfl | rfl | rfl | rfl | rfl | rfl <;> cases t <;> decide +kernel
section
variable {X : Cx} {T : Tb} {F H : Hp} {Q : VK}
theorem tyX_of {d : D} {a : String} {v : V} (h : tyD d = some a) (k : Is X.K T F v d) (f : Sub F H) : TyX X.K H v (.type a) := by
  cases k with
  | non => cases h; exact .base .non
  | bl b => cases h; exact .base (.bl b)
  | int b => cases h; exact .base (.int b)
  | str b => cases h; exact .base (.str b)
  | tup h1 l =>
    cases h
    rcases f.sqT h1 with (z | ⟨o, z⟩) | ⟨o, its, n, z, c, _⟩
    · exact .base (.tup z)
    · exact .fTuple z
    · exact .kTuple z c
  | lst h1 l => cases h; exact .base (.lst (f _ _ h1))
  | dic h1 l => cases h; exact .base (.dK (f _ _ h1))
  | _ => cases h
theorem kitAny_of {K : PySem.W.Frag} {a : String} (h : a ∈ ["NoneType", "bool", "int", "str", "tuple", "list", "dict"]) : ∀ ts : List Ty, PySem.W.kitAny K (.type a) (ts.map fun t => .type t.name) = some (ts.any fun t => decide (a = t.name) || decide (a = "bool" ∧ t = .int))
  | [] => rfl
  | t :: ts => by
    refine kitAny_cons (kit_ty (kit_all a h t)) (fun e => ?_) fun e => ?_
    · rw [List.any_cons, e, Bool.false_or]
      exact kitAny_of h ts
    · rw [List.any_cons, e, Bool.true_or]
theorem isiD_any {d : D} {ts : List Ty} {b : Bool} (h : isiD d ts = some b) : ∃ a, tyD d = some a ∧ a ∈ ["NoneType", "bool", "int", "str", "tuple", "list", "dict"] ∧ b = ts.any fun t => decide (a = t.name) || decide (a = "bool" ∧ t = .int) := by
  have go : ∀ (p q : Ty → Bool), (∀ t, p t = q t) → ts.any p = ts.any q := fun p q e => by rw [funext e]
  cases d <;> simp only [isiD] at h <;> first | cases h | skip
  · refine ⟨_, rfl, by simp, ?_⟩
    have : ts.any (fun t => decide ("NoneType" = t.name) || decide ("NoneType" = "bool" ∧ t = .int)) = ts.any fun _ => false := go _ _ fun t => by cases t <;> decide +kernel
    rw [this]
    induction ts with
    | nil => rfl
    | cons _ _ ih => simp
  · exact ⟨_, rfl, by simp, go _ _ fun t => by cases t <;> decide +kernel⟩
  · exact ⟨_, rfl, by simp, go _ _ fun t => by cases t <;> decide +kernel⟩
  · exact ⟨_, rfl, by simp, go _ _ fun t => by cases t <;> decide +kernel⟩
  · exact ⟨_, rfl, by simp, go _ _ fun t => by cases t <;> decide +kernel⟩
  · exact ⟨_, rfl, by simp, go _ _ fun t => by cases t <;> decide +kernel⟩
  · exact ⟨_, rfl, by simp, go _ _ fun t => by cases t <;> decide +kernel⟩
theorem clsV_all (ts : List Ty) : Paired ClsV (ts.map fun t => V.ty t.name) (ts.map fun t => Value.type t.name) := by
  induction ts with
  | nil => exact .nil
  | cons t ts ih => exact .cons (.ty _) ih
/-- against a tuple of types that was just made -/
theorem isiT_ok {d : D} {ts : List Ty} {b : Bool} {v : V} {tp : Addr} (h : isiD d ts = some b) (k : Is X.K T F v d) (f : Sub F H) (ht : H tp = some (.tup (ts.map fun t => V.ty t.name))) (q : Q (.bl b) H) : wC X (.builtin "isinstance") [v, .ref tp] H Q := by
  obtain ⟨a, h1, h2, rfl⟩ := isiD_any h
  exact toC call_isiT ⟨v, tp, _, _, _, _, rfl, ht, clsV_all ts, tyX_of h1 k f, kitAny_of h2 ts, q⟩
/-- against one type -/
theorem isi1_ok {d : D} {t : Ty} {b : Bool} {v : V} (h : isiD d [t] = some b) (k : Is X.K T F v d) (f : Sub F H) (q : Q (.bl b) H) : wC X (.builtin "isinstance") [v, .ty t.name] H Q := by
  obtain ⟨a, h1, h2, rfl⟩ := isiD_any h
  refine toC call_isi ⟨v, _, _, _, _, rfl, .ty _, tyX_of h1 k f, kit_ty (kit_all a h2 t), ?_⟩
  simpa using q
end
end DL

set_option Elab.async false
set_option linter.all false
set_option autoImplicit false
set_option maxRecDepth 100000
set_option maxHeartbeats 4000000
/-! DLea: data in order, as plain functions. -/
namespace DL
open PySem PySem.Spec PyProof.Rows L2

/-! ### data in order -/
mutual
def D.py : D → PyData
  | .non => .none
  | .bl b => .bool b
  | .int i => .int i
  | .str x => .str x
  | .tup xs => .tuple (pyL xs)
  | .lst xs => .list (pyL xs)
  | _ => .none
def pyL : List D → List PyData
  | [] => []
  | x :: xs => x.py :: pyL xs
end
/-- in Python's order by what k tells -/
def sortP {α : Type} (k : α → PyData) (xs : List α) : List α := xs.mergeSort (PySem.W.dataLe false k)
def tupOne : PyData → Bool
  | .tuple (_ :: _) => true
  | _ => false
def noTup : PyData → Bool
  | .tuple _ => false
  | .none => false
  | _ => true
def srtOkP (ps : List PyData) : Bool := ps.all (fun p => ps.all fun q => PySem.W.alike p q) && (ps.all tupOne || ps.all noTup) && ps.all (fun p => decide (p.depth ≤ 40))
def uniq : List Str → List Str
  | [] => []
  | x :: xs => if x ∈ xs then uniq xs else x :: uniq xs
/-- the texts of xs, each once, in order -/
def setS (xs : List Str) : List Str := sortP PyData.str (uniq xs)
inductive Sk where
  /-- sorted(xs) | sorted(set(xs)) -/
  | plain | set
  deriving DecidableEq
def srtD : Sk → D → Option D
  | .plain, .lst ds => if pureL ds && srtOkP (ds.map D.py) then some (.lst (sortP D.py ds)) else none
  | .set, .lst ds => (strsD ds).bind fun xs => if xs.length + 1 < 4096 then some (.lst ((setS xs).map .str)) else none
  | .set, .tup ds => (strsD ds).bind fun xs => if xs.length + 1 < 4096 then some (.lst ((setS xs).map .str)) else none
  | _, _ => none
def keyOf (f : D → Option D) (d : D) : D := (f d).getD .non
/-- sorted(xs, key=f) -/
def keyF (f : D → Option D) (ds : List D) : Option D :=
  if (ds.all fun d => (f d).isSome) && pureL (ds.map (keyOf f)) && srtOkP ((ds.map (keyOf f)).map D.py) then some (.lst (sortP (fun d => (keyOf f d).py) ds)) else none
end DL

set_option Elab.async false
set_option linter.all false
set_option autoImplicit false
set_option maxRecDepth 100000
set_option maxHeartbeats 2000000
/-! DLf: a small language of terms, and what they do over data. -/
namespace DL
open PySem L2

/-! ### terms -/
mutual
inductive E where
  | var (i : Nat) | cst (d : D) | glb (k : Nat) | fnv (k : Nat)
  | bin (o : Bo) (a b : E) | cmp (o : Co) (a b : E) | bop (and : Bool) (es : Es) | nt (a : E) | ife (c : Te) (a b : E)
  | tup (es : Es) | lst (es : Es) | idx (a b : E) | slc (a : E) (lo hi : Po)
  | call (k : Nat) (as : As) | bif (b : Bf) (es : Es) | met (m : Me) (a b : E) | isi (a : E) (ts : List Ty)
  | lc (j : Nat) (it : It') (c : Te) (e : E)
  /-- with the own things of these slots lent as data -/
  | brw (is : List Nat) (e : E)
  /-- x[e], x[lo:hi], list(x), x.pop(e) of the own list of slot i; x itself, settled -/
  | oix (i : Nat) (e : E) | oslc (i : Nat) (lo hi : Po) | ocp (i : Nat) | pop (i : Nat) (e : E) | frz (i : Nat)
  | srt (s : Sk) (a : E)
  /-- sorted(a, key=def k), sorted(a, key=lambda x: b) -/
  | srk (k : Nat) (a : E) | srl (b a : E)
  | nev
inductive Es where
  | nil | cons (e : E) (r : Es)
inductive As where
  | nil | val (e : E) (r : As) | ref (i : Nat) (r : As)
inductive Po where
  | no | at (e : E)
inductive Te where
  | is (e : E) | tru (e : E) | cmp (o : Co) (a b : E) | nt (t : Te) | bop (and : Bool) (ts : Ts) | brw (is : List Nat) (t : Te)
inductive Ts where
  | one (t : Te) | cons (t : Te) (r : Ts)
/-- what is walked -/
inductive It' where
  | dat (e : E) | rng1 (a : E) | rng2 (a b : E) | rng3 (a b c : E) | enu (e : E) | own (i : Nat)
end
mutual
inductive S where
  | asg (i : Nat) (e : E) | asgO (i : Nat) (e : E) | asgC (i : Nat) (k : Nat) (as : As) | asgT (js : List Nat) (e : E) | aug (i : Nat) (o : Bo) (e : E)
  | setI (i : Nat) (k v : E) | app (i : Nat) (e : E) | ins (i : Nat) (k e : E) | drp (e : E)
  | ret (e : E) | retN | retO (i : Nat) | retF (e : E)
  | ifs (t : Te) (a b : Ss) | fors (j : Nat) (it : It') (b : Ss) | fort (js : List Nat) (it : It') (b : Ss) | whl (t : Te) (b : Ss)
  | brk | cnt | pas | nev
inductive Ss where
  | nil | cons (s : S) (r : Ss)
end

/-! ### what they do -/
structure Xc where
  c : Nat
  fs : List (Str × D)
inductive Res (α : Type) where
  | ok (a : α) (g : Fm) | exc (x : Xc) (g : Fm) | stuck
def Res.bind {α β : Type} : Res α → (α → Fm → Res β) → Res β
  | .ok a g, k => k a g
  | .exc x g, _ => .exc x g
  | .stuck, _ => .stuck
def opt {α : Type} (g : Fm) : Option α → Res α
  | some a => .ok a g
  | none => .stuck
inductive RV where
  | dat (d : D) | own (o : O)
inductive CRes where
  | ok (v : RV) (ss : List Slot) | exc (x : Xc) (ss : List Slot) | stuck
inductive Ar where
  | d (x : D) | r (i : Nat)
def getD (g : Fm) (i : Nat) : Option D := match g[i]? with
  | some (.dat d) => some d
  | _ => none
def getO (g : Fm) (i : Nat) : Option O := match g[i]? with
  | some (.own o) => some o
  | _ => none
def getL (g : Fm) (i : Nat) : Option (List D) := match g[i]? with
  | some (.own (.lst xs)) => some xs
  | _ => none
/-- the slot is an own list: it is loaded ahead of what stands within the brackets -/
def withL {α : Type} (g : Fm) (i : Nat) (r : Res α) : Res α := match getL g i with
  | some _ => r
  | none => .stuck
def slotsOf (g : Fm) : List Ar → Option (List Slot)
  | [] => some []
  | .d x :: r => (slotsOf g r).map (.dat x :: ·)
  | .r i :: r => match getO g i with
    | some o => (slotsOf g r).map (.own o :: ·)
    | none => none
def refsOf : List Ar → List Nat
  | [] => []
  | .d _ :: r => refsOf r
  | .r i :: r => i :: refsOf r
def putBack (g : Fm) : List Ar → List Slot → Fm
  | .r i :: r, s :: ss => putBack (g.set i s) r ss
  | .d _ :: r, _ :: ss => putBack g r ss
  | _, _ => g
def callR (call : Nat → List Slot → CRes) (k : Nat) (ar : List Ar) (g : Fm) : Res RV :=
  match slotsOf g ar with
  | none => .stuck
  | some ss => if (refsOf ar).Nodup then (match call k ss with
    | .ok v ss' => .ok v (putBack g ar ss')
    | .exc x ss' => .exc x (putBack g ar ss')
    | .stuck => .stuck) else .stuck
def frzV (g : Fm) : RV → Res D
  | .dat d => .ok d g
  | .own o => opt g o.frz
def intD : D → Option Int
  | .int i => some i
  | _ => none
def blD : D → Option Bool
  | .bl i => some i
  | _ => none
/-- i, i + c, .. -/
def upTo (i c : Int) (n : Nat) : List D := (List.range n).map fun (k : Nat) => .int (i + k * c)
def small62 (i : Int) : Bool := decide (-(2 ^ 62) ≤ i ∧ i < 2 ^ 62)
def rngD (i j : Int) : Option (List D) := if small62 i && small62 j && decide ((j - i).toNat ≤ sizeLine) then some (upTo i 1 (j - i).toNat) else none
/-- the turns of range(i, j, c) -/
def turns (i j c : Int) : Nat := if 0 < c then ((j - i + c - 1) / c).toNat else ((i - j - c - 1) / (-c)).toNat
def rngC (i j c : Int) : Option (List D) := if small62 i && small62 j && decide (c ≠ 0 ∧ c.natAbs < 1073741824) && decide (turns i j c ≤ sizeLine) then some (upTo i c (turns i j c)) else none
def enuD : Nat → List D → List D
  | _, [] => []
  | k, x :: xs => .tup [.int k, x] :: enuD (k + 1) xs
def walkD : D → Option (List D)
  | .lst xs => some xs
  | .tup xs => some xs
  | .scr ns => some (ns.map .int)
  | .str z => if z.length ≤ sizeLine then some (z.cps.toList.map fun c => .str ⟨#[c]⟩) else none
  | _ => none
/-- no reference within -/
def flat : D → Bool
  | .non => true
  | .bl _ => true
  | .int _ => true
  | .str _ => true
  | _ => false
/-- the frame with the own things of some slots lent as data, the other own things out of sight -/
def lend (is : List Nat) : Nat → Fm → Option Fm
  | _, [] => some []
  | k, s :: g => match s with
    | .own o => if k ∈ is then o.frz.bind fun d => (lend is (k + 1) g).map (.dat d :: ·) else (lend is (k + 1) g).map (.un :: ·)
    | s => (lend is (k + 1) g).map (s :: ·)
/-- all turns of a comprehension -/
def lcD (step : D → Fm → Res (Option D)) : List D → Fm → Res (List D)
  | [], g => .ok [] g
  | x :: xs, g => (step x g).bind fun o g1 => (lcD step xs g1).bind fun ys g2 => .ok (match o with
    | some y => y :: ys
    | none => ys) g2
def It'.keep : It' → Option Nat
  | .own i => some i
  | _ => none
/-- the slot that is walked must stand -/
noncomputable def keepR {α : Type} (k : Option Nat) (g : Fm) : Res α → Res α
  | .ok a g' => @ite _ (∀ i, k = some i → g'[i]? = g[i]?) (Classical.propDecidable _) (.ok a g') .stuck
  | r => r
def noExc {α : Type} : Res α → Res α
  | .exc _ _ => .stuck
  | r => r
section
variable (con : Nat → Option D) (call : Nat → List Slot → CRes)
mutual
noncomputable def evE : E → Fm → Res D
  | .var i, g => opt g (getD g i)
  | .cst d, g => .ok d g
  | .glb k, g => opt g (con k)
  | .fnv k, g => .ok (.fn k) g
  | .bin o a b, g => (evE a g).bind fun x g1 => (evE b g1).bind fun y g2 => opt g2 (binD o x y)
  | .cmp o a b, g => (evE a g).bind fun x g1 => (evE b g1).bind fun y g2 => opt g2 (if noDic o y then (cmpD o x y).map .bl else none)
  | .bop k es, g => evB k es g
  | .nt a, g => (evE a g).bind fun x g1 => opt g1 ((blD x).map fun b => .bl !b)
  | .ife c a b, g => (evT c g).bind fun t g1 => if t then evE a g1 else evE b g1
  | .tup es, g => (evEs es g).bind fun ds g1 => .ok (.tup ds) g1
  | .lst es, g => (evEs es g).bind fun ds g1 => .ok (.lst ds) g1
  | .idx a b, g => (evE a g).bind fun x g1 => (evE b g1).bind fun y g2 => opt g2 (idxD x y)
  | .slc a lo hi, g => (evE a g).bind fun x g1 => (evP lo g1).bind fun l g2 => (evP hi g2).bind fun h g3 => opt g3 (slcD x l h)
  | .call k as, g => (evAs as g).bind fun ar g1 => (callR call k ar g1).bind fun v g2 => frzV g2 v
  | .bif b es, g => (evEs es g).bind fun ds g1 => opt g1 (bifD b ds)
  | .met m a b, g => (evE a g).bind fun x g1 => match x with
    | .str z => (evE b g1).bind fun y g2 => opt g2 (metD m z y)
    | _ => .stuck
  | .isi a ts, g => (evE a g).bind fun x g1 => opt g1 ((isiD x ts).map .bl)
  | .lc j it c e, g => (evI it g).bind fun ds g1 => if it.keep = some j then .stuck else match g1[j]? with
    | none => .stuck
    | some (.own _) => .stuck
    | some s => (noExc (lcD (fun x h => keepR it.keep h ((evT c (h.set j (.dat x))).bind fun b h1 => if b then (evE e h1).bind fun y h2 => .ok (some y) (h2.set j .un) else .ok none (h1.set j .un))) ds (g1.set j .un))).bind fun ys h => .ok (.lst ys) (h.set j s)
  | .brw is e, g => match lend is 0 g with
    | none => .stuck
    | some h => match evE e h with
      | .ok y _ => if flat y then .ok y g else .stuck
      | _ => .stuck
  | .oix i e, g => withL g i ((evE e g).bind fun y g1 => match getL g1 i, y with
    | some xs, .int k => opt g1 (atI xs k)
    | _, _ => .stuck)
  | .oslc i lo hi, g => withL g i ((evP lo g).bind fun l g1 => (evP hi g1).bind fun h g2 => match getL g2 i with
    | some xs => .ok (.lst (cut xs l h)) g2
    | none => .stuck)
  | .ocp i, g => match getL g i with
    | some xs => .ok (.lst xs) g
    | none => .stuck
  | .pop i e, g => withL g i ((evE e g).bind fun y g1 => match getL g1 i, y with
    | some xs, .int k => match ixN xs.length k with
      | some n => match xs[n]? with
        | some d => .ok d (g1.set i (.own (.lst (xs.eraseIdx n))))
        | none => .stuck
      | none => .stuck
    | _, _ => .stuck)
  | .frz i, g => match getO g i with
    | none => .stuck
    | some o => match o.frz with
      | none => .stuck
      | some d => .ok d (g.set i (.dat d))
  | .srt s a, g => (evE a g).bind fun x g1 => opt g1 (srtD s x)
  | .srk k a, g => (evE a g).bind fun x g1 => match x with
    | .lst ds => opt g1 (keyF (fun d => match call k [.dat d] with
      | .ok (.dat kd) _ => some kd
      | _ => none) ds)
    | _ => .stuck
  | .srl b a, g => (evE a g).bind fun x g1 => match x with
    | .lst ds => opt g1 (keyF (fun d => match evE b [.dat d] with
      | .ok kd _ => some kd
      | _ => none) ds)
    | _ => .stuck
  | .nev, _ => .stuck
noncomputable def evEs : Es → Fm → Res (List D)
  | .nil, g => .ok [] g
  | .cons e r, g => (evE e g).bind fun x g1 => (evEs r g1).bind fun xs g2 => .ok (x :: xs) g2
noncomputable def evAs : As → Fm → Res (List Ar)
  | .nil, g => .ok [] g
  | .val e r, g => (evE e g).bind fun x g1 => (evAs r g1).bind fun xs g2 => .ok (.d x :: xs) g2
  | .ref i r, g => match getO g i with
    | some _ => (evAs r g).bind fun xs g2 => .ok (.r i :: xs) g2
    | none => .stuck
noncomputable def evP : Po → Fm → Res (Option Int)
  | .no, g => .ok none g
  | .at e, g => (evE e g).bind fun x g1 => opt g1 ((intD x).map some)
noncomputable def evB (k : Bool) : Es → Fm → Res D
  | .nil, _ => .stuck
  | .cons e .nil, g => (evE e g).bind fun x g1 => opt g1 ((blD x).map .bl)
  | .cons e (.cons e' r), g => (evE e g).bind fun x g1 => match x with
    | .bl b => if b = k then evB k (.cons e' r) g1 else .ok (.bl b) g1
    | _ => .stuck
noncomputable def evT : Te → Fm → Res Bool
  | .is e, g => (evE e g).bind fun x g1 => opt g1 (blD x)
  | .tru e, g => (evE e g).bind fun x g1 => opt g1 (truD x)
  | .cmp o a b, g => (evE a g).bind fun x g1 => (evE b g1).bind fun y g2 => opt g2 (if noDic o y then cmpD o x y else none)
  | .nt t, g => (evT t g).bind fun b g1 => .ok (!b) g1
  | .bop k ts, g => evTs k ts g
  | .brw is t, g => match lend is 0 g with
    | none => .stuck
    | some h => match evT t h with
      | .ok y _ => .ok y g
      | _ => .stuck
noncomputable def evTs (k : Bool) : Ts → Fm → Res Bool
  | .one t, g => evT t g
  | .cons t r, g => (evT t g).bind fun b g1 => if b = k then evTs k r g1 else .ok b g1
noncomputable def evI : It' → Fm → Res (List D)
  | .dat e, g => (evE e g).bind fun x g1 => opt g1 (walkD x)
  | .rng1 a, g => (evE a g).bind fun x g1 => opt g1 ((intD x).bind fun j => rngD 0 j)
  | .rng2 a b, g => (evE a g).bind fun x g1 => (evE b g1).bind fun y g2 => opt g2 ((intD x).bind fun i => (intD y).bind fun j => rngD i j)
  | .rng3 a b c, g => (evE a g).bind fun x g1 => (evE b g1).bind fun y g2 => (evE c g2).bind fun z g3 => opt g3 ((intD x).bind fun i => (intD y).bind fun j => (intD z).bind fun k => rngC i j k)
  | .enu e, g => (evE e g).bind fun x g1 => match x with
    | .lst xs => .ok (enuD 0 xs) g1
    | _ => .stuck
  | .own i, g => opt g (getL g i)
end
end

/-! ### statements -/
inductive Out where
  | nx (g : Fm) | rt (v : RV) (g : Fm) | bk (g : Fm) | ct (g : Fm) | exc (x : Xc) (g : Fm) | stuck
def Res.out {α : Type} : Res α → (α → Fm → Out) → Out
  | .ok a g, k => k a g
  | .exc x g, _ => .exc x g
  | .stuck, _ => .stuck
def Out.seq : Out → (Fm → Out) → Out
  | .nx g, k => k g
  | o, _ => o
/-- the turns of a for; keep: the walked own slot, if any, that must stand -/
noncomputable def forD (step : D → Fm → Out) (keep : Option Nat) : List D → Fm → Out
  | [], g => .nx g
  | x :: xs, g => match step x g with
    | .nx g' => @ite _ (∀ i, keep = some i → g'[i]? = g[i]?) (Classical.propDecidable _) (forD step keep xs g') .stuck
    | .ct g' => @ite _ (∀ i, keep = some i → g'[i]? = g[i]?) (Classical.propDecidable _) (forD step keep xs g') .stuck
    | .bk g' => .nx g'
    | o => o
def whlD (test : Fm → Res Bool) (body : Fm → Out) : Nat → Fm → Out
  | 0, _ => .stuck
  | n + 1, g => (test g).out fun b g1 => if b then (match body g1 with
    | .nx g' => whlD test body n g'
    | .ct g' => whlD test body n g'
    | .bk g' => .nx g'
    | o => o) else .nx g1
/-- the slots of several names -/
def setAll (g : Fm) : List Nat → List D → Fm
  | j :: js, d :: ds => setAll (g.set j (.dat d)) js ds
  | _, _ => g
/-- n += .. -/
def augD : Bo → Int → D → Option D
  | .add, a, .int b => some (.int (a + b))
  | .sub, a, .int b => some (.int (a - b))
  | _, _, _ => none
/-- the walked slot is to stand -/
def brK (br : Nat → Bool) (k : Option Nat) : Nat → Bool := fun i => br i || decide (k = some i)
section
variable (con : Nat → Option D) (call : Nat → List Slot → CRes) (wf : Nat)
mutual
noncomputable def evS : S → (Nat → Bool) → Fm → Out
  | .asg i e, br, g => (evE con call e g).out fun x g1 => if br i then .stuck else .nx (g1.set i (.dat x))
  | .asgO i e, br, g => (evE con call e g).out fun x g1 => if br i then .stuck else match x with
    | .lst xs => .nx (g1.set i (.own (.lst xs)))
    | _ => .stuck
  | .asgC i k as, br, g => (evAs con call as g).out fun ar g1 => (callR call k ar g1).out fun v g2 => if br i then .stuck else match v with
    | .own o => .nx (g2.set i (.own o))
    | _ => .stuck
  | .asgT js e, br, g => (evE con call e g).out fun x g1 => if js.any br then .stuck else match x with
    | .tup xs => if xs.length = js.length then .nx (setAll g1 js xs) else .stuck
    | _ => .stuck
  | .aug i o e, br, g => match getD g i with
    | some (.int a) => (evE con call e g).out fun y g1 => if br i then .stuck else match augD o a y with
      | some d => .nx (g1.set i (.dat d))
      | none => .stuck
    | _ => .stuck
  | .setI i k v, br, g => (evE con call v g).out fun x g1 => (withL g1 i (evE con call k g1)).out fun y g2 => match getL g2 i, y with
    | some xs, .int n => match ixN xs.length n with
      | some m => .nx (g2.set i (.own (.lst (xs.set m x))))
      | none => .stuck
    | _, _ => .stuck
  | .app i e, br, g => (withL g i (evE con call e g)).out fun x g1 => match getL g1 i with
    | some xs => if xs.length < sizeLine then .nx (g1.set i (.own (.lst (xs ++ [x])))) else .stuck
    | none => .stuck
  | .ins i k e, br, g => (withL g i (evE con call k g)).out fun y g1 => (evE con call e g1).out fun x g2 => match getL g2 i, y with
    | some xs, .int n => if xs.length < sizeLine ∧ 0 ≤ n ∧ n < 2 ^ 63 then .nx (g2.set i (.own (.lst (xs.take n.toNat ++ [x] ++ xs.drop n.toNat)))) else .stuck
    | _, _ => .stuck
  | .drp e, br, g => (evE con call e g).out fun _ g1 => .nx g1
  | .ret e, br, g => (evE con call e g).out fun x g1 => .rt (.dat x) g1
  | .retN, br, g => .rt (.dat .non) g
  | .retO i, br, g => if br i then .stuck else match getO g i with
    | some o => .rt (.own o) (g.set i .un)
    | none => .stuck
  | .retF e, br, g => (evE con call e g).out fun x g1 => match x with
    | .lst xs => .rt (.own (.lst xs)) g1
    | _ => .stuck
  | .ifs t a b, br, g => (evT con call t g).out fun c g1 => if c then evSs a br g1 else evSs b br g1
  | .fors j it b, br, g => (evI con call it g).out fun ds g1 => if brK br it.keep j then .stuck else forD (fun x h => evSs b (brK br it.keep) (h.set j (.dat x))) it.keep ds g1
  | .fort js it b, br, g => (evI con call it g).out fun ds g1 => if js.any (brK br it.keep) then .stuck else forD (fun x h => match x with
    | .tup xs => if xs.length = js.length then evSs b (brK br it.keep) (setAll h js xs) else .stuck
    | _ => .stuck) it.keep ds g1
  | .whl t b, br, g => whlD (fun h => evT con call t h) (fun h => evSs b br h) wf g
  | .brk, br, g => .bk g
  | .cnt, br, g => .ct g
  | .pas, br, g => .nx g
  | .nev, _, _ => .stuck
noncomputable def evSs : Ss → (Nat → Bool) → Fm → Out
  | .nil, br, g => .nx g
  | .cons s r, br, g => (evS s br g).seq fun g1 => evSs r br g1
end
end

/-! ### defs -/
structure Fd where
  /-- the number of its parameters, of its other names; which parameters are own things; its body -/
  np : Nat
  nl : Nat
  br : List Bool
  body : Ss
def Fd.isBr (f : Fd) (i : Nat) : Bool := f.br.getD i false
def fits : List Bool → List Slot → Bool
  | [], [] => true
  | true :: bs, .own _ :: ss => fits bs ss
  | false :: bs, .dat _ :: ss => fits bs ss
  | _, _ => false
/-- what a callee hands back of its parameters -/
def back : List Bool → Fm → List Slot
  | [], _ => []
  | true :: bs, s :: g => s :: back bs g
  | false :: bs, _ :: g => .un :: back bs g
  | _ :: bs, [] => .un :: back bs []
noncomputable def runF (con : Nat → Option D) (wf : Nat) (Γ : Nat → Option Fd) : Nat → Nat → List Slot → CRes
  | 0, _, _ => .stuck
  | n + 1, k, as => match Γ k with
    | none => .stuck
    | some f => if f.br.length = f.np ∧ fits f.br as = true then (match evSs con (runF con wf Γ n) wf f.body f.isBr (as ++ List.replicate f.nl .un) with
      | .nx g => .ok (.dat .non) (back f.br g)
      | .rt v g => .ok v (back f.br g)
      | .exc x g => .exc x (back f.br g)
      | _ => .stuck) else .stuck
end DL

set_option Elab.async false
set_option linter.all false
set_option autoImplicit false
set_option maxRecDepth 100000
set_option maxHeartbeats 2000000
/-! DLg: whether a term is what a piece of syntax says. -/
namespace DL
open PySem L2

/-! ### views of syntax -/
def vName : Expr → Option Str
  | .Name x _ => some x
  | _ => none
def vBin : Expr → Option (Expr × Operator × Expr)
  | .BinOp a o b _ => some (a, o, b)
  | _ => none
def vCmp : Expr → Option (Expr × CmpOp × Expr)
  | .Compare a [o] [b] _ => some (a, o, b)
  | _ => none
def vBop : Expr → Option (BoolOp × List Expr)
  | .BoolOp o es _ => some (o, es)
  | _ => none
def vNot : Expr → Option Expr
  | .UnaryOp .Not a _ => some a
  | _ => none
def vIf : Expr → Option (Expr × Expr × Expr)
  | .IfExp c a b _ => some (c, a, b)
  | _ => none
def vTup : Expr → Option (List Expr)
  | .Tuple es _ _ => some es
  | _ => none
def vLst : Expr → Option (List Expr)
  | .List es _ => some es
  | _ => none
def vSub : Expr → Option (Expr × Expr)
  | .Subscript a b _ => some (a, b)
  | _ => none
def vSlc : Expr → Option (Option Expr × Option Expr)
  | .Slice lo hi none _ => some (lo, hi)
  | _ => none
def vCall : Expr → Option (Str × List Expr)
  | .Call (.Name x _) es [] _ => some (x, es)
  | _ => none
def vMet : Expr → Option (Expr × Str × List Expr)
  | .Call (.Attribute o n ap) es [] p => if ap.endLine == p.line then some (o, n, es) else none
  | _ => none
def vLC : Expr → Option (Expr × Expr × Expr × List Expr × Scope)
  | .ListComp e [⟨t, it, ifs, 0⟩] sc _ => some (e, t, it, ifs, sc)
  | _ => none
def vCst : Expr → Option D
  | .Constant (.int i) _ _ => some (.int i)
  | .Constant (.str x) _ _ => some (.str x)
  | .Constant (.bool b) _ _ => some (.bl b)
  | .Constant .none _ _ => some .non
  | .UnaryOp .USub (.Constant (.int i) _ _) _ => some (.int (-i))
  | _ => none
theorem vName_eq {e : Expr} {x : Str} (h : vName e = some x) : ∃ p, e = .Name x p := by
  cases e <;> simp only [vName] at h <;> first | cases h | skip
  exact ⟨_, rfl⟩
theorem vBin_eq {e a b : Expr} {o : Operator} (h : vBin e = some (a, o, b)) : ∃ p, e = .BinOp a o b p := by
  cases e <;> simp only [vBin] at h <;> first | cases h | skip
  exact ⟨_, rfl⟩
theorem vCmp_eq {e a b : Expr} {o : CmpOp} (h : vCmp e = some (a, o, b)) : ∃ p, e = .Compare a [o] [b] p := by
  unfold vCmp at h
  split at h
  · cases h; exact ⟨_, rfl⟩
  · cases h
theorem vBop_eq {e : Expr} {o : BoolOp} {es : List Expr} (h : vBop e = some (o, es)) : ∃ p, e = .BoolOp o es p := by
  cases e <;> simp only [vBop] at h <;> first | cases h | skip
  exact ⟨_, rfl⟩
theorem vNot_eq {e a : Expr} (h : vNot e = some a) : ∃ p, e = .UnaryOp .Not a p := by
  unfold vNot at h
  split at h
  · cases h; exact ⟨_, rfl⟩
  · cases h
theorem vIf_eq {e c a b : Expr} (h : vIf e = some (c, a, b)) : ∃ p, e = .IfExp c a b p := by
  cases e <;> simp only [vIf] at h <;> first | cases h | skip
  exact ⟨_, rfl⟩
theorem vTup_eq {e : Expr} {es : List Expr} (h : vTup e = some es) : ∃ k p, e = .Tuple es k p := by
  cases e <;> simp only [vTup] at h <;> first | cases h | skip
  exact ⟨_, _, rfl⟩
theorem vLst_eq {e : Expr} {es : List Expr} (h : vLst e = some es) : ∃ p, e = .List es p := by
  cases e <;> simp only [vLst] at h <;> first | cases h | skip
  exact ⟨_, rfl⟩
theorem vSub_eq {e a b : Expr} (h : vSub e = some (a, b)) : ∃ p, e = .Subscript a b p := by
  cases e <;> simp only [vSub] at h <;> first | cases h | skip
  exact ⟨_, rfl⟩
theorem vSlc_eq {e : Expr} {lo hi : Option Expr} (h : vSlc e = some (lo, hi)) : ∃ p, e = .Slice lo hi none p := by
  unfold vSlc at h
  split at h
  · cases h; exact ⟨_, rfl⟩
  · cases h
theorem vCall_eq {e : Expr} {x : Str} {es : List Expr} (h : vCall e = some (x, es)) : ∃ q p, e = .Call (.Name x q) es [] p := by
  unfold vCall at h
  split at h
  · cases h; exact ⟨_, _, rfl⟩
  · cases h
theorem vMet_eq {e o : Expr} {n : Str} {es : List Expr} (h : vMet e = some (o, n, es)) : ∃ ap p, e = .Call (.Attribute o n ap) es [] p ∧ (ap.endLine == p.line) = true := by
  unfold vMet at h
  split at h
  · split at h
    · next c => cases h; exact ⟨_, _, rfl, c⟩
    · cases h
  · cases h
theorem vLC_eq {e el t it : Expr} {ifs : List Expr} {sc : Scope} (h : vLC e = some (el, t, it, ifs, sc)) : ∃ p, e = .ListComp el [⟨t, it, ifs, 0⟩] sc p := by
  unfold vLC at h
  split at h
  · cases h; exact ⟨_, rfl⟩
  · cases h

/-- sorted(y, key=v) -/
def vKey : Expr → Option (Expr × Expr)
  | .Call (.Name x _) [y] [⟨some k, v, _⟩] _ => if x = "sorted" ∧ k = "key" then some (y, v) else none
  | _ => none
/-- lambda x: b -/
def vLam : Expr → Option (Str × Expr × Scope)
  | .Lambda ⟨[], [a], none, [], [], none, []⟩ b sc _ => some (a.arg, b, sc)
  | _ => none
theorem vKey_eq {e y v : Expr} (h : vKey e = some (y, v)) : ∃ q kp p, e = .Call (.Name "sorted" q) [y] [⟨some "key", v, kp⟩] p := by
  unfold vKey at h
  split at h
  · split at h
    · next c => obtain ⟨rfl, rfl⟩ := c; cases h; exact ⟨_, _, _, rfl⟩
    · cases h
  · cases h
theorem vLam_eq {e b : Expr} {x : Str} {sc : Scope} (h : vLam e = some (x, b, sc)) : ∃ a p, a.arg = x ∧ e = .Lambda ⟨[], [a], none, [], [], none, []⟩ b sc p := by
  unfold vLam at h
  split at h
  · cases h; exact ⟨_, _, rfl, rfl⟩
  · cases h
/-! ### names -/
structure Sg where
  cons : List Str
  fns : Nat → Option Str
  /-- a lambda may stand here -/
  lam : Bool
def isGl (sc : Scope) (x : Str) : Bool := decide (sc.names.lookup x = some .globalImplicit) && !(x == ("__debug__" : Str))
def isVis (sc : Scope) (x : Str) : Bool := decide (sc.names.lookup x = some .local ∨ sc.names.lookup x = some .cell ∨ sc.names.lookup x = some .free) && !(x == ("__debug__" : Str)) && !(x == ("__classdict__" : Str))
def isLoc (sc : Scope) (x : Str) : Bool := decide (sc.names.lookup x = some .local ∨ sc.names.lookup x = some .cell)
/-- the name stands in slot i and may be read -/
def ckVar (N : List Str) (sc : Scope) (i : Nat) (e : Expr) : Bool := match vName e with
  | some x => decide (N[i]? = some x) && isVis sc x
  | none => false
def ckGl (sc : Scope) (x : Str) (e : Expr) : Bool := match vName e with
  | some y => decide (y = x) && isGl sc x
  | none => false
def ckScope (N ps : List Str) (sc : Scope) : Bool :=
  decide (sc.kind = .function) && !sc.isCoroutine && !sc.isGenerator && decide N.Nodup && decide (N.take ps.length = ps) && ps.all (fun x => isLoc sc x) && sc.names.all (fun y => !decide (y.2 = .free))
theorem scope_by {N ps : List Str} {sc : Scope} (h : ckScope N ps sc = true) : FnScope N ps sc := by
  simp only [ckScope, Bool.and_eq_true, decide_eq_true_eq, Bool.not_eq_true', List.all_eq_true, decide_eq_false_iff_not] at h
  obtain ⟨⟨⟨⟨⟨⟨h1, h2⟩, h3⟩, h4⟩, h5⟩, h6⟩, h7⟩ := h
  exact ⟨h1, h2, h3, h4, h5, fun x hx => of_decide_eq_true (h6 x hx), h7⟩
def eqC : D → D → Bool
  | .non, .non => true
  | .bl a, .bl b => a == b
  | .int a, .int b => a == b
  | .str a, .str b => decide (a = b)
  | _, _ => false
theorem eqC_eq {a b : D} (h : eqC a b = true) : a = b := by
  cases a <;> cases b <;> simp [eqC] at h <;> first | rfl | (subst h; rfl)
/-- no star, and neither a comprehension nor a set nor a slice: an expression as all others -/
def plainX : Expr → Bool
  | .Starred .. => false
  | .Set .. => false
  | .Slice .. => false
  | .SetComp .. => false
  | .DictComp .. => false
  | .NamedExpr .. => false
  | .Yield .. => false
  | .YieldFrom .. => false
  | .Await .. => false
  | .GeneratorExp .. => false
  | _ => true
/-- its truth is that of its value -/
def plainT : Expr → Bool
  | .UnaryOp .Not _ _ => false
  | .BoolOp .. => false
  | .IfExp .. => false
  | .Compare .. => false
  | _ => true
/-- may stand ahead of a method's dot -/
def plainO : Expr → Bool
  | .Call (.Name _ _) [] [] _ => false
  | _ => true
def noLC : Expr → Bool
  | .ListComp .. => false
  | _ => true
def noEnu : It' → Bool
  | .enu _ => false
  | _ => true
def tyCk (sc : Scope) (t : Ty) (e : Expr) : Bool := ckGl sc t.key e
def tysCk (sc : Scope) : List Ty → List Expr → Bool
  | [], [] => true
  | t :: ts, e :: es => tyCk sc t e && tysCk sc ts es
  | _, _ => false
def isTT : Te → Bool
  | .is (.cst (.bl true)) => true
  | _ => false
theorem isTT_eq {t : Te} (h : isTT t = true) : t = .is (.cst (.bl true)) := by
  unfold isTT at h
  split at h
  · rfl
  · cases h
mutual
def ckE (G : Sg) (N : List Str) (sc : Scope) : E → Expr → Bool
  | .var i, e => ckVar N sc i e
  | .cst d, e => match vCst e with
    | some c => eqC c d
    | none => false
  | .glb k, e => match G.cons[k]? with
    | some x => ckGl sc x e
    | none => false
  | .fnv k, e => match G.fns k with
    | some x => ckGl sc x e
    | none => false
  | .bin o a b, e => match vBin e with
    | some (l, p, r) => decide (p = o.op) && ckE G N sc a l && ckE G N sc b r
    | none => false
  | .cmp o a b, e => match vCmp e with
    | some (l, p, r) => decide (p = o.op) && ckE G N sc a l && ckE G N sc b r && plainX r
    | none => false
  | .bop k es, e => match vBop e with
    | some (o, xs) => decide (o = if k then .And else .Or) && ckEs G N sc es xs
    | none => false
  | .nt a, e => match vNot e with
    | some x => ckE G N sc a x
    | none => false
  | .ife c a b, e => match vIf e with
    | some (t, x, y) => ckT G N sc c t && ckE G N sc a x && ckE G N sc b y
    | none => false
  | .tup es, e => match vTup e with
    | some xs => ckEs G N sc es xs && decide (xs.length ≤ 1000)
    | none => false
  | .lst es, e => match vLst e with
    | some xs => ckEs G N sc es xs && decide (xs.length ≤ 1000)
    | none => false
  | .idx a b, e => match vSub e with
    | some (x, y) => ckE G N sc a x && ckE G N sc b y && plainX y
    | none => false
  | .slc a lo hi, e => match vSub e with
    | some (x, y) => ckE G N sc a x && (match vSlc y with
      | some (l, h) => ckP G N sc lo l && ckP G N sc hi h
      | none => false)
    | none => false
  | .call k as, e => match vCall e with
    | some (x, xs) => decide (G.fns k = some x) && isGl sc x && ckAs G N sc as xs
    | none => false
  | .bif b es, e => match vCall e with
    | some (x, xs) => decide (x = b.name) && isGl sc x && !xs.isEmpty && ckEs G N sc es xs
    | none => false
  | .met m a b, e => match vMet e with
    | some (o, n, [y]) => decide (n = m.name) && plainO o && ckE G N sc a o && ckE G N sc b y && plainX y
    | _ => false
  | .isi a ts, e => match vCall e with
    | some (x, [y, c]) => decide (x = "isinstance") && isGl sc x && ckE G N sc a y && plainX y && plainX c && (match ts with
      | [t] => tyCk sc t c
      | ts => match vTup c with
        | some cs => tysCk sc ts cs && decide (cs.length ≤ 100)
        | none => false)
    | _ => false
  | .lc j it c el, e => match vLC e with
    | some (x, t, i, ifs, sc') => match vName t with
      | some y => blkC N sc sc' [(y, j)] && isLoc (relS sc' sc) y && (decide (sc'.names.lookup y = some .cell) || decide ((relS sc' sc).names.lookup y = some .local)) && ckI G N sc it i && (match ifs with
        | [] => isTT c
        | [z] => ckT G N (relS sc' sc) c z
        | _ => false) && ckE G N (relS sc' sc) el x && noEnu it
      | none => false
    | none => false
  | .brw _ a, e => ckE G N sc a e
  | .oix i a, e => match vSub e with
    | some (x, y) => ckVar N sc i x && ckE G N sc a y && plainX y
    | none => false
  | .oslc i lo hi, e => match vSub e with
    | some (x, y) => ckVar N sc i x && (match vSlc y with
      | some (l, h) => ckP G N sc lo l && ckP G N sc hi h
      | none => false)
    | none => false
  | .ocp i, e => match vCall e with
    | some (x, [y]) => decide (x = "list") && isGl sc x && ckVar N sc i y
    | _ => false
  | .pop i a, e => match vMet e with
    | some (o, n, [y]) => decide (n = "pop") && ckVar N sc i o && ckE G N sc a y && plainX y
    | _ => false
  | .frz i, e => ckVar N sc i e
  | .srt s a, e => match s with
    | .plain => (match vCall e with
      | some (x, [y]) => decide (x = "sorted") && isGl sc x && ckE G N sc a y && plainX y
      | _ => false)
    | .set => (match vCall e with
      | some (x, [z]) => decide (x = "sorted") && isGl sc x && (match vCall z with
        | some (x2, [y]) => decide (x2 = "set") && isGl sc x2 && ckE G N sc a y && plainX y
        | _ => false)
      | _ => false)
  | .srk k a, e => match vKey e with
    | some (y, v) => isGl sc "sorted" && ckE G N sc a y && plainX y && (match G.fns k with
      | some x => ckGl sc x v
      | none => false)
    | none => false
  | .srl b a, e => match vKey e with
    | some (y, v) => isGl sc "sorted" && ckE G N sc a y && plainX y && G.lam && (match vLam v with
      | some (x, body, sc') => ckScope [x] [x] sc' && ckE { cons := G.cons, fns := fun _ => none, lam := false } [x] sc' b body
      | none => false)
    | none => false
  | .nev, _ => true
def ckEs (G : Sg) (N : List Str) (sc : Scope) : Es → List Expr → Bool
  | .nil, [] => true
  | .cons a r, x :: xs => ckE G N sc a x && plainX x && ckEs G N sc r xs
  | _, _ => false
def ckAs (G : Sg) (N : List Str) (sc : Scope) : As → List Expr → Bool
  | .nil, [] => true
  | .val a r, x :: xs => ckE G N sc a x && plainX x && ckAs G N sc r xs
  | .ref i r, x :: xs => ckVar N sc i x && ckAs G N sc r xs
  | _, _ => false
def ckP (G : Sg) (N : List Str) (sc : Scope) : Po → Option Expr → Bool
  | .no, none => true
  | .at a, some x => ckE G N sc a x
  | _, _ => false
def ckT (G : Sg) (N : List Str) (sc : Scope) : Te → Expr → Bool
  | .is a, e => plainT e && ckE G N sc a e
  | .tru a, e => plainT e && ckE G N sc a e
  | .cmp o a b, e => match vCmp e with
    | some (l, p, r) => decide (p = o.op) && ckE G N sc a l && ckE G N sc b r && plainX r
    | none => false
  | .nt t, e => match vNot e with
    | some x => ckT G N sc t x
    | none => false
  | .bop k ts, e => match vBop e with
    | some (o, xs) => decide (o = if k then .And else .Or) && ckTs G N sc ts xs
    | none => false
  | .brw _ t, e => ckT G N sc t e
def ckTs (G : Sg) (N : List Str) (sc : Scope) : Ts → List Expr → Bool
  | .one t, [x] => ckT G N sc t x
  | .cons t r, x :: y :: xs => ckT G N sc t x && ckTs G N sc r (y :: xs)
  | _, _ => false
def ckI (G : Sg) (N : List Str) (sc : Scope) : It' → Expr → Bool
  | .dat a, e => ckE G N sc a e && plainX e
  | .rng1 a, e => match vCall e with
    | some (x, [y]) => decide (x = "range") && isGl sc x && ckE G N sc a y && plainX y
    | _ => false
  | .rng2 a b, e => match vCall e with
    | some (x, [y, z]) => decide (x = "range") && isGl sc x && ckE G N sc a y && plainX y && ckE G N sc b z && plainX z
    | _ => false
  | .rng3 _ _ _, _ => false
  | .enu a, e => match vCall e with
    | some (x, [y]) => decide (x = "enumerate") && isGl sc x && ckE G N sc a y && plainX y
    | _ => false
  | .own i, e => ckVar N sc i e
end
def ckIfs (G : Sg) (N : List Str) (sc : Scope) (c : Te) (ifs : List Expr) : Bool := match ifs with
  | [] => isTT c
  | [z] => ckT G N sc c z
  | _ => false

/-! ### statements -/
def vAsg : Stmt → Option (Expr × Expr × Pos)
  | .Assign [t] v p => some (t, v, p)
  | _ => none
def vExp : Stmt → Option (Expr × Pos)
  | .Expr v p => some (v, p)
  | _ => none
theorem vAsg_eq {s : Stmt} {t v : Expr} {p : Pos} (h : vAsg s = some (t, v, p)) : s = .Assign [t] v p := by
  unfold vAsg at h
  split at h
  · cases h; rfl
  · cases h
theorem vExp_eq {s : Stmt} {v : Expr} {p : Pos} (h : vExp s = some (v, p)) : s = .Expr v p := by
  unfold vExp at h
  split at h
  · cases h; rfl
  · cases h
/-- the name of slot i, to be stored to -/
def ckTg (N : List Str) (sc : Scope) (i : Nat) (e : Expr) : Bool := match vName e with
  | some x => decide (N[i]? = some x) && isLoc sc x
  | none => false
def ckTgs (N : List Str) (sc : Scope) : List Nat → List Expr → Bool
  | [], [] => true
  | i :: is, e :: es => ckTg N sc i e && ckTgs N sc is es
  | _, _ => false
/-- how a comprehension is stored: on one line into a local name | as all else -/
def lcWay (sc : Scope) (t : Expr) (v : Expr) : Bool := match t, v with
  | .Name x p, .ListComp _ _ s q => decide (sc.names.lookup x = some .local) && (p.line == q.line) && !(s.names.any fun (n, k) => n == x && (k == .local || k == .cell))
  | _, _ => false
def fewTup (ts : List Expr) : Expr → Bool
  | .Tuple _ _ _ => decide (3 < ts.length)
  | _ => true
def isLc : E → Bool
  | .lc _ _ _ _ => true
  | _ => false
def fresh : E → Bool
  | .lst _ => true
  | .bif .lst _ => true
  | .lc _ _ _ _ => true
  | .ocp _ => true
  | _ => false
section
variable (G : Sg) (N : List Str) (sc : Scope)
mutual
def ckS : S → Stmt → Bool
  | .asg i e, s => match vAsg s with
    | some (t, v, _) => ckTg N sc i t && ckE G N sc e v && plainX v && (!lcWay sc t v || isLc e)
    | none => false
  | .asgO i e, s => match vAsg s with
    | some (t, v, _) => ckTg N sc i t && ckE G N sc e v && plainX v && fresh e && (!lcWay sc t v || isLc e)
    | none => false
  | .asgC i k as, s => match vAsg s with
    | some (t, v, _) => ckTg N sc i t && (match vCall v with
      | some (x, xs) => decide (G.fns k = some x) && isGl sc x && ckAs G N sc as xs
      | none => false)
    | none => false
  | .asgT js e, s => match vAsg s with
    | some (t, v, _) => match vTup t with
      | some ts => ckTgs N sc js ts && ckE G N sc e v && plainX v && fewTup ts v
      | none => false
    | none => false
  | .aug i o e, s => match s with
    | .AugAssign t p v _ => ckTg N sc i t && decide (p = o.op) && ckE G N sc e v && (decide (o.op = .Add) || decide (o.op = .Sub))
    | _ => false
  | .setI i k v, s => match vAsg s with
    | some (t, w, _) => match vSub t with
      | some (x, y) => ckVar N sc i x && ckE G N sc k y && plainX y && ckE G N sc v w && plainX w && noLC w
      | none => false
    | none => false
  | .app i e, s => match vExp s with
    | some (v, _) => match vMet v with
      | some (o, n, [y]) => decide (n = "append") && ckVar N sc i o && ckE G N sc e y && plainX y
      | _ => false
    | none => false
  | .ins i k e, s => match vExp s with
    | some (v, _) => match vMet v with
      | some (o, n, [x, y]) => decide (n = "insert") && ckVar N sc i o && ckE G N sc k x && plainX x && ckE G N sc e y && plainX y
      | _ => false
    | none => false
  | .drp e, s => match vExp s with
    | some (v, _) => ckE G N sc e v && plainX v && noLC v
    | none => false
  | .ret e, s => match s with
    | .Return (some v) _ => ckE G N sc e v
    | _ => false
  | .retN, s => match s with
    | .Return none _ => true
    | _ => false
  | .retO i, s => match s with
    | .Return (some v) _ => ckVar N sc i v
    | _ => false
  | .retF e, s => match s with
    | .Return (some v) _ => ckE G N sc e v && fresh e
    | _ => false
  | .ifs t a b, s => match s with
    | .If c x y _ => ckT G N sc t c && ckSs a x && ckSs b y
    | _ => false
  | .fors j it b, s => match s with
    | .For t i x [] _ => ckTg N sc j t && ckI G N sc it i && noEnu it && ckSs b x
    | _ => false
  | .fort js it b, s => match s with
    | .For t i x [] _ => (match vTup t with
      | some ts => ckTgs N sc js ts
      | none => false) && ckI G N sc it i && ckSs b x
    | _ => false
  | .whl t b, s => match s with
    | .While c x [] _ => ckT G N sc t c && ckSs b x
    | _ => false
  | .brk, s => match s with
    | .Break _ => true
    | _ => false
  | .cnt, s => match s with
    | .Continue _ => true
    | _ => false
  | .pas, s => match s with
    | .Pass _ => true
    | _ => false
  | .nev, _ => true
def ckSs : Ss → List Stmt → Bool
  | .nil, [] => true
  | .cons s r, x :: xs => ckS s x && ckSs r xs
  | _, _ => false
end
end
end DL

set_option Elab.async false
set_option linter.all false
set_option autoImplicit false
set_option maxRecDepth 100000
set_option maxHeartbeats 2000000
/-! DLh: the context of a body; what follows; calls. -/
namespace DL
open PySem L2

/-! ### what follows -/
def XAt (K : PySem.W.Frag) (T : Tb) (F H : Hp) (d : Addr) (x : Xc) : Prop := ∃ fv, H d = some (.xd fv) ∧ IsF K T F fv x.fs
section
variable (K : PySem.W.Frag) (T : Tb) (Mo : List Addr)
def Cont {α : Type} (F H : Hp) (σ : St) (W : WX) (r : Res α) (P : α → Fm → Hp → Hp → Prop) : Prop :=
  match r with
  | .ok a g => ∀ F' H', Nxt Mo F H F' H' → Rl K T Mo F' H' g σ → P a g F' H'
  | .exc x g => ∀ F' H' C d, Nxt Mo F H F' H' → Rl K T Mo F' H' g σ → T.cls x.c = some C → XAt K T F' H' d x → W (.ref C) (some d) σ H'
  | .stuck => False
end
section
variable {K : PySem.W.Frag} {T : Tb} {Mo : List Addr} {F H F1 H1 : Hp} {σ : St} {W : WX} {α β : Type} {P P' : α → Fm → Hp → Hp → Prop} {P2 : β → Fm → Hp → Hp → Prop}
theorem Cont.step {r : Res α} (n : Nxt Mo F H F1 H1) (c : Cont K T Mo F H σ W r P) : Cont K T Mo F1 H1 σ W r P := by
  cases r with
  | ok a g => exact fun F' H' m => c F' H' (n.trans m)
  | exc x g => exact fun F' H' C d m => c F' H' C d (n.trans m)
  | stuck => exact c
/-- the first part, then what comes behind it -/
theorem Cont.bind {r : Res β} {k : β → Fm → Res α} (c : Cont K T Mo F H σ W (r.bind k) P)
    (h : ∀ b g F1 H1, r = .ok b g → Nxt Mo F H F1 H1 → Rl K T Mo F1 H1 g σ → Cont K T Mo F1 H1 σ W (k b g) P → P2 b g F1 H1) : Cont K T Mo F H σ W r P2 := by
  cases r with
  | ok b g => exact fun F1 H1 n r => h b g F1 H1 rfl n r (Cont.step n c)
  | exc x g => exact c
  | stuck => exact c
theorem Cont.imp {r : Res α} (c : Cont K T Mo F H σ W r P) (h : ∀ a g F1 H1, r = .ok a g → Nxt Mo F H F1 H1 → Rl K T Mo F1 H1 g σ → P a g F1 H1 → P' a g F1 H1) : Cont K T Mo F H σ W r P' := by
  cases r with
  | ok a g => exact fun F1 H1 n r => h a g F1 H1 rfl n r (c F1 H1 n r)
  | exc x g => exact c
  | stuck => exact c
theorem Cont.opt {g : Fm} {o : Option α} (c : Cont K T Mo F H σ W (DL.opt g o) P) : ∃ a, o = some a ∧ ∀ F' H', Nxt Mo F H F' H' → Rl K T Mo F' H' g σ → P a g F' H' := by
  cases o with
  | some a => exact ⟨a, rfl, c⟩
  | none => exact c.elim
end

/-! ### a def's promise -/
section
variable (K : PySem.W.Frag) (T : Tb) (Mo : List Addr)
def RVis (F H : Hp) (ss : List Slot) (σ : St) : RV → V → Prop
  | .dat d, v => Is K T F v d
  | .own o, v => ∃ p, v = .ref p ∧ F p = none ∧ Own K T F H p o ∧ p ∉ Mo ∧ ∀ i, ¬ OwnAt ss σ i p
def CCont (F H : Hp) (vs : List V) (r : CRes) (Q : VK) (E : XK) : Prop :=
  match r with
  | .ok rv ss => ∀ F' H' v, Nxt Mo F H F' H' → Rl K T Mo F' H' ss (vs.map some) → RVis K T Mo F' H' ss (vs.map some) rv v → Q v H'
  | .exc x ss => ∀ F' H' C d, Nxt Mo F H F' H' → Rl K T Mo F' H' ss (vs.map some) → T.cls x.c = some C → XAt K T F' H' d x → E (.ref C) (some d) H'
  | .stuck => False
end
def spOf (K : PySem.W.Frag) (T : Tb) (f : List Slot → CRes) : Sp := fun vs H Q E => ∃ (Mo : List Addr) (F : Hp) (ss : List Slot), Rl K T Mo F H ss (vs.map some) ∧ CCont K T Mo F H vs (f ss) Q E

/-- where a body runs -/
structure Gd (G : Sg) (con : Nat → Option D) (call : Nat → List Slot → CRes) (T : Tb) (n : Nat) (X : Cx) : Prop where
  nd : X.N.Nodup
  calm : X.calm = true
  room : Room n X.A
  own : PassesOwn (model X.prog X.w) X.A X.env X.xe
  con : ∀ (k : Nat) (x : Str) (d : D), G.cons[k]? = some x → con k = some d → ∃ v u, X.mg x = some u ∧ RelV v u ∧ ∀ F, Is X.K T F v d
  fns : ∀ (k : Nat) (x : Str), G.fns k = some x → ∃ f fd ps, X.mg x = some (.ref f) ∧ PySem.W.keepIn X.K (.ref f) = true ∧ Binds X.K fd ps [] ∧ T.fn k = some f ∧ 6 ≤ n ∧ FnOk X.prog X.w X.K X.mg X.base (L2.CX X.prog X.w) (n - 6) f fd ps (spOf X.K T (call k))
  bi : ∀ b : Bf, X.mg b.name = none
  ty : ∀ t : Ty, X.mg t.key = none
  lib : X.mg "range" = none ∧ X.mg "enumerate" = none ∧ X.mg "isinstance" = none ∧ X.mg "sorted" = none ∧ X.mg "set" = none
  lam : G.lam = true → 3 ≤ n ∧ ∃ c P, X.env.code = .ref c ∧ LamX.TabB X.base X.mg c P ∧ (P, X.env.qual ++ "<lambda>") ∈ T.tabs ∧ ∀ p ∈ T.tabs, p.1 = P → p.2 = X.env.qual ++ "<lambda>"
theorem Gd.hu {G : Sg} {con : Nat → Option D} {call : Nat → List Slot → CRes} {T : Tb} {n : Nat} {X : Cx} (g : Gd G con call T n X) : X.A.units + 64 < cLine := g.room.units
/-- a comprehension's block -/
theorem Gd.blk {G : Sg} {con : Nat → Option D} {call : Nat → List Slot → CRes} {T : Tb} {n : Nat} {X : Cx} (g : Gd G con call T n X) (s : Shared) (H : Hp) (sc : Scope) (cl : List (Str × Addr)) (C : Addr) (fp : List Addr) : Gd G con call T n (X.blk s H sc (compEnvC sc cl C X.env) fp) :=
  ⟨g.nd, g.calm, g.room, PassesOwn.never, g.con, g.fns, g.bi, g.ty, g.lib, g.lam⟩

/-! ### the own things of a frame -/
def ownsOf (g : Fm) (σ : St) (but : List Nat) : List Addr := (List.range g.length).filterMap fun i =>
  if i ∈ but then none else match g[i]?, σ[i]? with
    | some (.own _), some (some (.ref p)) => some p
    | _, _ => none
theorem mem_ownsOf {g : Fm} {σ : St} {but : List Nat} {p : Addr} : p ∈ ownsOf g σ but ↔ ∃ i, i ∉ but ∧ OwnAt g σ i p := by
  unfold ownsOf
  rw [List.mem_filterMap]
  constructor
  · rintro ⟨i, hi, e⟩
    split at e
    · cases e
    · next hb =>
      split at e
      · next o q h1 h2 => cases e; exact ⟨i, hb, ⟨_, h1⟩, h2⟩
      · cases e
  · rintro ⟨i, hb, ⟨o, h1⟩, h2⟩
    refine ⟨i, List.mem_range.mpr (List.getElem?_eq_some_iff.mp h1).1, ?_⟩
    rw [if_neg hb, h1, h2]
/-- the values of arguments -/
inductive ArL (K : PySem.W.Frag) (T : Tb) (F : Hp) (σ : St) : List V → List Ar → Prop
  | nil : ArL K T F σ [] []
  | d {v : V} {x : D} {vs : List V} {as : List Ar} : Is K T F v x → ArL K T F σ vs as → ArL K T F σ (v :: vs) (.d x :: as)
  | r {i : Nat} {p : Addr} {vs : List V} {as : List Ar} : σ[i]? = some (some (.ref p)) → ArL K T F σ vs as → ArL K T F σ (.ref p :: vs) (.r i :: as)
theorem ArL.mono {K : PySem.W.Frag} {T : Tb} {F F' : Hp} {σ : St} (e : Sub F F') : ∀ {vs : List V} {as : List Ar}, ArL K T F σ vs as → ArL K T F' σ vs as
  | _, _, .nil => .nil
  | _, _, .d h t => .d (h.mono e) (ArL.mono e t)
  | _, _, .r h t => .r h (ArL.mono e t)
section
variable {K : PySem.W.Frag} {T : Tb} {Mo : List Addr} {F H : Hp} {g : Fm} {σ : St}
theorem slots_len : ∀ {vs : List V} {as : List Ar} {ss : List Slot}, ArL K T F σ vs as → slotsOf g as = some ss → ss.length = vs.length
  | _, _, _, .nil, h => by cases h; rfl
  | _, .d x :: as, _, .d h t, e => by
    simp only [slotsOf] at e
    cases q : slotsOf g as with
    | none => rw [q] at e; cases e
    | some r => rw [q] at e; cases e; simp [slots_len t q]
  | _, .r i :: as, _, .r h t, e => by
    simp only [slotsOf] at e
    cases o : getO g i with
    | none => rw [o] at e; cases e
    | some o' =>
      rw [o] at e
      cases q : slotsOf g as with
      | none => rw [q] at e; cases e
      | some r => rw [q] at e; cases e; simp [slots_len t q]
theorem getO_eq {i : Nat} {o : O} (h : getO g i = some o) : g[i]? = some (.own o) := by
  unfold getO at h
  split at h
  · next q => cases h; exact q
  · cases h
theorem getD_eq {i : Nat} {d : D} (h : getD g i = some d) : g[i]? = some (.dat d) := by
  unfold getD at h
  split at h
  · next q => cases h; exact q
  · cases h
theorem getL_eq {i : Nat} {xs : List D} (h : getL g i = some xs) : g[i]? = some (.own (.lst xs)) := by
  unfold getL at h
  split at h
  · next q => cases h; exact q
  · cases h
/-- each slot that is handed on -/
theorem slots_at (r : Rl K T Mo F H g σ) : ∀ {vs : List V} {as : List Ar} {ss : List Slot}, ArL K T F σ vs as → slotsOf g as = some ss → ∀ (j : Nat) (s : Slot), ss[j]? = some s →
    (∃ d v, s = .dat d ∧ as[j]? = some (.d d) ∧ vs[j]? = some v ∧ Is K T F v d) ∨ (∃ i o p, s = .own o ∧ as[j]? = some (.r i) ∧ vs[j]? = some (.ref p) ∧ g[i]? = some (.own o) ∧ σ[i]? = some (some (.ref p)) ∧ F p = none ∧ Own K T F H p o)
  | _, _, _, .nil, h, j, s, q => by cases h; simp at q
  | _, .d x :: as, _, .d h t, e, j, s, hs => by
    simp only [slotsOf] at e
    cases q : slotsOf g as with
    | none => rw [q] at e; cases e
    | some ss' =>
      rw [q] at e; cases e
      cases j with
      | zero => simp at hs; subst hs; exact .inl ⟨x, _, rfl, rfl, rfl, h⟩
      | succ j => simpa using slots_at r t q j s (by simpa using hs)
  | _, .r i :: as, _, .r h t, e, j, s, hs => by
    simp only [slotsOf] at e
    cases o : getO g i with
    | none => rw [o] at e; cases e
    | some o' =>
      rw [o] at e
      cases q : slotsOf g as with
      | none => rw [q] at e; cases e
      | some ss' =>
        rw [q] at e; cases e
        cases j with
        | zero =>
          simp at hs; subst hs
          obtain ⟨p', e1, e2, e3⟩ := r.own (getO_eq o)
          rw [h] at e1; cases e1
          exact .inr ⟨i, o', _, rfl, rfl, rfl, getO_eq o, h, e2, e3⟩
        | succ j => simpa using slots_at r t q j s (by simpa using hs)
theorem mem_refs : ∀ {as : List Ar} {j i : Nat}, as[j]? = some (.r i) → i ∈ refsOf as
  | .d _ :: as, 0, _, h => by simp at h
  | .d _ :: as, j + 1, i, h => by simp only [refsOf]; exact mem_refs (j := j) (by simpa using h)
  | .r k :: as, 0, i, h => by simp at h; subst h; simp [refsOf]
  | .r k :: as, j + 1, i, h => by simp only [refsOf]; exact List.mem_cons_of_mem _ (mem_refs (j := j) (by simpa using h))
theorem refs_at : ∀ {as : List Ar} {i : Nat}, i ∈ refsOf as → ∃ j : Nat, as[j]? = some (Ar.r i)
  | .d _ :: as, i, h => by
    obtain ⟨j, e⟩ := refs_at (as := as) (by simpa [refsOf] using h)
    exact ⟨j + 1, by simpa using e⟩
  | .r k :: as, i, h => by
    simp only [refsOf] at h
    rcases List.mem_cons.mp h with e | e
    · subst e; exact ⟨0, rfl⟩
    · obtain ⟨j, q⟩ := refs_at e
      exact ⟨j + 1, by simpa using q⟩
theorem refs_inj : ∀ {as : List Ar} {j k i : Nat}, (refsOf as).Nodup → as[j]? = some (.r i) → as[k]? = some (.r i) → j = k
  | .d _ :: as, 0, _, _, _, h, _ => by simp at h
  | .d _ :: as, _ + 1, 0, _, _, _, h => by simp at h
  | .d _ :: as, j + 1, k + 1, i, nd, h1, h2 => by
    have := refs_inj (as := as) (j := j) (k := k) (by simpa [refsOf] using nd) (by simpa using h1) (by simpa using h2)
    omega
  | .r a :: as, 0, 0, i, nd, h1, h2 => rfl
  | .r a :: as, 0, k + 1, i, nd, h1, h2 => by
    simp only [refsOf, List.nodup_cons] at nd
    simp at h1; subst h1
    exact absurd (mem_refs (j := k) (by simpa using h2)) nd.1
  | .r a :: as, j + 1, 0, i, nd, h1, h2 => by
    simp only [refsOf, List.nodup_cons] at nd
    simp at h2; subst h2
    exact absurd (mem_refs (j := j) (by simpa using h1)) nd.1
  | .r a :: as, j + 1, k + 1, i, nd, h1, h2 => by
    simp only [refsOf, List.nodup_cons] at nd
    have := refs_inj (as := as) (j := j) (k := k) nd.2 (by simpa using h1) (by simpa using h2)
    omega
/-- the callee's frame at its entry -/
theorem Rl.enter {vs : List V} {as : List Ar} {ss : List Slot} (r : Rl K T Mo F H g σ) (a : ArL K T F σ vs as) (e : slotsOf g as = some ss) (nd : (refsOf as).Nodup) : Rl K T (Mo ++ ownsOf g σ (refsOf as)) F H ss (vs.map some) where
  sub := r.sub
  mo := fun p hp => by
    rcases List.mem_append.mp hp with h | h
    · exact r.mo p h
    · obtain ⟨i, _, ⟨o, h1⟩, h2⟩ := mem_ownsOf.mp h
      obtain ⟨q, e1, e2, e3⟩ := r.own h1
      rw [h2] at e1; cases e1
      exact ⟨e2, e3.there⟩
  len := by rw [List.length_map]; exact slots_len a e
  sl := fun j s hs => by
    rw [List.getElem?_map]
    rcases slots_at r a e j s hs with ⟨d, v, rfl, _, h2, h3⟩ | ⟨i, o, p, rfl, _, h2, _, _, h5, h6⟩
    · exact ⟨v, by rw [h2]; rfl, h3⟩
    · exact ⟨p, by rw [h2]; rfl, h5, h6⟩
  sep := fun j k p ⟨⟨o1, h1⟩, q1⟩ ⟨⟨o2, h2⟩, q2⟩ => by
    rw [List.getElem?_map] at q1 q2
    rcases slots_at r a e j _ h1 with ⟨d, v, z, _⟩ | ⟨i1, o, p1, _, a1, b1, c1, d1, _⟩
    · cases z
    rcases slots_at r a e k _ h2 with ⟨d, v, z, _⟩ | ⟨i2, o', p2, _, a2, b2, c2, d2, _⟩
    · cases z
    rw [b1] at q1; cases q1
    rw [b2] at q2; cases q2
    have := r.sep i1 i2 p ⟨⟨_, c1⟩, d1⟩ ⟨⟨_, c2⟩, d2⟩
    subst this
    exact refs_inj nd a1 a2
  out := fun j p ⟨⟨o1, h1⟩, q1⟩ hm => by
    rw [List.getElem?_map] at q1
    rcases slots_at r a e j _ h1 with ⟨d, v, z, _⟩ | ⟨i1, o, p1, _, a1, b1, c1, d1, _⟩
    · cases z
    rw [b1] at q1; cases q1
    have me : OwnAt g σ i1 p := ⟨⟨_, c1⟩, d1⟩
    rcases List.mem_append.mp hm with h | h
    · exact r.out i1 p me h
    · obtain ⟨i, hb, hi⟩ := mem_ownsOf.mp h
      have := r.sep i i1 p hi me
      subst this
      exact hb (mem_refs a1)
  tab := fun p hp => by
    obtain ⟨h1, h2⟩ := r.tab p hp
    refine ⟨fun hm => ?_, h2⟩
    rcases List.mem_append.mp hm with h | h
    · exact h1 h
    · obtain ⟨i, _, ⟨o, q1⟩, q2⟩ := mem_ownsOf.mp h
      obtain ⟨q, e1, _, e3⟩ := r.own q1
      rw [q2] at e1; cases e1
      exact e3.noTab h2 rfl
/-- what stands in slot i behind the call -/
theorem putBack_at : ∀ {as : List Ar} {ss : List Slot} {g : Fm} (i : Nat), as.length = ss.length → (refsOf as).Nodup →
    (i ∉ refsOf as → (putBack g as ss)[i]? = g[i]?) ∧ (∀ j : Nat, as[j]? = some (.r i) → i < g.length → (putBack g as ss)[i]? = ss[j]?)
  | [], ss, g, i, _, _ => by
    cases ss <;> exact ⟨fun _ => rfl, fun j h => by simp at h⟩
  | .d x :: as, [], g, i, h, _ => by simp at h
  | .r k :: as, [], g, i, h, _ => by simp at h
  | .d x :: as, s :: ss, g, i, h, nd => by
    have ih := putBack_at (as := as) (ss := ss) (g := g) i (by simpa using h) (by simpa [refsOf] using nd)
    refine ⟨fun q => by simp only [putBack]; exact ih.1 (by simpa [refsOf] using q), fun j hj hl => ?_⟩
    cases j with
    | zero => simp at hj
    | succ j => simp only [putBack]; rw [ih.2 j (by simpa using hj) hl]; simp
  | .r k :: as, s :: ss, g, i, h, nd => by
    simp only [refsOf, List.nodup_cons] at nd
    have ih := putBack_at (as := as) (ss := ss) (g := g.set k s) i (by simpa using h) nd.2
    refine ⟨fun q => ?_, fun j hj hl => ?_⟩
    · simp only [refsOf, List.mem_cons, not_or] at q
      simp only [putBack]
      rw [ih.1 q.2, List.getElem?_set_ne (fun z => q.1 z.symm)]
    · simp only [putBack]
      cases j with
      | zero =>
        simp at hj
        subst hj
        rw [ih.1 nd.1, List.getElem?_set_self hl]
        rfl
      | succ j =>
        rw [ih.2 j (by simpa using hj) (by simpa using hl)]
        simp
theorem putBack_len : ∀ {as : List Ar} {ss : List Slot} {g : Fm}, (putBack g as ss).length = g.length
  | [], ss, g => by cases ss <;> rfl
  | .d x :: as, [], g => rfl
  | .r k :: as, [], g => rfl
  | .d x :: as, s :: ss, g => by simp only [putBack]; exact putBack_len
  | .r k :: as, s :: ss, g => by simp only [putBack]; rw [putBack_len]; simp
theorem ArL.length : ∀ {vs : List V} {as : List Ar}, ArL K T F σ vs as → vs.length = as.length
  | _, _, .nil => rfl
  | _, _, .d _ t => by simp [ArL.length t]
  | _, _, .r _ t => by simp [ArL.length t]
theorem ArL.at_r : ∀ {vs : List V} {as : List Ar} {j i : Nat}, ArL K T F σ vs as → as[j]? = some (.r i) → ∃ p, vs[j]? = some (.ref p) ∧ σ[i]? = some (some (.ref p))
  | _, _, _, _, .nil, h => by simp at h
  | _, _, 0, _, .d _ _, h => by simp at h
  | _, _, j + 1, _, .d _ t, h => by simpa using ArL.at_r (j := j) t (by simpa using h)
  | _, _, 0, _, .r e _, h => by simp at h; subst h; exact ⟨_, rfl, e⟩
  | _, _, j + 1, _, .r _ t, h => by simpa using ArL.at_r (j := j) t (by simpa using h)
/-- the caller's frame behind the call -/
theorem Rl.leave {F1 H1 : Hp} {vs : List V} {as : List Ar} {ss ss' : List Slot} (r : Rl K T Mo F H g σ) (a : ArL K T F σ vs as) (e : slotsOf g as = some ss) (nd : (refsOf as).Nodup) (n : Nxt (Mo ++ ownsOf g σ (refsOf as)) F H F1 H1)
    (r1 : Rl K T (Mo ++ ownsOf g σ (refsOf as)) F1 H1 ss' (vs.map some)) : Rl K T Mo F1 H1 (putBack g as ss') σ ∧ Nxt Mo F H F1 H1 := by
  have hl : as.length = ss'.length := by
    have h1 := a.length
    have h2 := r1.len
    rw [List.length_map] at h2
    omega
  have back : ∀ i p, OwnAt (putBack g as ss') σ i p → (i ∉ refsOf as ∧ OwnAt g σ i p) ∨ ∃ j, as[j]? = some (.r i) ∧ OwnAt ss' (vs.map some) j p := fun i p ⟨⟨o, h1⟩, h2⟩ => by
    by_cases hi : i ∈ refsOf as
    · obtain ⟨j, hj⟩ := refs_at hi
      have lt : i < g.length := by
        have := (List.getElem?_eq_some_iff.mp h1).1
        rw [putBack_len] at this
        exact this
      rw [(putBack_at i hl nd).2 j hj lt] at h1
      obtain ⟨q, e1, e2⟩ := a.at_r hj
      rw [h2] at e2; cases e2
      exact .inr ⟨j, hj, ⟨o, h1⟩, by rw [List.getElem?_map, e1]; rfl⟩
    · rw [(putBack_at i hl nd).1 hi] at h1
      exact .inl ⟨hi, ⟨o, h1⟩, h2⟩
  refine ⟨⟨r1.sub, fun p hp => r1.mo p (List.mem_append_left _ hp), by rw [putBack_len]; exact r.len, fun i s hs => ?_, fun i k p hi hk => ?_, fun i p hi hm => ?_, fun p hp => ⟨fun h => (r1.tab p hp).1 (List.mem_append_left _ h), (r1.tab p hp).2⟩⟩, ⟨n.sub, fun p hp => n.mo p (List.mem_append_left _ hp)⟩⟩
  · by_cases hi : i ∈ refsOf as
    · obtain ⟨j, hj⟩ := refs_at hi
      have lt : i < g.length := by
        have := (List.getElem?_eq_some_iff.mp hs).1
        rw [putBack_len] at this
        exact this
      rw [(putBack_at i hl nd).2 j hj lt] at hs
      obtain ⟨q, e1, e2⟩ := a.at_r hj
      have z := r1.sl j s hs
      rw [List.getElem?_map, e1] at z
      rw [e2]
      exact z
    · rw [(putBack_at i hl nd).1 hi] at hs
      have z := r.sl i s hs
      cases s with
      | un => trivial
      | dat d => obtain ⟨v, a1, a2⟩ := z; exact ⟨v, a1, a2.mono n.sub⟩
      | own o =>
        obtain ⟨p, a1, a2, a3⟩ := z
        have hp : p ∈ Mo ++ ownsOf g σ (refsOf as) := List.mem_append_right _ (mem_ownsOf.mpr ⟨i, hi, ⟨o, hs⟩, a1⟩)
        exact ⟨p, a1, (r1.mo p hp).1, a3.mono n.sub (n.mo p hp)⟩
  · rcases back i p hi with ⟨a1, a2⟩ | ⟨j, a1, a2⟩
    · rcases back k p hk with ⟨b1, b2⟩ | ⟨m, b1, b2⟩
      · exact r.sep i k p a2 b2
      · exact absurd (List.mem_append_right _ (mem_ownsOf.mpr ⟨i, a1, a2⟩)) (r1.out m p b2)
    · rcases back k p hk with ⟨b1, b2⟩ | ⟨m, b1, b2⟩
      · exact absurd (List.mem_append_right _ (mem_ownsOf.mpr ⟨k, b1, b2⟩)) (r1.out j p a2)
      · have := r1.sep j m p a2 b2
        subst this
        rw [a1] at b1
        simpa using b1
  · rcases back i p hi with ⟨a1, a2⟩ | ⟨j, a1, a2⟩
    · exact r.out i p a2 hm
    · exact r1.out j p a2 (List.mem_append_left _ hm)
/-- a new own thing of a callee lies apart from the caller's -/
theorem new_apart {vs : List V} {as : List Ar} {ss' : List Slot} {p : Addr} (a : ArL K T F σ vs as) (nd : (refsOf as).Nodup) (hl : as.length = ss'.length) (h1 : p ∉ Mo ++ ownsOf g σ (refsOf as)) (h2 : ∀ i, ¬ OwnAt ss' (vs.map some) i p) :
    p ∉ Mo ∧ ∀ i, ¬ OwnAt (putBack g as ss') σ i p := by
  refine ⟨fun h => h1 (List.mem_append_left _ h), fun i ⟨⟨o, q1⟩, q2⟩ => ?_⟩
  by_cases hi : i ∈ refsOf as
  · obtain ⟨j, hj⟩ := refs_at hi
    have lt : i < g.length := by
      have := (List.getElem?_eq_some_iff.mp q1).1
      rw [putBack_len] at this
      exact this
    rw [(putBack_at i hl nd).2 j hj lt] at q1
    obtain ⟨q, e1, e2⟩ := a.at_r hj
    rw [q2] at e2; cases e2
    exact h2 j ⟨⟨o, q1⟩, by rw [List.getElem?_map, e1]; rfl⟩
  · rw [(putBack_at i hl nd).1 hi] at q1
    exact h1 (List.mem_append_right _ (mem_ownsOf.mpr ⟨i, hi, ⟨o, q1⟩, q2⟩))
/-- a thing apart is settled -/
theorem Rl.settleNew {p : Addr} {o : O} {d : D} (r : Rl K T Mo F H g σ) (h : Own K T F H p o) (hd : o.frz = some d) (hF : F p = none) (hM : p ∉ Mo) (hn : ∀ i, ¬ OwnAt g σ i p) :
    ∃ F', Rl K T Mo F' H g σ ∧ Nxt Mo F H F' H ∧ Is K T F' (.ref p) d := by
  obtain ⟨u, hu, is⟩ := h.settled hd hF
  refine ⟨upd F p u, ⟨r.sub.tell hu, fun a ha => ?_, r.len, fun i s hs => ?_, r.sep, r.out, fun q hq => ⟨(r.tab q hq).1, (r.tab q hq).2.step (Sub.new hF) (by rw [upd_ne (h.noTab (r.tab q hq).2)]; exact (r.tab q hq).2.1) rfl⟩⟩, Nxt.settle hF, is⟩
  · obtain ⟨h1, v, h2⟩ := r.mo a ha
    have ne : a ≠ p := fun z => hM (z ▸ ha)
    exact ⟨by rw [upd_ne ne]; exact h1, v, h2⟩
  · have z := r.sl i s hs
    cases s with
    | un => trivial
    | dat d => obtain ⟨v, a1, a2⟩ := z; exact ⟨v, a1, a2.mono (Sub.new hF)⟩
    | own o =>
      obtain ⟨q, a1, a2, a3⟩ := z
      have ne : q ≠ p := fun z => hn i ⟨⟨o, hs⟩, z ▸ a1⟩
      exact ⟨q, a1, by rw [upd_ne ne]; exact a2, a3.mono (Sub.new hF) rfl⟩
end
end DL

set_option Elab.async false
set_option linter.all false
set_option autoImplicit false
set_option maxRecDepth 100000
set_option maxHeartbeats 2000000
/-! DLi: the machine does what a term does: one lemma for each form. -/
namespace DL
open PySem L2

/-! ### side conditions -/
theorem star_cons {e : Expr} {es : List Expr} {env : Env} (h : plainX e = true) : starEach (e :: es) env = (false, eval e env) :: starEach es env := by
  cases e <;> first | rfl | cases h
def plainXs (es : List Expr) : Bool := es.all plainX
theorem star_any {pos : Pos} {env : Env} : ∀ {es : List Expr}, plainXs es = true → (backTo pos (starEach es env)).any (·.1) = false
  | [], _ => rfl
  | e :: es, h => by
    simp only [plainXs, List.all_cons, Bool.and_eq_true] at h
    rw [star_cons h.1]
    show (false || (backTo pos (starEach es env)).any (·.1)) = false
    rw [star_any (es := es) h.2]
    rfl
theorem base_plain {e : Expr} {n : Str} {env : Env} (h : plainO e = true) : attributeBase e n env (eval e env) = eval e env := by
  unfold attributeBase
  split
  · cases h
  · rfl
theorem ix_plain {e : Expr} (h : plainX e = true) : PlainIx e := fun o i => by
  cases e <;> first | rfl | cases h
theorem tru_plain {e : Expr} {env : Env} (h : plainT e = true) : ∀ whole, isTrue e env whole = (do let v ← whole; standAt e.pos; holding [v] (truthy v)) := fun whole => by
  cases e <;> first | rfl | cases h | skip
  rename_i op _ _
  cases op <;> first | rfl | cases h
theorem marks_plain {e : Expr} {op : CmpOp} (h : plainX e = true) : behindInMarks op e = false := by
  cases e <;> first | rfl | cases h
theorem fold_plain {e : Expr} {env : Env} (h : plainX e = true) : ∀ x, foldedSetIterable e env x = pure x := fun x => by
  cases e <;> first | rfl | cases h
theorem swap_plain {e : Expr} {t : Option Expr} {n : Nat} {env : Env} (h : plainX e = true) (h2 : noLC e = true) : swapsWith e t n env = pure false := by
  cases e <;> first | rfl | (cases h2; done) | (cases h; done)

/-! ### what each kind of syntax is to do -/
def wI (X : Cx) (tg iter : Expr) : TI := fun σ H R => ∀ (pins : List (Addr × Obj)) (s : Shared), Inv X pins σ H s → wpAny (model X.prog X.w) X.A (eval iter X.env) (fun v s1 => wpAny (model X.prog X.w) X.A (pyIter v) (PIE X pins σ tg R) X.xe s1) X.xe s
theorem pi_w {X : Cx} {tg iter : Expr} : PI X tg iter (wI X tg iter) := ⟨fun pins s _ _ _ I h => h pins s I⟩
theorem toI {X : Cx} {tg iter : Expr} {wi : TI} {σ : St} {H : Hp} {R : It → Hp → Prop} (h : PI X tg iter wi) (q : wi σ H R) : wI X tg iter σ H R := fun pins s I => h.run pins s σ H R I q
section
variable (X : Cx) (T : Tb)
def JE (e : Expr) (g : Fm) (r : Res D) : Prop := ∀ Mo F H σ Q W, Rl X.K T Mo F H g σ → L2.Takes X W → Cont X.K T Mo F H σ W r (fun d _ F' H' => ∀ v, Is X.K T F' v d → Q v H') → wE X e σ H Q
def JT (e : Expr) (g : Fm) (r : Res Bool) : Prop := ∀ Mo F H σ Q W, Rl X.K T Mo F H g σ → L2.Takes X W → Cont X.K T Mo F H σ W r (fun b _ _ H' => Q b H') → wT X e σ H Q
def JPW (e : Expr) (g : Fm) (r : Res Bool) : Prop := ∀ Mo F H σ Q W, Rl X.K T Mo F H g σ → L2.Takes X W → Cont X.K T Mo F H σ W r (fun b _ _ H' => Q b H') → wPW X e σ H Q
def JL (es : List Expr) (g : Fm) (r : Res (List D)) : Prop := ∀ Mo F H σ Q W, Rl X.K T Mo F H g σ → L2.Takes X W → Cont X.K T Mo F H σ W r (fun ds _ F' H' => ∀ vs, IsL X.K T F' vs ds → Q vs H') → wA X es σ H Q
def JA (es : List Expr) (g : Fm) (r : Res (List Ar)) : Prop := ∀ Mo F H σ Q W, Rl X.K T Mo F H g σ → L2.Takes X W → Cont X.K T Mo F H σ W r (fun as _ F' H' => ∀ vs, ArL X.K T F' σ vs as → Q vs H') → wA X es σ H Q
def wP (e : Option Expr) : TO := fun σ H Q => ∀ (pins : List (Addr × Obj)) (s : Shared), Inv X pins σ H s → wpAny (model X.prog X.w) X.A (evalPart e X.env) (fun u s' => ∃ o H', Inv X pins σ H' s' ∧ IsPart u o ∧ Q o H') X.xe s
def JP (e : Option Expr) (g : Fm) (r : Res (Option Int)) : Prop := ∀ Mo F H σ Q W, Rl X.K T Mo F H g σ → L2.Takes X W → Cont X.K T Mo F H σ W r (fun o _ _ H' => Q o H') → wP X e σ H Q
end
/-- J walks ds, as long as Ok holds -/
def Wk (K : PySem.W.Frag) (T : Tb) (J : It) (ds : List D) (Ok : Hp → Hp → Prop) : Prop := ∀ i F H, Ok F H → Sub F H →
  (∀ d, ds[i]? = some d → J.go i H ∧ ∀ x H', J.yld i H x H' → ∃ F', Alc F H F' H' ∧ Is K T F' x d) ∧ (ds.length ≤ i → J.stop i H)
def OkI (K : PySem.W.Frag) (T : Tb) (it : It') (σ : St) (F0 : Hp) (ds : List D) (F H : Hp) : Prop := match it with
  | .own i => ∃ p, σ[i]? = some (some (.ref p)) ∧ Own K T F H p (.lst ds)
  | _ => Sub F0 F
def JI (X : Cx) (T : Tb) (it : It') (tg e : Expr) (g : Fm) (r : Res (List D)) : Prop := ∀ Mo F H σ (R : It → Hp → Prop) W, Rl X.K T Mo F H g σ → L2.Takes X W →
  Cont X.K T Mo F H σ W r (fun ds g' F' H' => ∀ J, Wk X.K T J ds (OkI X.K T it σ F' ds) → ds.length ≤ sizeLine → (∀ i, it.keep = some i → g'[i]? = some (.own (.lst ds))) → R J H') → wI X tg e σ H R

section
variable {X : Cx} {T : Tb} {g : Fm}
theorem po_w {e : Option Expr} : PO X e (wP X e) := ⟨fun pins s _ _ _ I h => h pins s I⟩
theorem toP {e : Option Expr} {t : TO} {σ : St} {H : Hp} {Q : Option Int → Hp → Prop} (h : PO X e t) (q : t σ H Q) : wP X e σ H Q := fun pins s I => h.run pins s σ H Q I q
/-- lists and tuples have their size -/
theorem wE_len {e : Expr} {σ : St} {H : Hp} {Q : VK} (h : wE X e σ H (fun v H1 => (∀ a xs, (SqL X.K H1 a xs ∨ SqT X.K H1 a xs) → xs.length ≤ sizeLine) → Q v H1)) : wE X e σ H Q := fun pins s I =>
  thn (h pins s I) fun u s1 ⟨v, H1, I1, r1, q⟩ => ⟨v, H1, I1, r1, q fun a xs z => by
    rcases z with z | z
    · obtain ⟨_, _, _, l⟩ := I1.list z; exact l
    · obtain ⟨_, _, _, l⟩ := I1.tuple z; exact l⟩
theorem j_var {N : List Str} {sc : Scope} {i : Nat} {e : Expr} (hN : X.N = N) (hs : X.env.scope = sc) (c : ckVar N sc i e = true) {σ : St} {H : Hp} {Q : VK} {v : V} (h : σ[i]? = some (some v)) (q : Q v H) : wE X e σ H Q := by
  unfold ckVar at c
  split at c
  · next x hx =>
    obtain ⟨p, rfl⟩ := vName_eq hx
    simp only [Bool.and_eq_true, decide_eq_true_eq, isVis, Bool.not_eq_true'] at c
    obtain ⟨c1, ⟨c2, c3⟩, c4⟩ := c
    exact toE (pe_var (by rw [hN]; exact c1) (by unfold Vis; rw [hs]; exact c2) c3 c4) ⟨v, h, q⟩
  · cases c
theorem gl_of {sc : Scope} {x : Str} (hs : X.env.scope = sc) (h : isGl sc x = true) : Gl X x ∧ (x == ("__debug__" : Str)) = false := by
  simp only [isGl, Bool.and_eq_true, decide_eq_true_eq, Bool.not_eq_true'] at h
  exact ⟨by unfold Gl Env.kindOf; rw [hs]; exact h.1, h.2⟩
theorem ckGl_eq {sc : Scope} {x : Str} {e : Expr} (h : ckGl sc x e = true) : ∃ p, e = .Name x p ∧ isGl sc x = true := by
  unfold ckGl at h
  split at h
  · next y hy =>
    obtain ⟨p, rfl⟩ := vName_eq hy
    simp only [Bool.and_eq_true, decide_eq_true_eq] at h
    obtain ⟨rfl, h2⟩ := h
    exact ⟨p, rfl, h2⟩
  · cases h
theorem je_var {N : List Str} {sc : Scope} {i : Nat} {e : Expr} (hN : X.N = N) (hs : X.env.scope = sc) (c : ckVar N sc i e = true) : JE X T e g (opt g (getD g i)) := by
  intro Mo F H σ Q W r tk k
  obtain ⟨d, hd, k⟩ := Cont.opt k
  obtain ⟨v, e1, e2⟩ := r.dat (getD_eq hd)
  exact j_var hN hs c e1 (k F H Nxt.same r v e2)
theorem je_cst {e : Expr} {c d : D} (h : vCst e = some c) (h2 : eqC c d = true) : JE X T e g (.ok d g) := by
  intro Mo F H σ Q W r tk k
  have := eqC_eq h2
  subst this
  have k : ∀ v, Is X.K T F v c → Q v H := k F H Nxt.same r
  unfold vCst at h
  split at h
  · cases h; exact toE pe_int (k _ (.int _))
  · cases h; exact toE pe_str (k _ (.str _))
  · cases h; exact toE pe_bl (k _ (.bl _))
  · cases h; exact toE pe_non (k _ .non)
  · cases h; exact toE (pe_un un_neg pe_int) ⟨_, rfl, k _ (.int _)⟩
  · cases h
theorem je_bin {a b : Expr} {o : Bo} {p : Pos} {ra : Res D} {rb : Fm → Res D} (ha : JE X T a g ra) (hb : ∀ g1, JE X T b g1 (rb g1)) : JE X T (.BinOp a o.op b p) g (ra.bind fun x g1 => (rb g1).bind fun y g2 => opt g2 (binD o x y)) := by
  intro Mo F H σ Q W r tk k
  refine toE (pe_op op_w pe_w pe_w) (ha Mo F H σ _ W r tk (Cont.bind k fun x g1 F1 H1 _ n1 r1 k => fun u hu => ?_))
  refine hb g1 Mo F1 H1 σ _ W r1 tk (Cont.bind k fun y g2 F2 H2 _ n2 r2 k => fun v hv => ?_)
  obtain ⟨d, hd, k⟩ := Cont.opt k
  refine binD_ok hd (hu.mono n2.sub) hv r2.sub fun F3 H3 w al hw => ?_
  obtain ⟨r3, n3⟩ := al.rl r2
  exact k F3 H3 n3 r3 w hw
theorem cmp_core {a b : Expr} {o : Co} {p : Pos} {ra : Res D} {rb : Fm → Res D} (hu : X.A.units + 64 < cLine) (ha : JE X T a g ra) (hb : ∀ g1, JE X T b g1 (rb g1)) {Mo : List Addr} {F H : Hp} {σ : St} {Q : VK} {W : WX} (r : Rl X.K T Mo F H g σ) (tk : L2.Takes X W)
    (k : Cont X.K T Mo F H σ W (ra.bind fun x g1 => (rb g1).bind fun y g2 => opt g2 (if noDic o y then cmpD o x y else none)) (fun c _ _ H' => Q (.bl c) H')) : tOp (wB X (compareOp o.op)) (wE X a) (wE X b) σ H Q := by
  refine ha Mo F H σ _ W r tk (Cont.bind k fun x g1 F1 H1 _ n1 r1 k => fun u hu' => ?_)
  refine hb g1 Mo F1 H1 σ _ W r1 tk (Cont.bind k fun y g2 F2 H2 _ n2 r2 k => fun v hv => ?_)
  obtain ⟨c, hc, k⟩ := Cont.opt k
  split at hc
  · next nd => exact cmpD_ok hu hc nd (hu'.mono n2.sub) hv r2.sub (k F2 H2 Nxt.same r2)
  · cases hc
theorem je_cmp {a b : Expr} {o : Co} {p : Pos} {ra : Res D} {rb : Fm → Res D} (hu : X.A.units + 64 < cLine) (hx : plainX b = true) (ha : JE X T a g ra) (hb : ∀ g1, JE X T b g1 (rb g1)) :
    JE X T (.Compare a [o.op] [b] p) g (ra.bind fun x g1 => (rb g1).bind fun y g2 => opt g2 (if noDic o y then (cmpD o x y).map .bl else none)) := by
  intro Mo F H σ Q W r tk k
  refine toE (pe_cmpR op_w pe_w pe_w (marks_plain hx)) (cmp_core (p := p) hu ha hb r tk ?_)
  refine Cont.imp (r := ra.bind _) (P := fun c _ _ H' => Q (.bl c) H') ?_ fun _ _ _ _ _ _ _ q => q
  cases ra with
  | ok x g1 =>
    simp only [Res.bind] at k ⊢
    cases e : rb g1 with
    | ok y g2 =>
      rw [e] at k
      simp only [Res.bind] at k ⊢
      split
      · next nd =>
        rw [if_pos nd] at k
        cases e2 : cmpD o x y with
        | none => rw [e2] at k; exact k.elim
        | some c => rw [e2] at k; exact fun F' H' n r => k F' H' n r _ (.bl c)
      · next nd => rw [if_neg nd] at k; exact k.elim
    | exc z g2 => rw [e] at k; exact k
    | stuck => rw [e] at k; exact k
  | exc z g1 => exact k
  | stuck => exact k
theorem jt_cmp {a b : Expr} {o : Co} {p : Pos} {ra : Res D} {rb : Fm → Res D} (hu : X.A.units + 64 < cLine) (hx : plainX b = true) (ha : JE X T a g ra) (hb : ∀ g1, JE X T b g1 (rb g1)) :
    JT X T (.Compare a [o.op] [b] p) g (ra.bind fun x g1 => (rb g1).bind fun y g2 => opt g2 (if noDic o y then cmpD o x y else none)) := by
  intro Mo F H σ Q W r tk k
  refine toT (pt_cmpR op_w pe_w pe_w (marks_plain hx)) ?_
  refine cmp_core (p := p) hu ha hb r tk ?_
  exact Cont.imp k fun c _ _ _ _ _ _ q => ⟨c, rfl, q⟩
theorem je_nt {a : Expr} {p : Pos} {ra : Res D} (ha : JE X T a g ra) : JE X T (.UnaryOp .Not a p) g (ra.bind fun x g1 => opt g1 ((blD x).map fun b => .bl !b)) := by
  intro Mo F H σ Q W r tk k
  refine toE (pe_not pe_w) (ha Mo F H σ _ W r tk (Cont.bind k fun x g1 F1 H1 _ n1 r1 k => fun u hu => ?_))
  obtain ⟨d, hd, k⟩ := Cont.opt k
  cases hu <;> simp only [blD] at hd <;> first | cases hd | skip
  exact ⟨_, rfl, k F1 H1 Nxt.same r1 _ (.bl _)⟩
theorem je_ife {c a b : Expr} {p : Pos} {rc : Res Bool} {ra rb : Fm → Res D} (hc : JT X T c g rc) (ha : ∀ g1, JE X T a g1 (ra g1)) (hb : ∀ g1, JE X T b g1 (rb g1)) : JE X T (.IfExp c a b p) g (rc.bind fun t g1 => if t then ra g1 else rb g1) := by
  intro Mo F H σ Q W r tk k
  refine toE (pe_ifExp pt_w pe_w pe_w) (hc Mo F H σ _ W r tk (Cont.bind k fun t g1 F1 H1 _ n1 r1 k => ?_))
  cases t with
  | true => exact ha g1 Mo F1 H1 σ Q W r1 tk k
  | false => exact hb g1 Mo F1 H1 σ Q W r1 tk k
theorem je_tup {es : List Expr} {n : Nat} {p : Pos} {rs : Res (List D)} (h : JL X T es g rs) (hl : ∀ ds g1, rs = .ok ds g1 → ds.length ≤ 1000) : JE X T (.Tuple es n p) g (rs.bind fun ds g1 => .ok (.tup ds) g1) := by
  intro Mo F H σ Q W r tk k
  refine toE (pe_tup pa_w) (h Mo F H σ _ W r tk (Cont.bind k fun ds g1 F1 H1 e n1 r1 k => fun vs hv => ⟨?_, fun q hq => ?_⟩))
  · rw [hv.length]; exact Nat.le_trans (hl ds g1 e) (by decide)
  · exact k _ _ (Nxt.new r1 hq) (r1.new hq) _ (.tup (SqT.of upd_same) (hv.mono (Sub.new (r1.sub.free hq))))
/-- a new list, not settled yet -/
def JF (X : Cx) (T : Tb) (e : Expr) (g : Fm) (r : Res D) : Prop := ∀ Mo F H σ Q W, Rl X.K T Mo F H g σ → L2.Takes X W →
  Cont X.K T Mo F H σ W r (fun d g' F' H' => ∀ p vs ds, d = .lst ds → F' p = none → p ∉ Mo → (∀ i, ¬ OwnAt g' σ i p) → H' p = some (.lst vs) → IsL X.K T F' vs ds → Q (.ref p) H') → wE X e σ H Q
theorem JF.je {e : Expr} {r : Res D} (h : JF X T e g r) : JE X T e g r := by
  intro Mo F H σ Q W r0 tk k
  refine h Mo F H σ Q W r0 tk ?_
  cases r with
  | stuck => exact k
  | exc x g1 => exact k
  | ok d g1 =>
    intro F1 H1 n1 r1 p vs ds e1 hF hM hn hp hv
    subst e1
    obtain ⟨F2, r2, n2, is⟩ := r1.settleNew (o := .lst ds) ⟨vs, hp, hv⟩ rfl hF hM hn
    exact k F2 H1 (n1.trans n2) r2 _ is
/-- an address that is free lies apart -/
theorem Rl.apart {Mo : List Addr} {F H : Hp} {σ : St} {p : Addr} (r : Rl X.K T Mo F H g σ) (h : H p = none) : F p = none ∧ p ∉ Mo ∧ ∀ i, ¬ OwnAt g σ i p := by
  refine ⟨r.sub.free h, fun m => ?_, fun i ⟨⟨o, h1⟩, h2⟩ => ?_⟩
  · obtain ⟨_, o, e⟩ := r.mo p m
    rw [h] at e; cases e
  · obtain ⟨q, e1, _, e3⟩ := r.own h1
    rw [h2] at e1; cases e1
    obtain ⟨u, e⟩ := e3.there
    rw [h] at e; cases e
theorem jf_lst {es : List Expr} {p : Pos} {rs : Res (List D)} (h : JL X T es g rs) (hl : ∀ ds g1, rs = .ok ds g1 → ds.length ≤ 1000) : JF X T (.List es p) g (rs.bind fun ds g1 => .ok (.lst ds) g1) := by
  intro Mo F H σ Q W r tk k
  refine toE (pe_lst pa_w) (h Mo F H σ _ W r tk (Cont.bind k fun ds g1 F1 H1 e n1 r1 k => fun vs hv => ⟨?_, fun q hq => ?_⟩))
  · rw [hv.length]; exact Nat.le_trans (hl ds g1 e) (by decide)
  · obtain ⟨a1, a2, a3⟩ := r1.apart hq
    exact k _ _ (Nxt.newO r1 hq) (r1.newO hq) q vs ds rfl a1 a2 a3 upd_same hv
theorem je_idx {a b : Expr} {p : Pos} {ra : Res D} {rb : Fm → Res D} (hx : plainX b = true) (ha : JE X T a g ra) (hb : ∀ g1, JE X T b g1 (rb g1)) : JE X T (.Subscript a b p) g (ra.bind fun x g1 => (rb g1).bind fun y g2 => opt g2 (idxD x y)) := by
  intro Mo F H σ Q W r tk k
  refine toE (pe_ix ix_seq pe_w pe_w (ix_plain hx)) (ha Mo F H σ _ W r tk (Cont.bind k fun x g1 F1 H1 _ n1 r1 k => fun u hu => ?_))
  refine hb g1 Mo F1 H1 σ _ W r1 tk (Cont.bind k fun y g2 F2 H2 _ n2 r2 k => fun v hv => ?_)
  obtain ⟨d, hd, k⟩ := Cont.opt k
  exact idxD_ok hd (hu.mono n2.sub) hv r2.sub fun w hw => k F2 H2 Nxt.same r2 w hw
theorem jp_no : JP X T none g (.ok none g) := by
  intro Mo F H σ Q W r tk k
  exact toP po_none (k F H Nxt.same r)
theorem jp_at {e : Expr} {re : Res D} (h : JE X T e g re) : JP X T (some e) g (re.bind fun x g1 => opt g1 ((intD x).map some)) := by
  intro Mo F H σ Q W r tk k
  refine toP (po_some pe_w) (h Mo F H σ _ W r tk (Cont.bind k fun x g1 F1 H1 _ n1 r1 k => fun u hu => ?_))
  obtain ⟨d, hd, k⟩ := Cont.opt k
  cases hu <;> simp only [intD] at hd <;> first | cases hd | skip
  exact ⟨_, rfl, k F1 H1 Nxt.same r1⟩
theorem je_slc {a : Expr} {lo hi : Option Expr} {p p2 : Pos} {ra : Res D} {rl rh : Fm → Res (Option Int)} (ha : JE X T a g ra) (hl : ∀ g1, JP X T lo g1 (rl g1)) (hh : ∀ g1, JP X T hi g1 (rh g1)) :
    JE X T (.Subscript a (.Slice lo hi none p2) p) g (ra.bind fun x g1 => (rl g1).bind fun l g2 => (rh g2).bind fun h g3 => opt g3 (slcD x l h)) := by
  intro Mo F H σ Q W r tk k
  refine toE (pe_slice sl_any pe_w po_w po_w) (ha Mo F H σ _ W r tk (Cont.bind k fun x g1 F1 H1 _ n1 r1 k => fun u hu => ?_))
  refine hl g1 Mo F1 H1 σ _ W r1 tk (Cont.bind k fun l g2 F2 H2 _ n2 r2 k => ?_)
  refine hh g2 Mo F2 H2 σ _ W r2 tk (Cont.bind k fun h g3 F3 H3 _ n3 r3 k => ?_)
  obtain ⟨d, hd, k⟩ := Cont.opt k
  refine slcD_ok hd (hu.mono (n2.trans n3).sub) r3.sub fun F4 H4 w al hw => ?_
  obtain ⟨r4, n4⟩ := al.rl r3
  exact k F4 H4 n4 r4 w hw
theorem jl_nil : JL X T [] g (.ok [] g) := by
  intro Mo F H σ Q W r tk k
  exact toA pa_nil (k F H Nxt.same r [] .nil)
theorem jl_cons {e : Expr} {es : List Expr} {re : Res D} {rr : Fm → Res (List D)} (hx : plainX e = true) (h : JE X T e g re) (hr : ∀ g1, JL X T es g1 (rr g1)) : JL X T (e :: es) g (re.bind fun x g1 => (rr g1).bind fun xs g2 => .ok (x :: xs) g2) := by
  intro Mo F H σ Q W r tk k
  refine toA (pa_cons pe_w pa_w (star_cons hx)) (h Mo F H σ _ W r tk (Cont.bind k fun x g1 F1 H1 _ n1 r1 k => fun u hu => ?_))
  refine hr g1 Mo F1 H1 σ _ W r1 tk (Cont.bind k fun xs g2 F2 H2 _ n2 r2 k => fun vs hv => ?_)
  exact k F2 H2 Nxt.same r2 (u :: vs) (.cons (hu.mono n2.sub) hv)
theorem ja_nil : JA X T [] g (.ok [] g) := by
  intro Mo F H σ Q W r tk k
  exact toA pa_nil (k F H Nxt.same r [] .nil)
theorem ja_val {e : Expr} {es : List Expr} {re : Res D} {rr : Fm → Res (List Ar)} (hx : plainX e = true) (h : JE X T e g re) (hr : ∀ g1, JA X T es g1 (rr g1)) : JA X T (e :: es) g (re.bind fun x g1 => (rr g1).bind fun xs g2 => .ok (.d x :: xs) g2) := by
  intro Mo F H σ Q W r tk k
  refine toA (pa_cons pe_w pa_w (star_cons hx)) (h Mo F H σ _ W r tk (Cont.bind k fun x g1 F1 H1 _ n1 r1 k => fun u hu => ?_))
  refine hr g1 Mo F1 H1 σ _ W r1 tk (Cont.bind k fun xs g2 F2 H2 _ n2 r2 k => fun vs hv => ?_)
  exact k F2 H2 Nxt.same r2 (u :: vs) (.d (hu.mono n2.sub) hv)
theorem ja_ref {N : List Str} {sc : Scope} {i : Nat} {e : Expr} {es : List Expr} {rr : Fm → Res (List Ar)} (hN : X.N = N) (hs : X.env.scope = sc) (c : ckVar N sc i e = true) (hr : ∀ g1, JA X T es g1 (rr g1)) :
    JA X T (e :: es) g (match getO g i with
      | some _ => (rr g).bind fun xs g2 => .ok (.r i :: xs) g2
      | none => .stuck) := by
  intro Mo F H σ Q W r tk k
  cases o : getO g i with
  | none => rw [o] at k; exact k.elim
  | some o' =>
    rw [o] at k
    obtain ⟨p, e1, _, _⟩ := r.own (getO_eq o)
    have hx : plainX e = true := by
      unfold ckVar at c
      split at c
      · next x hx => obtain ⟨_, rfl⟩ := vName_eq hx; rfl
      · cases c
    refine toA (pa_cons pe_w pa_w (star_cons hx)) (j_var hN hs c e1 ?_)
    refine hr g Mo F H σ _ W r tk (Cont.bind k fun xs g2 F2 H2 _ n2 r2 k => fun vs hv => ?_)
    exact k F2 H2 Nxt.same r2 _ (.r e1 hv)
theorem je_bif {G : Sg} {con : Nat → Option D} {call : Nat → List Slot → CRes} {n : Nat} {b : Bf} {e : Expr} {es : List Expr} {q p : Pos} {rs : Res (List D)} {sc : Scope} (gd : Gd G con call T n X) (hs : X.env.scope = sc) (hg : isGl sc b.name = true) (hp : plainXs (e :: es) = true)
    (h : JL X T (e :: es) g rs) : JE X T (.Call (.Name b.name q) (e :: es) [] p) g (rs.bind fun ds g1 => opt g1 (bifD b ds)) := by
  intro Mo F H σ Q W r tk k
  obtain ⟨g1, g2⟩ := gl_of hs hg
  simp only [plainXs, List.all_cons, Bool.and_eq_true] at hp
  have fin : ∀ r', PE X (.Call (.Name b.name q) (e :: es) [] p) (tCB (wC X b.val) (wA X (e :: es))) → r' = () → wE X (.Call (.Name b.name q) (e :: es) [] p) σ H Q := fun _ pe _ => by
    refine toE pe (h Mo F H σ _ W r tk (Cont.bind k fun ds g1 F1 H1 _ n1 r1 k => fun vs hv => ?_))
    obtain ⟨d, hd, k⟩ := Cont.opt k
    refine bifD_ok gd.calm hd hv r1.sub fun F4 H4 w al hw => ?_
    obtain ⟨r4, n4⟩ := al.rl r1
    exact k F4 H4 n4 r4 w hw
  refine fin () ?_ rfl
  have hm := gd.bi b
  have hb := b.boot
  have ho := b.own
  have hd := b.dbg
  cases b <;> first
    | exact pe_callB cr_w g1 hm hb pa_w ho hd (star_cons hp.1) (star_any hp.2)
    | exact pe_callTy cr_w g1 hm hb pa_w ho hd (star_cons hp.1) (star_any hp.2)
theorem je_met {m : Me} {a b : Expr} {ap p : Pos} {ra : Res D} {rb : Fm → Res D} (ho : plainO a = true) (hx : plainX b = true) (hl : (ap.endLine == p.line) = true) (ha : JE X T a g ra) (hb : ∀ g1, JE X T b g1 (rb g1)) :
    JE X T (.Call (.Attribute a m.name ap) [b] [] p) g (ra.bind fun x g1 => match x with
      | .str z => (rb g1).bind fun y g2 => opt g2 (metD m z y)
      | _ => .stuck) := by
  intro Mo F H σ Q W r tk k
  refine toE (pe_m1 m.slot m.ty mt_w pe_w pe_w (by rw [star_cons hx]; rfl) (base_plain ho) hl) (ha Mo F H σ _ W r tk (Cont.bind k fun x g1 F1 H1 _ n1 r1 k => fun u hu => ?_))
  cases hu with
  | str z =>
    refine ⟨⟨z, rfl⟩, hb g1 Mo F1 H1 σ _ W r1 tk (Cont.bind k fun y g2 F2 H2 _ n2 r2 k => fun v hv => ?_)⟩
    obtain ⟨d, hd, k⟩ := Cont.opt k
    refine metD_ok hd hv r2.sub fun F4 H4 w al hw => ?_
    obtain ⟨r4, n4⟩ := al.rl r2
    exact k F4 H4 n4 r4 w hw
  | _ => exact k.elim
/-- the types written in a tuple -/
theorem tys_pa {sc : Scope} (ht : ∀ t : Ty, X.mg t.key = none) (hs : X.env.scope = sc) : ∀ {ts : List Ty} {cs : List Expr}, tysCk sc ts cs = true → plainXs cs = true ∧ PA X cs (fun _ H Q => Q (ts.map fun t => V.ty t.name) H)
  | [], [], _ => ⟨rfl, pa_nil⟩
  | t :: ts, c :: cs, h => by
    simp only [tysCk, Bool.and_eq_true, tyCk] at h
    obtain ⟨h1, h2⟩ := h
    obtain ⟨p, rfl, hg⟩ := ckGl_eq h1
    obtain ⟨g1, g2⟩ := gl_of hs hg
    obtain ⟨i1, i2⟩ := tys_pa ht hs h2
    refine ⟨by simp only [plainXs, List.all_cons, Bool.and_eq_true]; exact ⟨rfl, i1⟩, ?_⟩
    exact pa_cons (pe_bltn (v := .ty t.name) g1 (ht t) t.boot rfl t.own t.dbg) i2
theorem je_isiT {G : Sg} {con : Nat → Option D} {call : Nat → List Slot → CRes} {n m : Nat} {a : Expr} {cs : List Expr} {q p p2 : Pos} {ts : List Ty} {ra : Res D} {sc : Scope} (gd : Gd G con call T n X) (hs : X.env.scope = sc) (hg : isGl sc "isinstance" = true) (hx : plainX a = true) (hc : tysCk sc ts cs = true) (hl : cs.length ≤ 100)
    (ha : JE X T a g ra) : JE X T (.Call (.Name "isinstance" q) [a, .Tuple cs m p2] [] p) g (ra.bind fun x g1 => opt g1 ((isiD x ts).map .bl)) := by
  intro Mo F H σ Q W r tk k
  obtain ⟨g1, g2⟩ := gl_of hs hg
  obtain ⟨t1, t2⟩ := tys_pa gd.ty hs hc
  refine toE (pe_callB cr_w g1 gd.lib.2.2.1 PyProof.Rows.boot_isinstance (pa_cons pe_w (pa_cons (pe_tup t2) pa_nil) (star_cons hx)) (by decide +kernel) g2 (star_cons hx) (by rfl)) ?_
  refine ha Mo F H σ _ W r tk (Cont.bind k fun x g1 F1 H1 _ n1 r1 k => fun u hu => ⟨?_, fun tp htp => ?_⟩)
  · rw [List.length_map]
    have : ts.length = cs.length := by
      have go : ∀ {ts : List Ty} {cs : List Expr}, tysCk sc ts cs = true → ts.length = cs.length := by
        intro ts
        induction ts with
        | nil => intro cs h; cases cs <;> first | rfl | cases h
        | cons t ts ih =>
          intro cs h
          cases cs with
          | nil => cases h
          | cons c cs =>
            simp only [tysCk, Bool.and_eq_true] at h
            simp [ih h.2]
      exact go hc
    exact Nat.le_trans (by omega) (by decide : 100 ≤ sizeLine)
  · obtain ⟨b, hb, k⟩ := Cont.opt k
    cases e : isiD x ts with
    | none => rw [e] at hb; cases hb
    | some c =>
      rw [e] at hb
      cases hb
      exact isiT_ok e hu (r1.newO htp).sub upd_same (k F1 _ (Nxt.newO r1 htp) (r1.newO htp) _ (.bl _))
theorem je_isi1 {G : Sg} {con : Nat → Option D} {call : Nat → List Slot → CRes} {n : Nat} {a c : Expr} {q p : Pos} {t : Ty} {ra : Res D} {sc : Scope} (gd : Gd G con call T n X) (hs : X.env.scope = sc) (hg : isGl sc "isinstance" = true) (hx : plainX a = true) (hc : tyCk sc t c = true)
    (ha : JE X T a g ra) : JE X T (.Call (.Name "isinstance" q) [a, c] [] p) g (ra.bind fun x g1 => opt g1 ((isiD x [t]).map .bl)) := by
  intro Mo F H σ Q W r tk k
  obtain ⟨g1, g2⟩ := gl_of hs hg
  obtain ⟨p3, rfl, hg3⟩ := ckGl_eq (show ckGl sc t.key c = true from hc)
  obtain ⟨g3, g4⟩ := gl_of hs hg3
  refine toE (pe_callB cr_w g1 gd.lib.2.2.1 PyProof.Rows.boot_isinstance (pa_cons pe_w (pa_cons (pe_bltn (v := .ty t.name) g3 (gd.ty t) t.boot rfl t.own t.dbg) pa_nil) (star_cons hx)) (by decide +kernel) g2 (star_cons hx) (by rfl)) ?_
  refine ha Mo F H σ _ W r tk (Cont.bind k fun x g1 F1 H1 _ n1 r1 k => fun u hu => ?_)
  obtain ⟨b, hb, k⟩ := Cont.opt k
  cases e : isiD x [t] with
  | none => rw [e] at hb; cases hb
  | some c =>
    rw [e] at hb
    cases hb
    exact isi1_ok e hu r1.sub (k F1 _ Nxt.same r1 _ (.bl _))
/-! ### a call of a def -/
theorem call_core {G : Sg} {con : Nat → Option D} {call : Nat → List Slot → CRes} {n k : Nat} {x : Str} {es : List Expr} {q p : Pos} {rs : Res (List Ar)} {sc : Scope} (gd : Gd G con call T n X) (hs : X.env.scope = sc) (hg : isGl sc x = true) (hk : G.fns k = some x) (hp : plainXs es = true) (hnil : es = [] → rs = .ok [] g)
    (h : JA X T es g rs) {Mo : List Addr} {F H : Hp} {σ : St} {Q : VK} {W : WX} (r : Rl X.K T Mo F H g σ) (tk : L2.Takes X W)
    (c : Cont X.K T Mo F H σ W (rs.bind fun ar g1 => callR call k ar g1) (fun rv g' F' H' => ∀ v, RVis X.K T Mo F' H' g' σ rv v → Q v H')) : wE X (.Call (.Name x q) es [] p) σ H Q := by
  obtain ⟨g1, g2⟩ := gl_of hs hg
  obtain ⟨f, fd, ps, hm, hkp, hb, ht, h6, hF⟩ := gd.fns k x hk
  have room' : Room (n - 6) X.A := gd.room.mono (Nat.sub_le _ _)
  -- what the callee is asked
  have core : ∀ ar g1 F1 H1 vs, Rl X.K T Mo F1 H1 g1 σ → ArL X.K T F1 σ vs ar → Cont X.K T Mo F1 H1 σ W (callR call k ar g1) (fun rv g' F' H' => ∀ v, RVis X.K T Mo F' H' g' σ rv v → Q v H') → spOf X.K T (call k) vs H1 Q (WE W σ) := by
    intro ar g1 F1 H1 vs r1 hv c
    unfold callR at c
    cases e : slotsOf g1 ar with
    | none => rw [e] at c; exact c.elim
    | some ss =>
      rw [e] at c
      simp only at c
      split at c
      · next nd =>
        refine ⟨Mo ++ ownsOf g1 σ (refsOf ar), F1, ss, r1.enter hv e nd, ?_⟩
        cases e2 : call k ss with
        | stuck => rw [e2] at c; exact c.elim
        | ok rv ss' =>
          rw [e2] at c
          intro F2 H2 v n2 r2 hr
          obtain ⟨r3, n3⟩ := r1.leave hv e nd n2 r2
          refine c F2 H2 n3 r3 v ?_
          cases rv with
          | dat d => exact hr
          | own o =>
            obtain ⟨p, rfl, hF2, ho, hM, hn⟩ := hr
            have hl : ar.length = ss'.length := by
              have h1 := hv.length
              have h2 := r2.len
              rw [List.length_map] at h2
              omega
            obtain ⟨a1, a2⟩ := new_apart hv nd hl hM hn
            exact ⟨p, rfl, hF2, ho, a1, a2⟩
        | exc z ss' =>
          rw [e2] at c
          intro F2 H2 C d n2 r2 hC hx
          obtain ⟨r3, n3⟩ := r1.leave hv e nd n2 r2
          exact c F2 H2 C d n3 r3 hC hx
      · exact c.elim
  cases es with
  | nil =>
    rw [hnil rfl] at c
    intro pins s I
    refine wpAny_Call_Name_kw (ld_glob I g1 hm ?_ g2)
    exact PySem.W.callWith_K0 I.kIn hkp (run_fnS (us := []) (vs := []) hF room' hb (fun pins H s e s' => passAt tk σ pins H s e s') I .nil (core [] g F H [] r .nil c))
  | cons e es =>
    simp only [plainXs, List.all_cons, Bool.and_eq_true] at hp
    refine toE (pe_callS hF room' g1 hm hkp hb (fun σ => passAt tk σ) pa_w g2 (star_cons hp.1) (star_any hp.2)) ?_
    exact h Mo F H σ _ W r tk (Cont.bind c fun ar g1 F1 H1 _ n1 r1 c => fun vs hv => core ar g1 F1 H1 vs r1 hv c)
end
end DL

set_option Elab.async false
set_option linter.all false
set_option autoImplicit false
set_option maxRecDepth 100000
set_option maxHeartbeats 2000000
/-! DLj: calls, tests, lent things, what is walked. -/
namespace DL
open PySem L2

theorem Res.bind_assoc {α β γ : Type} (r : Res α) (f : α → Fm → Res β) (h : β → Fm → Res γ) : (r.bind f).bind h = r.bind fun a g => (f a g).bind h := by cases r <;> rfl
section
variable {X : Cx} {T : Tb} {g : Fm}
theorem je_call {G : Sg} {con : Nat → Option D} {call : Nat → List Slot → CRes} {n k : Nat} {x : Str} {es : List Expr} {q p : Pos} {rs : Res (List Ar)} {sc : Scope} (gd : Gd G con call T n X) (hs : X.env.scope = sc) (hg : isGl sc x = true) (hk : G.fns k = some x) (hp : plainXs es = true) (hnil : es = [] → rs = .ok [] g)
    (h : JA X T es g rs) : JE X T (.Call (.Name x q) es [] p) g (rs.bind fun ar g1 => (callR call k ar g1).bind fun v g2 => frzV g2 v) := by
  intro Mo F H σ Q W r tk c
  rw [← Res.bind_assoc] at c
  refine call_core gd hs hg hk hp hnil h r tk (Cont.bind c fun rv g1 F1 H1 _ n1 r1 c => fun v hv => ?_)
  cases rv with
  | dat d => exact c F1 H1 Nxt.same r1 v hv
  | own o =>
    obtain ⟨p, rfl, a1, a2, a3, a4⟩ := hv
    obtain ⟨d, hd, c⟩ := Cont.opt (show Cont X.K T Mo F1 H1 σ W (opt g1 o.frz) _ from c)
    obtain ⟨F2, r2, n2, is⟩ := r1.settleNew a2 hd a1 a3 a4
    exact c F2 H1 n2 r2 _ is
/-! ### tests -/
theorem jt_is {e : Expr} {re : Res D} (hp : plainT e = true) (h : JE X T e g re) : JT X T e g (re.bind fun x g1 => opt g1 (blD x)) := by
  intro Mo F H σ Q W r tk k
  refine toT (pt_truth pe_w (tru_plain hp)) (h Mo F H σ _ W r tk (Cont.bind k fun x g1 F1 H1 _ n1 r1 k => fun u hu => ?_))
  obtain ⟨b, hb, k⟩ := Cont.opt k
  cases hu <;> simp only [blD] at hb <;> first | cases hb | skip
  exact ⟨_, rfl, k F1 H1 Nxt.same r1⟩
theorem jt_tru {e : Expr} {re : Res D} (hp : plainT e = true) (h : JE X T e g re) : JT X T e g (re.bind fun x g1 => opt g1 (truD x)) := by
  intro Mo F H σ Q W r tk k
  refine toT (pt_truth pe_w (tru_plain hp)) (h Mo F H σ _ W r tk (Cont.bind k fun x g1 F1 H1 _ n1 r1 k => fun u hu => ?_))
  obtain ⟨b, hb, k⟩ := Cont.opt k
  exact ⟨b, truD_ok hb hu r1.sub, k F1 H1 Nxt.same r1⟩
theorem jt_nt {a : Expr} {p : Pos} {rt : Res Bool} (h : JT X T a g rt) : JT X T (.UnaryOp .Not a p) g (rt.bind fun b g1 => .ok (!b) g1) := by
  intro Mo F H σ Q W r tk k
  exact toT (pt_not pt_w) (h Mo F H σ _ W r tk (Cont.bind k fun b g1 F1 H1 _ n1 r1 k => k F1 H1 Nxt.same r1))
theorem jt_pw {e : Expr} {rt : Res Bool} (h : JPW X T e g rt) : JT X T e g rt := by
  intro Mo F H σ Q W r tk k
  exact toT (pw_w.pt) (h Mo F H σ Q W r tk k)
theorem jpw_one {k : Bool} {a : Expr} {p : Pos} {rt : Res Bool} (h : JT X T a g rt) : JPW X T (.BoolOp (if k then .And else .Or) [a] p) g rt := by
  intro Mo F H σ Q W r tk c
  cases k with
  | true => exact toPW (pw_and1 pt_w) (h Mo F H σ Q W r tk c)
  | false => exact toPW (pw_or1 pt_w) (h Mo F H σ Q W r tk c)
theorem jpw_cons {k : Bool} {a b : Expr} {rest : List Expr} {p : Pos} {ra : Res Bool} {rb : Fm → Res Bool} (ha : JT X T a g ra) (hb : ∀ g1, JPW X T (.BoolOp (if k then .And else .Or) (b :: rest) p) g1 (rb g1)) :
    JPW X T (.BoolOp (if k then .And else .Or) (a :: b :: rest) p) g (ra.bind fun c g1 => if c = k then rb g1 else .ok c g1) := by
  intro Mo F H σ Q W r tk c
  cases k with
  | true =>
    refine toPW (pw_and pt_w pw_w) (ha Mo F H σ _ W r tk (Cont.bind c fun b g1 F1 H1 _ n1 r1 c => ?_))
    cases b with
    | true => exact hb g1 Mo F1 H1 σ Q W r1 tk c
    | false => exact c F1 H1 Nxt.same r1
  | false =>
    refine toPW (pw_or pt_w pw_w) (ha Mo F H σ _ W r tk (Cont.bind c fun b g1 F1 H1 _ n1 r1 c => ?_))
    cases b with
    | false => exact hb g1 Mo F1 H1 σ Q W r1 tk c
    | true => exact c F1 H1 Nxt.same r1
/-! ### and, or as values -/
theorem jb_one {k : Bool} {a : Expr} {p : Pos} {ra : Res D} (h : JE X T a g ra) : JE X T (.BoolOp (if k then .And else .Or) [a] p) g (ra.bind fun x g1 => opt g1 ((blD x).map .bl)) := by
  intro Mo F H σ Q W r tk c
  refine toE (pe_one pe_w) (h Mo F H σ _ W r tk (Cont.bind c fun x g1 F1 H1 _ n1 r1 c => fun u hu => ?_))
  obtain ⟨d, hd, c⟩ := Cont.opt c
  cases hu <;> simp only [blD] at hd <;> first | cases hd | skip
  exact c F1 H1 Nxt.same r1 _ (.bl _)
theorem jb_cons {k : Bool} {a b : Expr} {rest : List Expr} {p : Pos} {ra : Res D} {rb : Fm → Res D} (ha : JE X T a g ra) (hb : ∀ g1, JE X T (.BoolOp (if k then .And else .Or) (b :: rest) p) g1 (rb g1)) :
    JE X T (.BoolOp (if k then .And else .Or) (a :: b :: rest) p) g (ra.bind fun x g1 => match x with
      | .bl c => if c = k then rb g1 else .ok (.bl c) g1
      | _ => .stuck) := by
  intro Mo F H σ Q W r tk c
  cases k with
  | true =>
    refine toE (pe_and pe_w pe_w) (ha Mo F H σ _ W r tk (Cont.bind c fun x g1 F1 H1 _ n1 r1 c => fun u hu => ?_))
    cases hu with
    | bl z =>
      refine ⟨z, rfl, ?_⟩
      cases z with
      | true => exact hb g1 Mo F1 H1 σ Q W r1 tk c
      | false => exact c F1 H1 Nxt.same r1 _ (.bl _)
    | _ => exact c.elim
  | false =>
    refine toE (pe_or pe_w pe_w) (ha Mo F H σ _ W r tk (Cont.bind c fun x g1 F1 H1 _ n1 r1 c => fun u hu => ?_))
    cases hu with
    | bl z =>
      refine ⟨z, rfl, ?_⟩
      cases z with
      | false => exact hb g1 Mo F1 H1 σ Q W r1 tk c
      | true => exact c F1 H1 Nxt.same r1 _ (.bl _)
    | _ => exact c.elim
/-! ### own things lent -/
theorem lend_at : ∀ {is : List Nat} {k : Nat} {g h : Fm}, lend is k g = some h → g.length = h.length ∧ ∀ i : Nat, (∀ o, g[i]? = some (.own o) → if k + i ∈ is then ∃ d, o.frz = some d ∧ h[i]? = some (.dat d) else h[i]? = some .un) ∧ (∀ d, g[i]? = some (.dat d) → h[i]? = some (.dat d)) ∧ (g[i]? = some .un → h[i]? = some .un)
  | is, k, [], h, e => by cases e; exact ⟨rfl, fun i => by simp⟩
  | is, k, s :: g, h, e => by
    have step : ∀ {t : Slot} {h' : Fm}, lend is (k + 1) g = some h' → h = t :: h' → ((∀ o, s = .own o → if k ∈ is then ∃ d, o.frz = some d ∧ t = .dat d else t = .un) ∧ (∀ d, s = .dat d → t = .dat d) ∧ (s = .un → t = .un)) →
        (s :: g).length = h.length ∧ ∀ i : Nat, (∀ o, (s :: g)[i]? = some (.own o) → if k + i ∈ is then ∃ d, o.frz = some d ∧ h[i]? = some (.dat d) else h[i]? = some .un) ∧ (∀ d, (s :: g)[i]? = some (.dat d) → h[i]? = some (.dat d)) ∧ ((s :: g)[i]? = some .un → h[i]? = some .un) := by
      intro t h' e1 e2 q
      subst e2
      obtain ⟨l, ih⟩ := lend_at e1
      refine ⟨by simp [l], fun i => ?_⟩
      cases i with
      | zero =>
        refine ⟨fun o ho => ?_, fun d hd => ?_, fun hu => ?_⟩
        · have z := q.1 o (by simpa using ho)
          simpa using z
        · simpa using q.2.1 d (by simpa using hd)
        · simpa using q.2.2 (by simpa using hu)
      | succ i =>
        obtain ⟨a, b, c⟩ := ih i
        have ek : k + 1 + i = k + (i + 1) := by omega
        rw [ek] at a
        refine ⟨fun o ho => by simpa using a o (by simpa using ho), fun d hd => by simpa using b d (by simpa using hd), fun hu => by simpa using c (by simpa using hu)⟩
    cases s with
    | un =>
      simp only [lend] at e
      cases q : lend is (k + 1) g with
      | none => rw [q] at e; cases e
      | some h' => rw [q] at e; exact step q (Option.some.inj e).symm ⟨(fun _ z => nomatch z), (fun _ z => nomatch z), fun _ => rfl⟩
    | dat d =>
      simp only [lend] at e
      cases q : lend is (k + 1) g with
      | none => rw [q] at e; cases e
      | some h' => rw [q] at e; exact step q (Option.some.inj e).symm ⟨(fun _ z => nomatch z), fun _ z => z ▸ rfl, (fun z => nomatch z)⟩
    | own o =>
      simp only [lend] at e
      split at e
      · next hm =>
        cases f : o.frz with
        | none => rw [f] at e; cases e
        | some d =>
          rw [f] at e
          simp only [Option.bind_some] at e
          cases q : lend is (k + 1) g with
          | none => rw [q] at e; cases e
          | some h' =>
            rw [q] at e
            refine step q (Option.some.inj e).symm ⟨fun o' z => ?_, (fun _ z => nomatch z), (fun z => nomatch z)⟩
            cases z
            rw [if_pos hm]
            exact ⟨d, f, rfl⟩
      · next hm =>
        cases q : lend is (k + 1) g with
        | none => rw [q] at e; cases e
        | some h' =>
          rw [q] at e
          refine step q (Option.some.inj e).symm ⟨fun o' z => ?_, (fun _ z => nomatch z), (fun z => nomatch z)⟩
          cases z
          rw [if_neg hm]
open Classical in
/-- what is lent is settled meanwhile -/
noncomputable def lentF (F H : Hp) (g : Fm) (σ : St) (is : List Nat) : Hp := fun a => if ∃ i, i ∈ is ∧ OwnAt g σ i a then H a else F a
theorem Rl.lent {K : PySem.W.Frag} {Mo : List Addr} {F H : Hp} {σ : St} {is : List Nat} {h : Fm} (r : Rl K T Mo F H g σ) (e : lend is 0 g = some h) : Rl K T (Mo ++ ownsOf g σ is) (lentF F H g σ is) H h σ ∧ Sub F (lentF F H g σ is) := by
  obtain ⟨l, at_⟩ := lend_at e
  have yes : ∀ {a : Addr} {i : Nat}, i ∈ is → OwnAt g σ i a → lentF F H g σ is a = H a := fun {a i} h1 h2 => by unfold lentF; rw [if_pos ⟨i, h1, h2⟩]
  have no : ∀ {a : Addr}, (∀ i, i ∈ is → ¬ OwnAt g σ i a) → lentF F H g σ is a = F a := fun {a} h1 => by unfold lentF; rw [if_neg fun ⟨i, x, y⟩ => h1 i x y]
  have sub : Sub F (lentF F H g σ is) := fun a o q => by
    unfold lentF
    split
    · exact r.sub a o q
    · exact q
  refine ⟨⟨fun a o q => ?_, fun p hp => ?_, by rw [← l]; exact r.len, fun i s hs => ?_, fun i j p ⟨⟨o1, h1⟩, _⟩ _ => ?_, fun i p ⟨⟨o1, h1⟩, _⟩ => ?_, fun q hq => ?_⟩, sub⟩
  · unfold lentF at q
    split at q
    · exact q
    · exact r.sub a o q
  · rcases List.mem_append.mp hp with z | z
    · obtain ⟨q1, q2⟩ := r.mo p z
      exact ⟨(no fun i hi ho => r.out i p ho z).trans q1, q2⟩
    · obtain ⟨i, hb, ho⟩ := mem_ownsOf.mp z
      obtain ⟨o, h1⟩ := ho.1
      obtain ⟨q, e1, e2, e3⟩ := r.own h1
      rw [ho.2] at e1; cases e1
      refine ⟨(no fun j hj hj2 => ?_).trans e2, e3.there⟩
      have := r.sep i j p ho hj2
      subst this
      exact hb hj
  · cases q : g[i]? with
    | none =>
      have z := (List.getElem?_eq_none_iff.mp q)
      have := (List.getElem?_eq_some_iff.mp hs).1
      omega
    | some s' =>
      obtain ⟨a1, a2, a3⟩ := at_ i
      rw [Nat.zero_add] at a1
      cases s' with
      | un => rw [a3 q] at hs; cases hs; trivial
      | dat d =>
        rw [a2 d q] at hs; cases hs
        obtain ⟨v, e1, e2⟩ := r.dat q
        exact ⟨v, e1, e2.mono sub⟩
      | own o =>
        have z := a1 o q
        split at z
        · next hi =>
          obtain ⟨d, hd, z⟩ := z
          rw [z] at hs; cases hs
          obtain ⟨p, e1, e2, e3⟩ := r.own q
          obtain ⟨u, hu, is'⟩ := e3.settled hd e2
          refine ⟨_, e1, is'.mono fun a w hw => ?_⟩
          by_cases ap : a = p
          · subst ap
            rw [upd_same] at hw; cases hw
            rw [yes hi ⟨⟨o, q⟩, e1⟩]; exact hu
          · rw [upd_ne ap] at hw; exact sub a w hw
        · rw [z] at hs; cases hs; trivial
  · exfalso
    cases q : g[i]? with
    | none =>
      have z := (List.getElem?_eq_none_iff.mp q)
      have := (List.getElem?_eq_some_iff.mp h1).1
      omega
    | some s' =>
      obtain ⟨a1, a2, a3⟩ := at_ i
      cases s' with
      | un => rw [a3 q] at h1; cases h1
      | dat d => rw [a2 d q] at h1; cases h1
      | own o =>
        have z := a1 o q
        split at z
        · obtain ⟨d, _, z⟩ := z; rw [z] at h1; cases h1
        · rw [z] at h1; cases h1
  · exfalso
    cases q : g[i]? with
    | none =>
      have z := (List.getElem?_eq_none_iff.mp q)
      have := (List.getElem?_eq_some_iff.mp h1).1
      omega
    | some s' =>
      obtain ⟨a1, a2, a3⟩ := at_ i
      cases s' with
      | un => rw [a3 q] at h1; cases h1
      | dat d => rw [a2 d q] at h1; cases h1
      | own o =>
        have z := a1 o q
        split at z
        · obtain ⟨d, _, z⟩ := z; rw [z] at h1; cases h1
        · rw [z] at h1; cases h1
  · obtain ⟨t1, t2⟩ := r.tab q hq
    have nown : ∀ i, ¬ OwnAt g σ i q.1 := fun i ⟨⟨o, q1⟩, q2⟩ => by
      obtain ⟨p, e1, _, e3⟩ := r.own q1
      rw [q2] at e1; cases e1
      exact e3.noTab t2 rfl
    refine ⟨fun hm => ?_, t2.step sub ((no fun i _ => nown i).trans t2.1) rfl⟩
    rcases List.mem_append.mp hm with h | h
    · exact t1 h
    · obtain ⟨i, _, ho⟩ := mem_ownsOf.mp h
      exact nown i ho
open Classical in
/-- what was lent is known no more -/
noncomputable def backF (F' : Hp) (g : Fm) (σ : St) (is : List Nat) : Hp := fun a => if ∃ i, i ∈ is ∧ OwnAt g σ i a then none else F' a
/-- handed back -/
theorem Rl.unlent {K : PySem.W.Frag} {Mo : List Addr} {F H F' H' : Hp} {σ : St} {is : List Nat} {g' : Fm} {h : Fm} (r : Rl K T Mo F H g σ) (n : Nxt (Mo ++ ownsOf g σ is) (lentF F H g σ is) H F' H') (r' : Rl K T (Mo ++ ownsOf g σ is) F' H' h σ) (b : Sub F (lentF F H g σ is)) :
    Rl K T Mo (backF F' g σ is) H' g σ ∧ Nxt Mo F H (backF F' g σ is) H' := by
  have s := r'.sub
  have keep : ∀ i p, OwnAt g σ i p → H' p = H p := fun i p ho => by
    by_cases hi : i ∈ is
    · obtain ⟨o, h1⟩ := ho.1
      obtain ⟨q, e1, e2, e3⟩ := r.own h1
      rw [ho.2] at e1; cases e1
      obtain ⟨u, hu⟩ := e3.there
      have z : lentF F H g σ is p = some u := by unfold lentF; rw [if_pos ⟨i, hi, ho⟩]; exact hu
      rw [hu]
      exact s p u (n.sub p u z)
    · exact n.mo p (List.mem_append_right _ (mem_ownsOf.mpr ⟨i, hi, ho⟩))
  have no : ∀ {a : Addr}, (∀ i, i ∈ is → ¬ OwnAt g σ i a) → backF F' g σ is a = F' a := fun {a} h1 => by unfold backF; rw [if_neg fun ⟨i, x, y⟩ => h1 i x y]
  have lo : ∀ {a : Addr} {o : HO}, backF F' g σ is a = some o → F' a = some o := fun {a o} e => by
    unfold backF at e
    split at e
    · cases e
    · exact e
  have nF : ∀ {i : Nat} {p : Addr}, OwnAt g σ i p → F p = none := fun {i p} ⟨⟨o, h1⟩, h2⟩ => by
    obtain ⟨q, e1, e2, _⟩ := r.own h1
    rw [h2] at e1; cases e1
    exact e2
  have up : Sub F (backF F' g σ is) := fun a o e => by
    rw [no fun i hi ho => by rw [nF ho] at e; cases e]
    exact n.sub a o (b a o e)
  have out : ∀ {i : Nat} {p : Addr}, OwnAt g σ i p → backF F' g σ is p = none := fun {i p} ho => by
    by_cases hi : i ∈ is
    · unfold backF; rw [if_pos ⟨i, hi, ho⟩]
    · cases e : backF F' g σ is p with
      | none => rfl
      | some o =>
        have z := lo e
        rw [(r'.mo p (List.mem_append_right _ (mem_ownsOf.mpr ⟨i, hi, ho⟩))).1] at z
        cases z
  refine ⟨⟨fun a o e => s a o (lo e), fun p hp => ?_, r.len, fun i sl hs => ?_, r.sep, r.out, fun q hq => ⟨(r.tab q hq).1, ?_⟩⟩, ⟨up, fun p hp => n.mo p (List.mem_append_left _ hp)⟩⟩
  · obtain ⟨q1, q2⟩ := r.mo p hp
    refine ⟨?_, by rw [n.mo p (List.mem_append_left _ hp)]; exact q2⟩
    cases e : backF F' g σ is p with
    | none => rfl
    | some o =>
      have z := lo e
      rw [(r'.mo p (List.mem_append_left _ hp)).1] at z
      cases z
  · have z := r.sl i sl hs
    cases sl with
    | un => trivial
    | dat d => obtain ⟨v, a1, a2⟩ := z; exact ⟨v, a1, a2.mono up⟩
    | own o =>
      obtain ⟨p, a1, a2, a3⟩ := z
      exact ⟨p, a1, out ⟨⟨o, hs⟩, a1⟩, a3.mono up (keep i p ⟨⟨o, hs⟩, a1⟩)⟩
  · obtain ⟨t1, ps, t2, t3, t4⟩ := (r'.tab q hq).2
    refine ⟨?_, ps, t2, t3, fun pos cv hc => ?_⟩
    · cases e : backF F' g σ is q.1 with
      | none => rfl
      | some o => have z := lo e; rw [t1] at z; cases z
    · obtain ⟨c, e1, e2⟩ := t4 pos cv hc
      refine ⟨c, e1, ?_⟩
      rw [no fun i hi ho => ?_]
      · exact e2
      · obtain ⟨⟨o, h1⟩, h2⟩ := id ho
        obtain ⟨p, a1, _, a3⟩ := r.own h1
        rw [h2] at a1; cases a1
        have hk := keep i c ho
        have hc2 := s c _ e2
        rw [hk] at hc2
        cases o with
        | lst ds => obtain ⟨vs, a, _⟩ := a3; rw [a] at hc2; cases hc2
        | dic ds => obtain ⟨vs, a, _⟩ := a3; rw [a] at hc2; cases hc2
        | dit ds => obtain ⟨vs, a, _⟩ := a3; rw [a] at hc2; cases hc2
        | ins c fs => obtain ⟨C, dx, fv, a, _⟩ := a3; rw [a] at hc2; cases hc2
theorem je_brw {is : List Nat} {e : Expr} {re : Fm → Res D} (h : ∀ g1, JE X T e g1 (re g1)) : JE X T e g (match lend is 0 g with
    | none => .stuck
    | some h => match re h with
      | .ok y _ => if flat y then .ok y g else .stuck
      | _ => .stuck) := by
  intro Mo F H σ Q W r tk c
  cases l : lend is 0 g with
  | none => rw [l] at c; exact c.elim
  | some g1 =>
    rw [l] at c
    simp only at c
    obtain ⟨r1, b⟩ := r.lent l
    cases e1 : re g1 with
    | stuck => rw [e1] at c; exact c.elim
    | exc x g2 => rw [e1] at c; exact c.elim
    | ok y g2 =>
      rw [e1] at c
      simp only at c
      split at c
      · next hf =>
        have hh := h g1 (Mo ++ ownsOf g σ is) _ H σ Q W r1 tk
        rw [e1] at hh
        refine hh fun F' H' n' r' v hv => ?_
        obtain ⟨r2, n2⟩ := r.unlent (g' := g) n' r' b
        refine c _ H' n2 r2 v ?_
        cases hv <;> first | exact .non | exact .bl _ | exact .int _ | exact .str _ | cases hf
      · exact c.elim
theorem jt_brw {is : List Nat} {e : Expr} {re : Fm → Res Bool} (h : ∀ g1, JT X T e g1 (re g1)) : JT X T e g (match lend is 0 g with
    | none => .stuck
    | some h => match re h with
      | .ok y _ => .ok y g
      | _ => .stuck) := by
  intro Mo F H σ Q W r tk c
  cases l : lend is 0 g with
  | none => rw [l] at c; exact c.elim
  | some g1 =>
    rw [l] at c
    simp only at c
    obtain ⟨r1, b⟩ := r.lent l
    cases e1 : re g1 with
    | stuck => rw [e1] at c; exact c.elim
    | exc x g2 => rw [e1] at c; exact c.elim
    | ok y g2 =>
      rw [e1] at c
      have hh := h g1 (Mo ++ ownsOf g σ is) _ H σ Q W r1 tk
      rw [e1] at hh
      refine hh fun F' H' n' r' => ?_
      obtain ⟨r2, n2⟩ := r.unlent (g' := g) n' r' b
      exact c _ H' n2 r2
end
end DL

set_option Elab.async false
set_option linter.all false
set_option autoImplicit false
set_option maxRecDepth 100000
set_option maxHeartbeats 2000000
/-! DLk: own lists in expressions; what is walked; comprehensions. -/
namespace DL
open PySem L2
section
variable {X : Cx} {T : Tb} {g : Fm}
/-- the own list of a slot -/
theorem Rl.ownL {K : PySem.W.Frag} {Mo : List Addr} {F H : Hp} {σ : St} {i : Nat} {xs : List D} (r : Rl K T Mo F H g σ) (h : getL g i = some xs) : ∃ p vs, σ[i]? = some (some (.ref p)) ∧ F p = none ∧ H p = some (.lst vs) ∧ IsL K T F vs xs := by
  obtain ⟨p, e1, e2, vs, e3, e4⟩ := r.own (getL_eq h)
  exact ⟨p, vs, e1, e2, e3, e4⟩
theorem Cont.withL {α : Type} {K : PySem.W.Frag} {Mo : List Addr} {F H : Hp} {σ : St} {W : WX} {i : Nat} {r : Res α} {P : α → Fm → Hp → Hp → Prop} (rl : Rl K T Mo F H g σ) (k : Cont K T Mo F H σ W (DL.withL g i r) P) :
    Cont K T Mo F H σ W r P ∧ ∃ p, σ[i]? = some (some (.ref p)) ∧ ∃ vs, H p = some (.lst vs) := by
  unfold DL.withL at k
  cases e : getL g i with
  | none => rw [e] at k; exact k.elim
  | some xs =>
    rw [e] at k
    obtain ⟨p, vs, e1, _, e3, _⟩ := rl.ownL e
    exact ⟨k, p, e1, vs, e3⟩
theorem je_oix {N : List Str} {sc : Scope} {i : Nat} {a b : Expr} {p : Pos} {re : Res D} (hN : X.N = N) (hs : X.env.scope = sc) (c : ckVar N sc i a = true) (hx : plainX b = true) (h : JE X T b g re) :
    JE X T (.Subscript a b p) g (withL g i (re.bind fun y g1 => match getL g1 i, y with
      | some xs, .int k => opt g1 (atI xs k)
      | _, _ => .stuck)) := by
  intro Mo F H σ Q W r tk k
  obtain ⟨k, q, hq, _⟩ := Cont.withL r k
  refine toE (pe_ix ix_seq pe_w pe_w (ix_plain hx)) (j_var hN hs c hq ?_)
  refine h Mo F H σ _ W r tk (Cont.bind k fun y g1 F1 H1 _ n1 r1 k => fun v hv => ?_)
  cases e : getL g1 i with
  | none => rw [e] at k; exact k.elim
  | some xs =>
    rw [e] at k
    obtain ⟨q', vs, e1, e2, e3, e4⟩ := r1.ownL e
    rw [hq] at e1; cases e1
    cases hv with
    | int n =>
      obtain ⟨d, hd, k⟩ := Cont.opt (show Cont X.K T Mo F1 H1 σ W (opt g1 (atI xs n)) _ from k)
      obtain ⟨w, h1, h2⟩ := e4.atI hd
      exact .inl ⟨_, _, n, w, rfl, rfl, SqL.of e3, h1, k F1 H1 Nxt.same r1 w h2⟩
    | _ => exact k.elim
theorem jf_oslc {N : List Str} {sc : Scope} {i : Nat} {a : Expr} {lo hi : Option Expr} {p p2 : Pos} {rl : Res (Option Int)} {rh : Fm → Res (Option Int)} (hN : X.N = N) (hs : X.env.scope = sc) (c : ckVar N sc i a = true) (hl : JP X T lo g rl) (hh : ∀ g1, JP X T hi g1 (rh g1)) :
    JF X T (.Subscript a (.Slice lo hi none p2) p) g (withL g i (rl.bind fun l g1 => (rh g1).bind fun h g2 => match getL g2 i with
      | some xs => .ok (.lst (cut xs l h)) g2
      | none => .stuck)) := by
  intro Mo F H σ Q W r tk k
  obtain ⟨k, q, hq, _⟩ := Cont.withL r k
  refine toE (pe_slice sl_any pe_w po_w po_w) (j_var hN hs c hq ?_)
  refine hl Mo F H σ _ W r tk (Cont.bind k fun l g1 F1 H1 _ n1 r1 k => ?_)
  refine hh g1 Mo F1 H1 σ _ W r1 tk (Cont.bind k fun h g2 F2 H2 _ n2 r2 k => ?_)
  cases e : getL g2 i with
  | none => rw [e] at k; exact k.elim
  | some xs =>
    rw [e] at k
    obtain ⟨q', vs, e1, e2, e3, e4⟩ := r2.ownL e
    rw [hq] at e1; cases e1
    refine .inl ⟨_, _, rfl, SqL.of e3, fun t ht => ?_⟩
    obtain ⟨a1, a2, a3⟩ := r2.apart ht
    exact k _ _ (Nxt.newO r2 ht) (r2.newO ht) t _ _ rfl a1 a2 a3 upd_same (e4.cut l h)
theorem jf_ocp {G : Sg} {con : Nat → Option D} {call : Nat → List Slot → CRes} {n : Nat} {N : List Str} {sc : Scope} {i : Nat} {a : Expr} {q p : Pos} (gd : Gd G con call T n X) (hN : X.N = N) (hs : X.env.scope = sc) (hg : isGl sc "list" = true) (c : ckVar N sc i a = true) (hx : plainX a = true) :
    JF X T (.Call (.Name "list" q) [a] [] p) g (match getL g i with
      | some xs => .ok (.lst xs) g
      | none => .stuck) := by
  intro Mo F H σ Q W r tk k
  obtain ⟨g1, g2⟩ := gl_of hs hg
  cases e : getL g i with
  | none => rw [e] at k; exact k.elim
  | some xs =>
    rw [e] at k
    obtain ⟨q', vs, e1, e2, e3, e4⟩ := r.ownL e
    refine toE (pe_callTy call_list_of g1 (gd.bi .lst) PyProof.Rows.boot_list (pa_cons pe_w pa_nil (star_cons hx)) (by decide +kernel) g2 (star_cons hx) (by rfl)) (j_var hN hs c e1 ?_)
    refine ⟨_, _, rfl, .inl (SqL.of e3), fun t ht => ?_⟩
    obtain ⟨a1, a2, a3⟩ := r.apart ht
    exact k _ _ (Nxt.newO r ht) (r.newO ht) t _ _ rfl a1 a2 a3 upd_same e4
theorem bifL_eq {ds : List D} {d : D} (h : bifD .lst ds = some d) : (∃ xs, ds = [.lst xs] ∧ d = .lst xs) ∨ (∃ xs, ds = [.tup xs] ∧ d = .lst xs) ∨ ∃ ns : List Int, ds = [.scr ns] ∧ d = .lst (ns.map .int) := by
  cases ds with
  | nil => simp [bifD] at h
  | cons a r =>
    cases r with
    | cons b r => cases a <;> simp [bifD] at h
    | nil =>
      cases a <;> simp [bifD] at h
      · exact .inr (.inl ⟨_, rfl, h.symm⟩)
      · exact .inl ⟨_, rfl, h.symm⟩
      · exact .inr (.inr ⟨_, rfl, h.symm⟩)
theorem jf_bifL {G : Sg} {con : Nat → Option D} {call : Nat → List Slot → CRes} {n : Nat} {e : Expr} {es : List Expr} {q p : Pos} {rs : Res (List D)} {sc : Scope} (gd : Gd G con call T n X) (hs : X.env.scope = sc) (hg : isGl sc "list" = true) (hp : plainXs (e :: es) = true)
    (h : JL X T (e :: es) g rs) : JF X T (.Call (.Name "list" q) (e :: es) [] p) g (rs.bind fun ds g1 => opt g1 (bifD .lst ds)) := by
  intro Mo F H σ Q W r tk k
  obtain ⟨g1, g2⟩ := gl_of hs hg
  simp only [plainXs, List.all_cons, Bool.and_eq_true] at hp
  refine toE (pe_callTy call_list_of g1 (gd.bi .lst) PyProof.Rows.boot_list pa_w (by decide +kernel) g2 (star_cons hp.1) (star_any hp.2)) (h Mo F H σ _ W r tk (Cont.bind k fun ds g1 F1 H1 _ n1 r1 k => fun vs hv => ?_))
  obtain ⟨d, hd, k⟩ := Cont.opt k
  have fin : ∀ {q' : Addr} {ys : List V} {xs : List D}, d = .lst xs → (SqL X.K H1 q' ys ∨ SqT X.K H1 q' ys) → IsL X.K T F1 ys xs → ∃ p ys, [V.ref q'] = [V.ref p] ∧ (SqL X.K H1 p ys ∨ SqT X.K H1 p ys) ∧ ∀ l, H1 l = none → Q (.ref l) (upd H1 l (.lst ys)) := fun {q' ys xs} e1 e2 e3 => by
    refine ⟨_, ys, rfl, e2, fun t ht => ?_⟩
    obtain ⟨a1, a2, a3⟩ := r1.apart ht
    exact k _ _ (Nxt.newO r1 ht) (r1.newO ht) t _ _ e1 a1 a2 a3 upd_same e3
  rcases bifL_eq hd with ⟨xs, rfl, e1⟩ | ⟨xs, rfl, e1⟩ | ⟨ns, rfl, e1⟩
  · obtain ⟨v, rfl, kk⟩ := is1 hv
    cases kk with
    | lst h1 l1 => exact fin e1 (.inl (SqL.of (r1.sub _ _ h1))) l1
  · obtain ⟨v, rfl, kk⟩ := is1 hv
    cases kk with
    | tup h1 l1 => exact fin e1 (.inr (r1.sub.sqT h1)) l1
  · obtain ⟨v, rfl, kk⟩ := is1 hv
    cases kk with
    | scr h1 => exact fin e1 (.inl (r1.sub.sqL h1)) (isL_ints _)
theorem seq_ix {n : Nat} {i : Int} {j : Nat} (h : ixN n i = some j) (hn : n ≤ sizeLine) : seqIndex? i n = some j ∧ -(2 ^ 63) ≤ i ∧ i < 2 ^ 63 := by
  have z := sizeLine_eq
  unfold ixN at h
  unfold seqIndex?
  split at h
  · split at h
    · cases h
      rw [if_neg (by omega : ¬ i < 0)]
      refine ⟨?_, by omega, by omega⟩
      simp only
      rw [if_pos (by simp; omega)]
    · cases h
  · split at h
    · cases h
      rw [if_pos (by omega : i < 0)]
      refine ⟨?_, by omega, by omega⟩
      simp only
      rw [if_pos (by simp; omega)]
    · cases h
/-- every list has its size, at Hp's level -/
theorem wA_len {es : List Expr} {σ : St} {H : Hp} {Q : List V → Hp → Prop} (h : wA X es σ H (fun v H1 => (∀ a xs, (SqL X.K H1 a xs ∨ SqT X.K H1 a xs) → xs.length ≤ sizeLine) → Q v H1)) : wA X es σ H Q := fun pos pins s I =>
  thn (h pos pins s I) fun u s1 ⟨v, H1, I1, r1, q⟩ => ⟨v, H1, I1, r1, q fun a xs z => by
    rcases z with z | z
    · obtain ⟨_, _, _, l⟩ := I1.list z; exact l
    · obtain ⟨_, _, _, l⟩ := I1.tuple z; exact l⟩
theorem je_pop {N : List Str} {sc : Scope} {i : Nat} {a b : Expr} {ap p : Pos} {re : Res D} (hN : X.N = N) (hs : X.env.scope = sc) (c : ckVar N sc i a = true) (ho : plainO a = true) (hx : plainX b = true) (hl : (ap.endLine == p.line) = true) (h : JE X T b g re) :
    JE X T (.Call (.Attribute a "pop" ap) [b] [] p) g (withL g i (re.bind fun y g1 => match getL g1 i, y with
      | some xs, .int k => match ixN xs.length k with
        | some n => match xs[n]? with
          | some d => .ok d (g1.set i (.own (.lst (xs.eraseIdx n))))
          | none => .stuck
        | none => .stuck
      | _, _ => .stuck)) := by
  intro Mo F H σ Q W r tk k
  obtain ⟨k, q, hq, vs0, hvs0⟩ := Cont.withL r k
  refine toE (pe_bm PySem.F.plainAttrs_list PySem.F.slot_list_pop PySem.F.type_list_pop mt_popAt pe_w pa_w (base_plain ho) (by rw [star_cons hx]; rfl) hl (star_cons hx) (by rfl)) (j_var hN hs c hq ⟨.inl ⟨rfl, vs0, SqL.of hvs0⟩, ?_⟩)
  have z : Cont X.K T Mo F H σ W re (fun y g1 F1 H1 => ∀ us, IsL X.K T F1 us [y] → (∀ a xs, (SqL X.K H1 a xs ∨ SqT X.K H1 a xs) → xs.length ≤ sizeLine) → rPopAt (.ref q) us H1 Q) := by
    refine Cont.bind k fun y g1 F1 H1 _ n1 r1 k => ?_
    intro us hu hlen
    obtain ⟨v, rfl, hv⟩ := is1 hu
    cases e : getL g1 i with
    | none => rw [e] at k; exact k.elim
    | some xs =>
      rw [e] at k
      obtain ⟨q', vs, e1, e2, e3, e4⟩ := r1.ownL e
      rw [hq] at e1; cases e1
      cases hv with
      | int m =>
        cases e5 : ixN xs.length m with
        | none => simp only [e5] at k; exact k.elim
        | some j =>
          simp only [e5] at k
          cases e6 : xs[j]? with
          | none => rw [e6] at k; exact k.elim
          | some d =>
            rw [e6] at k
            obtain ⟨w, h1, h2⟩ := e4.get e6
            have hz := hlen _ vs (.inl (SqL.of e3))
            obtain ⟨s1, s2, s3⟩ := seq_ix e5 (by rw [← e4.length]; exact hz)
            refine ⟨_, vs, m, j, w, rfl, rfl, e3, s2, s3, by rw [e4.length]; exact s1, h1, ?_⟩
            have rw' := r1.wr (o' := .lst (xs.eraseIdx j)) (u := .lst (vs.eraseIdx j)) (getL_eq e) hq ⟨_, upd_same, e4.erase j⟩
            exact k F1 _ (Nxt.wr r1 (getL_eq e) hq) rw' w h2
      | _ => exact k.elim
  refine wA_len ((jl_cons (es := []) (rr := fun g1 => .ok [] g1) hx h fun g1 => jl_nil) Mo F H σ _ W r tk ?_)
  cases re with
  | ok y g1 => exact z
  | exc x g1 => exact z
  | stuck => exact z
theorem je_frz {N : List Str} {sc : Scope} {i : Nat} {e : Expr} (hN : X.N = N) (hs : X.env.scope = sc) (c : ckVar N sc i e = true) : JE X T e g (match getO g i with
    | none => .stuck
    | some o => match o.frz with
      | none => .stuck
      | some d => .ok d (g.set i (.dat d))) := by
  intro Mo F H σ Q W r tk k
  cases e1 : getO g i with
  | none => rw [e1] at k; exact k.elim
  | some o =>
    rw [e1] at k
    simp only at k
    cases e2 : o.frz with
    | none => rw [e2] at k; exact k.elim
    | some d =>
      rw [e2] at k
      obtain ⟨p, a1, a2, a3⟩ := r.own (getO_eq e1)
      obtain ⟨u, hu, is⟩ := a3.settled e2 a2
      have r2 := r.settle (getO_eq e1) a1 hu (s := .dat d) (fun _ z => nomatch z) ⟨_, rfl, is⟩
      exact j_var hN hs c a1 (k _ H (Nxt.settle a2) r2 _ is)

/-! ### what is walked -/
theorem enu_at : ∀ {xs : List D} {k i : Nat} {d : D}, (enuD k xs)[i]? = some d → ∃ x, xs[i]? = some x ∧ d = .tup [.int ((k + i : Nat) : Int), x]
  | [], _, _, _, h => by simp [enuD] at h
  | x :: xs, k, 0, d, h => by simp [enuD] at h; exact ⟨x, rfl, by rw [← h]; simp⟩
  | x :: xs, k, i + 1, d, h => by
    simp only [enuD, List.getElem?_cons_succ] at h
    obtain ⟨y, h1, h2⟩ := enu_at h
    exact ⟨y, by simpa using h1, by rw [h2]; congr 3; omega⟩
theorem enu_len : ∀ {xs : List D} {k : Nat}, (enuD k xs).length = xs.length
  | [], _ => rfl
  | x :: xs, k => by simp [enuD, enu_len]
theorem wk_lst {a : Addr} {vs : List V} {ds : List D} {F0 : Hp} (h : F0 a = some (.lst vs)) (l : IsL X.K T F0 vs ds) : Wk X.K T (Itl X.K a) ds (fun F H => Sub F0 F) := fun i F H ok f => by
  have sq : SqL X.K H a vs := SqL.of (f _ _ (ok _ _ h))
  refine ⟨fun d hd => ?_, fun hl => ⟨vs, sq, by rw [l.length]; exact hl⟩⟩
  obtain ⟨w, h1, h2⟩ := l.get hd
  refine ⟨⟨vs, w, sq, h1⟩, fun x H' ⟨e, y⟩ => ⟨F, by rw [e]; exact .same _ _, ?_⟩⟩
  have := y vs sq
  rw [h1] at this; cases this
  exact h2.mono ok
theorem wk_own {a : Addr} {ds : List D} : Wk X.K T (Itl X.K a) ds (fun F H => Own X.K T F H a (.lst ds)) := fun i F H ⟨vs, ok, l⟩ f => by
  have sq : SqL X.K H a vs := SqL.of ok
  refine ⟨fun d hd => ?_, fun hl => ⟨vs, sq, by rw [l.length]; exact hl⟩⟩
  obtain ⟨w, h1, h2⟩ := l.get hd
  refine ⟨⟨vs, w, sq, h1⟩, fun x H' ⟨e, y⟩ => ⟨F, by rw [e]; exact .same _ _, ?_⟩⟩
  have := y vs sq
  rw [h1] at this; cases this
  exact h2
theorem wk_tup {a : Addr} {vs : List V} {ds : List D} {F0 : Hp} (h : SqT X.K F0 a vs) (l : IsL X.K T F0 vs ds) : Wk X.K T (Itt X.K a) ds (fun F H => Sub F0 F) := fun i F H ok f => by
  have sq : SqT X.K H a vs := f.sqT (ok.sqT h)
  refine ⟨fun d hd => ?_, fun hl => ⟨vs, sq, by rw [l.length]; exact hl⟩⟩
  obtain ⟨w, h1, h2⟩ := l.get hd
  refine ⟨⟨vs, w, sq, h1⟩, fun x H' ⟨e, y⟩ => ⟨F, by rw [e]; exact .same _ _, ?_⟩⟩
  have := y vs sq
  rw [h1] at this; cases this
  exact h2.mono ok
theorem wk_scr {a : Addr} {ns : List Int} {F0 : Hp} (h : SqL X.K F0 a (ns.map V.int)) : Wk X.K T (Itl X.K a) (ns.map .int) (fun F H => Sub F0 F) := fun i F H ok f => by
  have sq : SqL X.K H a (ns.map V.int) := f.sqL (ok.sqL h)
  refine ⟨fun d hd => ?_, fun hl => ⟨_, sq, by simpa using hl⟩⟩
  rw [List.getElem?_map] at hd
  cases e : ns[i]? with
  | none => rw [e] at hd; cases hd
  | some n =>
    rw [e] at hd; cases hd
    have h1 : (ns.map V.int)[i]? = some (.int n) := by rw [List.getElem?_map, e]; rfl
    refine ⟨⟨_, _, sq, h1⟩, fun x H' ⟨e, y⟩ => ⟨F, by rw [e]; exact .same _ _, ?_⟩⟩
    have := y _ sq
    rw [h1] at this; cases this
    exact .int n
theorem wk_str {z : Str} {F0 : Hp} : Wk X.K T (Its z) (z.cps.toList.map fun c => .str ⟨#[c]⟩) (fun F H => Sub F0 F) := fun i F H ok f => by
  refine ⟨fun d hd => ?_, fun hl => by show z.cps.size ≤ i; simpa using hl⟩
  rw [List.getElem?_map] at hd
  cases e : z.cps.toList[i]? with
  | none => rw [e] at hd; cases hd
  | some n =>
    rw [e] at hd; cases hd
    have lt := (List.getElem?_eq_some_iff.mp e).1
    refine ⟨by show i < z.cps.size; simpa using lt, fun x H' ⟨e1, c, hc, e2⟩ => ⟨F, by rw [e1]; exact .same _ _, ?_⟩⟩
    have : z.cps[i]? = some n := by rw [← Array.getElem?_toList]; exact e
    rw [this] at hc; cases hc
    rw [e2]
    exact .str _
theorem wk_rng {lo : Int} {n : Nat} {F0 : Hp} : Wk X.K T (Itr lo n) (upTo lo 1 n) (fun F H => Sub F0 F) := fun i F H ok f => by
  refine ⟨fun d hd => ?_, fun hl => by show n ≤ i; simpa [upTo] using hl⟩
  unfold upTo at hd
  rw [List.getElem?_map] at hd
  by_cases hi : i < n
  · rw [List.getElem?_range hi] at hd
    cases hd
    refine ⟨hi, fun x H' ⟨e1, e2⟩ => ⟨F, by rw [e1]; exact .same _ _, ?_⟩⟩
    rw [e2]
    show Is X.K T F _ (.int (lo + (i : Int) * 1))
    rw [Int.mul_one]
    exact .int _
  · rw [List.getElem?_eq_none (by simpa using hi)] at hd
    cases hd
theorem wk_enu {a : Addr} {vs : List V} {ds : List D} {F0 : Hp} (h : F0 a = some (.lst vs)) (l : IsL X.K T F0 vs ds) : Wk X.K T (Ite X.K a) (enuD 0 ds) (fun F H => Sub F0 F) := fun i F H ok f => by
  have sq : SqL X.K H a vs := SqL.of (f _ _ (ok _ _ h))
  refine ⟨fun d hd => ?_, fun hl => ⟨vs, sq, by rw [enu_len] at hl; rw [l.length]; exact hl⟩⟩
  obtain ⟨x, h0, rfl⟩ := enu_at hd
  obtain ⟨w, h1, h2⟩ := l.get h0
  refine ⟨⟨vs, w, sq, h1⟩, fun v H' ⟨t, y, e1, e2, e3, e4⟩ => ?_⟩
  subst e1 e3
  have := e4 vs sq
  rw [h1] at this; cases this
  refine ⟨_, .one _ e2, .tup (SqT.of upd_same) (.cons ?_ (.cons ((h2.mono ok).mono (Sub.new (f.free e2))) .nil))⟩
  rw [Nat.zero_add]
  exact .int _
theorem ji_dat {tg e : Expr} {a : E} {re : Res D} (h : JE X T e g re) : JI X T (.dat a) tg e g (re.bind fun x g1 => opt g1 (walkD x)) := by
  intro Mo F H σ R W r tk k
  cases re with
  | stuck => exact k.elim
  | exc x g1 =>
    refine toI (pi_list pe_w) (h Mo F H σ _ W r tk ?_)
    exact k
  | ok x g1 =>
    have main : ∀ {P2 : V → Hp → Prop}, (∀ F1 H1, Nxt Mo F H F1 H1 → Rl X.K T Mo F1 H1 g1 σ → (∀ a xs, (SqL X.K H1 a xs ∨ SqT X.K H1 a xs) → xs.length ≤ sizeLine) → ∀ v, Is X.K T F1 v x → P2 v H1) → wE X e σ H P2 := fun {P2} q => by
      refine wE_len (h Mo F H σ _ W r tk ?_)
      exact fun F1 H1 n1 r1 v hv hlen => q F1 H1 n1 r1 hlen v hv
    have k' : Cont X.K T Mo F H σ W (opt g1 (walkD x)) _ := k
    cases x with
    | lst xs =>
      refine toI (pi_list pe_w) (main fun F1 H1 n1 r1 hlen v hv => ?_)
      cases hv with
      | lst h1 l =>
        have hz := hlen _ _ (.inl (SqL.of (r1.sub _ _ h1)))
        exact ⟨_, rfl, ⟨_, SqL.of (r1.sub _ _ h1)⟩, k' F1 H1 n1 r1 _ (wk_lst h1 l) (by rw [← l.length]; exact hz) (fun _ z => nomatch z)⟩
    | tup xs =>
      refine toI (pi_tup pe_w) (main fun F1 H1 n1 r1 hlen v hv => ?_)
      cases hv with
      | tup h1 l =>
        have hz := hlen _ _ (.inr (r1.sub.sqT h1))
        exact ⟨_, rfl, ⟨_, r1.sub.sqT h1⟩, k' F1 H1 n1 r1 _ (wk_tup h1 l) (by rw [← l.length]; exact hz) (fun _ z => nomatch z)⟩
    | scr ns =>
      refine toI (pi_list pe_w) (main fun F1 H1 n1 r1 hlen v hv => ?_)
      cases hv with
      | scr h1 =>
        have hz := hlen _ _ (.inl (r1.sub.sqL h1))
        exact ⟨_, rfl, ⟨_, r1.sub.sqL h1⟩, k' F1 H1 n1 r1 _ (wk_scr h1) (by simpa using hz) (fun _ z => nomatch z)⟩
    | str z =>
      refine toI (pi_str pe_w) (main fun F1 H1 n1 r1 hlen v hv => ?_)
      simp only [walkD] at k'
      split at k'
      · next c =>
        cases hv with
        | str _ => exact ⟨z, rfl, k' F1 H1 n1 r1 _ wk_str (by simpa [Str.length] using c) (fun _ z => nomatch z)⟩
      · exact k'.elim
    | _ => exact k'.elim
theorem ji_own {N : List Str} {sc : Scope} {i : Nat} {tg e : Expr} (hN : X.N = N) (hs : X.env.scope = sc) (c : ckVar N sc i e = true) : JI X T (.own i) tg e g (opt g (getL g i)) := by
  intro Mo F H σ R W r tk k
  obtain ⟨xs, hx, k⟩ := Cont.opt k
  obtain ⟨p, vs, e1, e2, e3, e4⟩ := r.ownL hx
  refine toI (pi_list pe_w) (wE_len (j_var hN hs c e1 fun hlen => ?_))
  refine ⟨p, rfl, ⟨vs, SqL.of e3⟩, k F H Nxt.same r _ ?_ (by rw [← e4.length]; exact hlen _ _ (.inl (SqL.of e3))) (fun _ z => by cases z; exact getL_eq hx)⟩
  exact fun i F H ⟨q, hq, ok⟩ f => by
    rw [e1] at hq; cases hq
    exact wk_own i F H ok f
theorem of_small {i : Int} (h : small62 i = true) : -(2 ^ 62) ≤ i ∧ i < 2 ^ 62 := of_decide_eq_true h
theorem ji_rng1 {G : Sg} {con : Nat → Option D} {call : Nat → List Slot → CRes} {n : Nat} {sc : Scope} {tg a : Expr} {a' : E} {q p : Pos} {ra : Res D} (gd : Gd G con call T n X) (hs : X.env.scope = sc) (hg : isGl sc "range" = true) (hx : plainX a = true) (h : JE X T a g ra) :
    JI X T (.rng1 a') tg (.Call (.Name "range" q) [a] [] p) g (ra.bind fun x g1 => opt g1 ((intD x).bind fun j => rngD 0 j)) := by
  intro Mo F H σ R W r tk k
  obtain ⟨g1, g2⟩ := gl_of hs hg
  refine toI (pi_range1 g1 gd.lib.1 (pa_cons pe_w pa_nil (star_cons hx)) (by rw [star_cons hx]; rfl)) (h Mo F H σ _ W r tk (Cont.bind k fun x g1 F1 H1 _ n1 r1 k => fun u hu => ?_))
  obtain ⟨ds, hd, k⟩ := Cont.opt k
  have hi : ∃ j, u = .int j ∧ x = .int j := by cases hu <;> first | exact ⟨_, rfl, rfl⟩ | (cases hd; done)
  obtain ⟨j, rfl, rfl⟩ := hi
  simp only [intD, Option.bind_some] at hd
  unfold rngD at hd
  split at hd
  · next c =>
    cases hd
    simp only [Bool.and_eq_true, decide_eq_true_eq] at c
    have b := of_small c.1.2
    refine ⟨j, rfl, b.1, b.2, ?_⟩
    have e : (j - 0).toNat = j.toNat := by omega
    rw [e] at k c
    exact k F1 H1 Nxt.same r1 _ wk_rng (by simpa [upTo] using c.2) (fun _ z => nomatch z)
  · cases hd
theorem ji_rng2 {G : Sg} {con : Nat → Option D} {call : Nat → List Slot → CRes} {n : Nat} {sc : Scope} {tg a b : Expr} {a' b' : E} {q p : Pos} {ra : Res D} {rb : Fm → Res D} (gd : Gd G con call T n X) (hs : X.env.scope = sc) (hg : isGl sc "range" = true) (hx : plainX a = true) (hy : plainX b = true) (h : JE X T a g ra) (h2 : ∀ g1, JE X T b g1 (rb g1)) :
    JI X T (.rng2 a' b') tg (.Call (.Name "range" q) [a, b] [] p) g (ra.bind fun x g1 => (rb g1).bind fun y g2 => opt g2 ((intD x).bind fun i => (intD y).bind fun j => rngD i j)) := by
  intro Mo F H σ R W r tk k
  obtain ⟨g1, g2⟩ := gl_of hs hg
  have e1 : starEach [b] X.env = [(false, eval b X.env)] := by rw [star_cons hy]; rfl
  have e2 : starEach [a, b] X.env = [(false, eval a X.env), (false, eval b X.env)] := by rw [star_cons hx, e1]
  refine toI (pi_range2 g1 gd.lib.1 (pa_cons pe_w (pa_cons pe_w pa_nil (star_cons hy)) (star_cons hx)) e2 e1) (h Mo F H σ _ W r tk (Cont.bind k fun x g1 F1 H1 _ n1 r1 k => fun u hu => ?_))
  refine h2 g1 Mo F1 H1 σ _ W r1 tk (Cont.bind k fun y g2 F2 H2 _ n2 r2 k => fun v hv => ?_)
  obtain ⟨ds, hd, k⟩ := Cont.opt k
  have hi : ∃ j, u = .int j ∧ x = .int j := by cases hu <;> first | exact ⟨_, rfl, rfl⟩ | (cases hd; done)
  obtain ⟨i, rfl, rfl⟩ := hi
  have hj : ∃ j, v = .int j ∧ y = .int j := by cases hv <;> first | exact ⟨_, rfl, rfl⟩ | (cases hd; done)
  obtain ⟨j, rfl, rfl⟩ := hj
  simp only [intD, Option.bind_some] at hd
  unfold rngD at hd
  split at hd
  · next c =>
    cases hd
    simp only [Bool.and_eq_true, decide_eq_true_eq] at c
    have b1 := of_small c.1.1
    have b2 := of_small c.1.2
    exact ⟨i, j, rfl, ⟨b1.1, b1.2, b2.1, b2.2⟩, k F2 H2 Nxt.same r2 _ wk_rng (by simpa [upTo] using c.2) (fun _ z => nomatch z)⟩
  · cases hd
theorem ji_enu {G : Sg} {con : Nat → Option D} {call : Nat → List Slot → CRes} {n m : Nat} {sc : Scope} {a : Expr} {a' : E} {ts : List Expr} {q p tp : Pos} {ra : Res D} (gd : Gd G con call T n X) (hs : X.env.scope = sc) (hg : isGl sc "enumerate" = true) (hx : plainX a = true) (h : JE X T a g ra) :
    JI X T (.enu a') (.Tuple ts m tp) (.Call (.Name "enumerate" q) [a] [] p) g (ra.bind fun x g1 => match x with
      | .lst xs => .ok (enuD 0 xs) g1
      | _ => .stuck) := by
  intro Mo F H σ R W r tk k
  obtain ⟨g1, g2⟩ := gl_of hs hg
  refine toI (pi_enum g1 gd.lib.2.1 (pa_cons pe_w pa_nil (star_cons hx)) (by rw [star_cons hx]; rfl)) (wE_len (h Mo F H σ _ W r tk (Cont.bind k fun x g1 F1 H1 _ n1 r1 k => fun u hu hlen => ?_)))
  cases hu with
  | lst h1 l =>
    have hz := hlen _ _ (.inl (SqL.of (r1.sub _ _ h1)))
    exact ⟨_, _, rfl, SqL.of (r1.sub _ _ h1), k F1 H1 Nxt.same r1 _ (wk_enu h1 l) (by rw [enu_len, ← l.length]; exact hz) (fun _ z => nomatch z)⟩
  | _ => exact k.elim
end
end DL

set_option Elab.async false
set_option linter.all false
set_option autoImplicit false
set_option maxRecDepth 100000
set_option maxHeartbeats 2000000
/-! DLl: list comprehensions. -/
namespace DL
open PySem L2
section
variable {K : PySem.W.Frag} {T : Tb} {Mo : List Addr} {F H : Hp} {g : Fm} {σ : St}
/-- one more address is watched -/
theorem Rl.guard {d : Addr} {o : HO} (r : Rl K T Mo F H g σ) (hF : F d = none) (hH : H d = some o) (hn : ∀ i, ¬ OwnAt g σ i d) (ht : ∀ p ∈ T.tabs, p.1 ≠ d) : Rl K T (d :: Mo) F H g σ :=
  ⟨r.sub, fun a ha => by
    rcases List.mem_cons.mp ha with e | e
    · subst e; exact ⟨hF, o, hH⟩
    · exact r.mo a e, r.len, r.sl, r.sep, fun i p hp ha => by
    rcases List.mem_cons.mp ha with e | e
    · subst e; exact hn i hp
    · exact r.out i p hp e, fun p hp => ⟨fun h => (List.mem_cons.mp h).elim (ht p hp) (r.tab p hp).1, (r.tab p hp).2⟩⟩
theorem Rl.unguard {d : Addr} (r : Rl K T (d :: Mo) F H g σ) : Rl K T Mo F H g σ :=
  ⟨r.sub, fun a ha => r.mo a (List.mem_cons_of_mem _ ha), r.len, r.sl, r.sep, fun i p hp ha => r.out i p hp (List.mem_cons_of_mem _ ha), fun p hp => ⟨fun h => (r.tab p hp).1 (List.mem_cons_of_mem _ h), (r.tab p hp).2⟩⟩
/-- a watched thing is written -/
theorem Rl.wrMo {d : Addr} {o : HO} (r : Rl K T Mo F H g σ) (hd : d ∈ Mo) : Rl K T Mo F (upd H d o) g σ := by
  have hF := (r.mo d hd).1
  refine ⟨r.sub.wr hF, fun a ha => ?_, r.len, fun i s hs => ?_, r.sep, r.out, fun q hq => ⟨(r.tab q hq).1, (r.tab q hq).2.step Sub.same (r.tab q hq).2.1 (upd_ne fun e => (r.tab q hq).1 (e ▸ hd))⟩⟩
  · by_cases e : a = d
    · subst e; exact ⟨hF, o, upd_same⟩
    · obtain ⟨h1, u, h2⟩ := r.mo a ha
      exact ⟨h1, u, by rw [upd_ne e]; exact h2⟩
  · have z := r.sl i s hs
    cases s with
    | un => trivial
    | dat d' => exact z
    | own o' =>
      obtain ⟨p, a1, a2, a3⟩ := z
      have ne : p ≠ d := fun e => r.out i p ⟨⟨o', hs⟩, a1⟩ (e ▸ hd)
      exact ⟨p, a1, a2, a3.mono Sub.same (upd_ne ne)⟩
/-- the slot gets back what it held -/
theorem Rl.restore {j : Nat} {x : Option V} {s : Slot} (r : Rl K T Mo F H g (σ.set j x)) (h : ∀ o, s ≠ .own o) (hs : SlR K T F H s σ[j]?) : Rl K T Mo F H (g.set j s) σ := by
  have back : ∀ i p, OwnAt (g.set j s) σ i p → OwnAt g (σ.set j x) i p := fun i p ⟨⟨o, h1⟩, h2⟩ => by
    by_cases e : j = i
    · subst e
      have lt : j < g.length := by
        have := (List.getElem?_eq_some_iff.mp h1).1
        simpa using this
      rw [List.getElem?_set_self lt] at h1
      exact absurd (Option.some.inj h1) (h o)
    · rw [List.getElem?_set_ne e] at h1
      exact ⟨⟨o, h1⟩, by rw [List.getElem?_set_ne e]; exact h2⟩
  refine ⟨r.sub, r.mo, by have := r.len; simpa using this, fun i s' hi => ?_, fun a b p ha hb => r.sep a b p (back a p ha) (back b p hb), fun i p hi => r.out i p (back i p hi), r.tab⟩
  by_cases e : j = i
  · subst e
    have lt : j < g.length := by
      have := (List.getElem?_eq_some_iff.mp hi).1
      simpa using this
    rw [List.getElem?_set_self lt] at hi
    cases hi
    exact hs
  · rw [List.getElem?_set_ne e] at hi
    have z := r.sl i s' hi
    rw [List.getElem?_set_ne e] at z
    exact z
end
/-! ### within a block -/
def wPTs (X : Cx) (ifs : List Expr) : TT := fun σ H Q => ∀ (pins : List (Addr × Obj)) (s : Shared), Inv X pins σ H s → wpAny (model X.prog X.w) X.A (forIn ifs true fun c r => if r = true then do let ok ← isTrue c X.env (eval c X.env); pure (ForInStep.yield ok) else pure (ForInStep.yield r)) (TP X pins σ Q) X.xe s
def JIf (X : Cx) (T : Tb) (ifs : List Expr) (g : Fm) (r : Res Bool) : Prop := ∀ Mo F H σ Q W, Rl X.K T Mo F H g σ → L2.Takes X W → Cont X.K T Mo F H σ W r (fun b _ _ H' => Q b H') → wPTs X ifs σ H Q
theorem jif_nil {X : Cx} {T : Tb} {g : Fm} : JIf X T [] g (.ok true g) := by
  intro Mo F H σ Q W r tk k pins s I
  exact pts_nil.run pins s σ H Q I (k F H Nxt.same r)
theorem jif_one {X : Cx} {T : Tb} {g : Fm} {c : Expr} {rt : Res Bool} (h : JT X T c g rt) : JIf X T [c] g rt := by
  intro Mo F H σ Q W r tk k pins s I
  exact (pts_one pt_w).run pins s σ H Q I (h Mo F H σ Q W r tk k)
def blkOf (X : Cx) (sc' : Scope) (s : Shared) (H : Hp) (C : Addr) (cl : List (Str × Addr)) (fp : List Addr) : Cx := X.blk s H sc' (compEnvC sc' cl C X.env) fp
def teB (X : Cx) (sc' : Scope) (e : Expr) : TE := fun σ H Q => ∀ s H0 C cl fp, wE (blkOf X sc' s H0 C cl fp) e σ H Q
def ttB (X : Cx) (sc' : Scope) (ifs : List Expr) : TT := fun σ H Q => ∀ s H0 C cl fp, wPTs (blkOf X sc' s H0 C cl fp) ifs σ H Q
theorem pe_teB {X : Cx} {sc' : Scope} {e : Expr} (s : Shared) (H : Hp) (C : Addr) (cl : List (Str × Addr)) (fp : List Addr) : PE (X.blk s H sc' (compEnvC sc' cl C X.env) fp) e (teB X sc' e) := ⟨fun pins s' _ _ _ I h => h s H C cl fp pins s' I⟩
theorem pt_ttB {X : Cx} {sc' : Scope} {ifs : List Expr} (s : Shared) (H : Hp) (C : Addr) (cl : List (Str × Addr)) (fp : List Addr) : PTs (X.blk s H sc' (compEnvC sc' cl C X.env) fp) ifs (ttB X sc' ifs) := ⟨fun pins s' _ _ _ I h => h s H C cl fp pins s' I⟩
/-- one turn -/
noncomputable def lcStep (j : Nat) (kp : Option Nat) (rt : Fm → Res Bool) (re : Fm → Res D) (x : D) (h : Fm) : Res (Option D) :=
  keepR kp h ((rt (h.set j (.dat x))).bind fun b h1 => if b then (re h1).bind fun y h2 => .ok (some y) (h2.set j .un) else .ok none (h1.set j .un))
noncomputable def lcR (j : Nat) (kp : Option Nat) (ri : Res (List D)) (rt : Fm → Res Bool) (re : Fm → Res D) : Res D :=
  ri.bind fun ds g1 => if kp = some j then .stuck else match g1[j]? with
    | none => .stuck
    | some (.own _) => .stuck
    | some s => (noExc (lcD (lcStep j kp rt re) ds (g1.set j .un))).bind fun ys h => .ok (.lst ys) (h.set j s)
theorem step_ok {j : Nat} {kp : Option Nat} {rt : Fm → Res Bool} {re : Fm → Res D} {x : D} {h h' : Fm} {o : Option D} (e : lcStep j kp rt re x h = .ok o h') :
    (∀ i, kp = some i → h'[i]? = h[i]?) ∧ ∃ b h1, rt (h.set j (.dat x)) = .ok b h1 ∧ if b then ∃ y h2, re h1 = .ok y h2 ∧ o = some y ∧ h' = h2.set j .un else o = none ∧ h' = h1.set j .un := by
  unfold lcStep at e
  cases e1 : rt (h.set j (.dat x)) with
  | stuck => rw [e1] at e; cases e
  | exc z h1 => rw [e1] at e; cases e
  | ok b h1 =>
    rw [e1] at e
    simp only [Res.bind] at e
    cases b with
    | false =>
      simp only [Bool.false_eq_true, if_false, keepR] at e
      split at e
      · next c => cases e; exact ⟨c, false, h1, rfl, rfl, rfl⟩
      · cases e
    | true =>
      simp only [if_true] at e
      cases e2 : re h1 with
      | stuck => rw [e2] at e; cases e
      | exc z h2 => rw [e2] at e; cases e
      | ok y h2 =>
        rw [e2] at e
        simp only [keepR] at e
        split at e
        · next c => cases e; exact ⟨c, true, h1, rfl, y, h2, e2, rfl, rfl⟩
        · cases e
theorem lc_read {G : Sg} {con : Nat → Option D} {call : Nat → List Slot → CRes} {n : Nat} {X : Cx} {T : Tb} {g : Fm} {N : List Str} {sc sc' : Scope} {j : Nat} {y : Str} {el it : Expr} {py : Pos} {ifs : List Expr} {it' : It'} {ri : Res (List D)} {rt : Fm → Res Bool} {re : Fm → Res D}
    (gd : Gd G con call T n X) (hN : X.N = N) (hs : X.env.scope = sc)
    (hi : JI X T it' (.Name y py) it g ri) (ht : ∀ X', Gd G con call T n X' → X'.N = N → X'.env.scope = relS sc' sc → ∀ g1, JIf X' T ifs g1 (rt g1)) (he : ∀ X', Gd G con call T n X' → X'.N = N → X'.env.scope = relS sc' sc → ∀ g1, JE X' T el g1 (re g1))
    {Mo : List Addr} {F H : Hp} {σ : St} {Q : VK} {W : WX} (r : Rl X.K T Mo F H g σ) (tk : L2.Takes X W)
    (k : Cont X.K T Mo F H σ W (lcR j it'.keep ri rt re) (fun d g' F' H' => ∀ p vs ds, d = .lst ds → F' p = none → p ∉ Mo → (∀ i, ¬ OwnAt g' σ i p) → H' p = some (.lst vs) → IsL X.K T F' vs ds → Q (.ref p) H')) :
    tLc (wI X (.Name y py) it) (gName j) (ttB X sc' ifs) (teB X sc' el) [j] σ H Q := by
  refine hi Mo F H σ _ W r tk (Cont.bind k fun ds g1 F1 H1 _ n1 r1 k => fun J wk hlen hkp => fun L hL => ?_)
  have hj : it'.keep ≠ some j := fun e => by rw [if_pos e] at k; exact k.elim
  rw [if_neg hj] at k
  -- the slot of the name
  have hsl : ∃ s, g1[j]? = some s ∧ (∀ o, s ≠ .own o) ∧ Cont X.K T Mo F1 H1 σ W ((noExc (lcD (lcStep j it'.keep rt re) ds (g1.set j .un))).bind fun ys h => Res.ok (D.lst ys) (h.set j s)) (fun (d : D) g' F' H' => ∀ p vs ds, d = .lst ds → F' p = none → p ∉ Mo → (∀ i, ¬ OwnAt g' σ i p) → H' p = some (.lst vs) → IsL X.K T F' vs ds → Q (.ref p) H') := by
    cases e : g1[j]? with
    | none => rw [e] at k; exact k.elim
    | some s =>
      rw [e] at k
      cases s with
      | un => exact ⟨.un, rfl, (fun _ z => nomatch z), k⟩
      | dat d => exact ⟨.dat d, rfl, (fun _ z => nomatch z), k⟩
      | own o => exact k.elim
  obtain ⟨s, hs1, hs2, k⟩ := hsl
  -- it comes to an end
  have hend : ∃ ys h, lcD (lcStep j it'.keep rt re) ds (g1.set j .un) = .ok ys h ∧ Cont X.K T Mo F1 H1 σ W (Res.ok (D.lst ys) (h.set j s)) (fun (d : D) g' F' H' => ∀ p vs ds, d = .lst ds → F' p = none → p ∉ Mo → (∀ i, ¬ OwnAt g' σ i p) → H' p = some (.lst vs) → IsL X.K T F' vs ds → Q (.ref p) H') := by
    cases e : lcD (lcStep j it'.keep rt re) ds (g1.set j .un) with
    | ok ys h => rw [e] at k; exact ⟨ys, h, rfl, k⟩
    | exc x h => rw [e] at k; exact k.elim
    | stuck => rw [e] at k; exact k.elim
  obtain ⟨ys, hE, hend, k⟩ := hend
  obtain ⟨a1, a2, a3⟩ := r1.apart hL
  -- the invariant
  refine ⟨fun i m H' => m = ds.length - i ∧ i ≤ ds.length ∧ ∃ F' h acc ds', Rl X.K T (L :: Mo) F' H' h (σ.set j none) ∧ (∀ i, it'.keep = some i → h[i]? = g1[i]?) ∧ Nxt Mo F1 H1 F' H' ∧ H' L = some (.lst acc) ∧ IsL X.K T F' acc ds' ∧ acc.length ≤ i ∧
    .ok ys hE = ((lcD (lcStep j it'.keep rt re) (ds.drop i) h).bind fun zs g => .ok (ds' ++ zs) g), ⟨ds.length, by simp, Nat.zero_le _, F1, g1.set j .un, [], [], ?_, ?_, Nxt.newO r1 hL, upd_same, .nil, Nat.le_refl _, ?_⟩, ?_⟩
  · exact ((r1.newO hL).guard a1 upd_same a3 fun p hp e => by obtain ⟨_, ps, h, _⟩ := (r1.tab p hp).2; rw [e, hL] at h; cases h).drop.wipe none
  · intro i hi
    exact List.getElem?_set_ne fun e => hj (by rw [hi, e])
  · rw [List.drop_zero, hend]; rfl
  · rintro i m H' ⟨rfl, hil, F', h, acc, ds', r', hk', n', hL', hacc, hlen', heq⟩
    have ok' : OkI X.K T it' σ F1 ds F' H' := by
      cases it' with
      | own i' =>
        have h1 : h[i']? = some (.own (.lst ds)) := (hk' i' rfl).trans (hkp i' rfl)
        obtain ⟨p, e1, _, e3⟩ := r'.own h1
        rw [List.getElem?_set_ne (fun e => hj (by rw [e]; rfl))] at e1
        exact ⟨p, e1, e3⟩
      | _ => exact n'.sub
    obtain ⟨w1, w2⟩ := wk i F' H' ok' r'.sub
    by_cases hlt : i < ds.length
    · right
      have hx : ds[i]? = some ds[i] := List.getElem?_eq_getElem hlt
      obtain ⟨go, yl⟩ := w1 _ hx
      refine ⟨go, fun H5 => i + 1 ≤ ds.length ∧ ∃ F' h acc ds', Rl X.K T (L :: Mo) F' H5 h (σ.set j none) ∧ (∀ i, it'.keep = some i → h[i]? = g1[i]?) ∧ Nxt Mo F1 H1 F' H5 ∧ H5 L = some (.lst acc) ∧ IsL X.K T F' acc ds' ∧ acc.length ≤ i + 1 ∧
        .ok ys hE = ((lcD (lcStep j it'.keep rt re) (ds.drop (i + 1)) h).bind fun zs g => .ok (ds' ++ zs) g), fun H5 q => ⟨ds.length - (i + 1), by omega, rfl, q⟩, fun v H2 hy => ?_⟩
      obtain ⟨F2, al, hv⟩ := yl v H2 hy
      obtain ⟨r2, n2⟩ := al.rl r'
      -- this turn comes to an end
      rw [List.drop_eq_getElem_cons hlt] at heq
      simp only [lcD] at heq
      cases e : lcStep j it'.keep rt re ds[i] h with
      | stuck => rw [e] at heq; cases heq
      | exc x h1 => rw [e] at heq; cases heq
      | ok o h5 =>
        rw [e] at heq
        obtain ⟨kp, b, h1, e1, e2⟩ := step_ok e
        have r3 : Rl X.K T (L :: Mo) F2 H2 (h.set j (.dat ds[i])) ((σ.set j none).set j (some v)) := r2.setD hv
        have hσ : (σ.set j none).set j (some v) = σ.set j (some v) := by rw [List.set_set]
        show wipe ((σ.set j none).set j (some v)) [j] = wipe σ [j] ∧ _
        refine ⟨by show ((σ.set j none).set j (some v)).set j none = σ.set j none; rw [List.set_set, List.set_set], ?_⟩
        show ttB X sc' ifs ((σ.set j none).set j (some v)) H2 _
        intro s0 H0 C cl fp
        have gB : Gd G con call T n (blkOf X sc' s0 H0 C cl fp) := gd.blk s0 H0 sc' _ _ fp
        have sB : (blkOf X sc' s0 H0 C cl fp).env.scope = relS sc' sc := by rw [← hs]; rfl
        refine ht _ gB hN sB (h.set j (.dat ds[i])) (L :: Mo) F2 H2 _ _ (fun _ _ _ _ => False) r3 takes0 ?_
        rw [e1]
        intro F3 H3 n3 r3'
        cases b with
        | false =>
          simp only [Bool.false_eq_true, if_false] at e2
          obtain ⟨rfl, rfl⟩ := e2
          show _ ≤ _ ∧ _
          refine ⟨hlt, F3, h1.set j .un, acc, ds', ?_, fun i hi => (kp i hi).trans (hk' i hi), ?_, ?_, ?_, by omega, ?_⟩
          · have := (r3'.drop (i := j)).wipe none
            rw [List.set_set, List.set_set] at this
            exact this
          · have nn := n2.trans n3
            exact n'.trans ⟨nn.sub, fun a ha => nn.mo a (List.mem_cons_of_mem _ ha)⟩
          · rw [n3.mo L List.mem_cons_self, n2.mo L List.mem_cons_self]; exact hL'
          · exact hacc.mono (n2.sub.trans n3.sub)
          · rw [heq]
            simp only [Res.bind]
            cases lcD (lcStep j it'.keep rt re) (ds.drop (i + 1)) (h1.set j .un) with
            | ok zs g5 => simp [Res.bind]
            | exc x g5 => rfl
            | stuck => rfl
        | true =>
          simp only [if_true] at e2
          obtain ⟨y', h2, e3, rfl, rfl⟩ := e2
          show teB X sc' el ((σ.set j none).set j (some v)) H3 _
          intro s0 H0 C cl fp
          have gB : Gd G con call T n (blkOf X sc' s0 H0 C cl fp) := gd.blk s0 H0 sc' _ _ fp
          have sB : (blkOf X sc' s0 H0 C cl fp).env.scope = relS sc' sc := by rw [← hs]; rfl
          refine he _ gB hN sB h1 (L :: Mo) F3 H3 _ _ (fun _ _ _ _ => False) r3' takes0 ?_
          rw [e3]
          intro F4 H4 n4 r4 w hw
          have hL4 : H4 L = some (.lst acc) := by rw [n4.mo L List.mem_cons_self, n3.mo L List.mem_cons_self, n2.mo L List.mem_cons_self]; exact hL'
          refine ⟨acc, hL4, by omega, hlt, F4, h2.set j .un, acc ++ [w], ds' ++ [y'], ?_, fun i hi => (kp i hi).trans (hk' i hi), ?_, upd_same, ?_, by simp; omega, ?_⟩
          · have := ((r4.drop (i := j)).wipe none).wrMo (d := L) (o := .lst (acc ++ [w])) List.mem_cons_self
            rw [List.set_set, List.set_set] at this
            exact this
          · have nn := (n2.trans n3).trans n4
            refine n'.trans ⟨nn.sub, fun a ha => ?_⟩
            rw [upd_ne (fun e => a2 (by rw [← e]; exact ha))]
            exact nn.mo a (List.mem_cons_of_mem _ ha)
          · exact (hacc.mono ((n2.sub.trans n3.sub).trans n4.sub)).append (.cons hw .nil)
          · rw [heq]
            simp only [Res.bind]
            cases lcD (lcStep j it'.keep rt re) (ds.drop (i + 1)) (h2.set j .un) with
            | ok zs g5 => simp [Res.bind]
            | exc x g5 => rfl
            | stuck => rfl
    · left
      have ei : i = ds.length := by omega
      subst ei
      refine ⟨w2 (Nat.le_refl _), ?_⟩
      rw [List.drop_length] at heq
      simp only [lcD, Res.bind, List.append_nil] at heq
      cases heq
      have rest : SlR X.K T F' H' s σ[j]? := by
        have z := r1.sl j s hs1
        cases s with
        | un => trivial
        | dat d => obtain ⟨v, b1, b2⟩ := z; exact ⟨v, b1, b2.mono n'.sub⟩
        | own o => exact absurd rfl (hs2 o)
      have rR : Rl X.K T (L :: Mo) F' H' (hE.set j s) σ := r'.restore hs2 rest
      exact k F' H' n' rR.unguard L acc ys rfl (rR.mo L List.mem_cons_self).1 a2 (fun i hi => rR.out i L hi List.mem_cons_self) hL' hacc
end DL

set_option Elab.async false
set_option linter.all false
set_option autoImplicit false
set_option maxRecDepth 100000
set_option maxHeartbeats 4000000
/-! DLr: sets of texts: made of a list or a tuple, told in order. -/
namespace DL
open PySem PySem.Spec PyProof.Rows L2

abbrev Ent := Int × Value
def entTx (e : Ent) : Str := match e.2 with
  | .str x _ => x
  | _ => Str.empty
def TxE (w : World) (e : Ent) : Prop := ∃ (x : Str) (tk : Tok), e.2 = Value.str x tk ∧ e.1 = hashStr w x
/-- what the entries of a set of texts and its table are -/
structure TxSet (w : World) (es : Array Ent) (t : SetTable) (M : Str → Prop) : Prop where
  good : ∀ e ∈ es.toList, TxE w e
  nd : (es.toList.map entTx).Nodup
  mem : ∀ x, M x ↔ x ∈ es.toList.map entTx
  small : es.size < scanBound
  fits : t.fits es.size = true
  ris : Ris t.place.toList
  led : w.params.followText "set-order" = true ∨ t.led = true
/-- a set of texts stands at a: M are its members, n is their number -/
def SetT (w : World) (h : Heap) (a : Addr) (M : Str → Prop) (n : Nat) : Prop :=
  ∃ (o : Obj) (es : Array Ent) (ep : Nat) (t : SetTable), h.get? a = some o ∧ o.ExactSet ∧ o.data = .set es ep t ∧ es.size = n ∧ TxSet w es t M
section
variable {P : Program} {w : World} {h h' : Heap} {a : Addr} {M : Str → Prop} {n : Nat}
theorem SetT.at (r : SetT w h a M n) (k : ∀ o, h.get? a = some o → h'.get? a = some o) : SetT w h' a M n := by
  obtain ⟨o, es, ep, t, e, q⟩ := r
  exact ⟨o, es, ep, t, k o e, q⟩
theorem SetT.congr {M' : Str → Prop} (r : SetT w h a M n) (e : ∀ x, M' x ↔ M x) : SetT w h a M' n := by
  obtain ⟨o, es, ep, t, e1, e2, e3, e4, q⟩ := r
  exact ⟨o, es, ep, t, e1, e2, e3, e4, { q with mem := fun x => (e x).trans (q.mem x) }⟩
theorem tx_elems {l : List Ent} (g : ∀ e ∈ l, TxE w e) : ElemsOf (PySem.strKind P w) l := fun e he => by
  obtain ⟨x, tk, e1, e2⟩ := g e he
  refine ⟨⟨x, ?_, e2⟩, ?_⟩
  · rw [e1]; exact strKind_is P w x tk
  · rw [e1]; rfl
theorem tx_is {e : Ent} (g : TxE w e) (x : Str) : (PySem.strKind P w).is x e.2 = true ↔ entTx e = x := by
  obtain ⟨y, tk, e1, _⟩ := g
  unfold entTx
  rw [e1]
  constructor
  · intro z
    exact (PySem.strKind P w).inj (.str y tk) y x (strKind_is P w y tk) z
  · intro z
    have z : y = x := z
    subst z
    exact strKind_is P w y tk
theorem tx_mem {l : List Ent} (g : ∀ e ∈ l, TxE w e) (x : Str) : x ∈ l.map entTx ↔ ∃ e ∈ l, (PySem.strKind P w).is x e.2 = true := by
  simp only [List.mem_map]
  exact ⟨fun ⟨e, he, q⟩ => ⟨e, he, (tx_is (g e he) x).mpr q⟩, fun ⟨e, he, q⟩ => ⟨e, he, (tx_is (g e he) x).mp q⟩⟩
end
section
variable {P : Program} {w : World} {A : Around} {E : Value → Shared → Prop} {s : Shared} {a : Addr} {M : Str → Prop} {n : Nat}
/-- the entries are stored, the table laid anew where it is full -/
theorem txset_store {g : Bool → Sem Unit} (hg : ∀ (b : Bool) (s1 : Shared) (Q1 : Unit → Shared → Prop), Q1 () s1 → wpAny (model P w) A (g b) Q1 E s1)
    {o : Obj} {es es1 : Array Ent} {ep : Nat} {t t2 : SetTable} (ho : s.heap.get? a = some o) (hx : o.ExactSet) (hd : o.data = .set es ep t) (T : TxSet w es1 t2 M) {dm : Bool} {R : Option Bool → Shared → Prop}
    (hR : ∀ h2, Heap.SameBut a s.heap h2 → SetT w h2 a M es1.size → R (some true) { s with heap := h2 }) :
    wpAny (model P w) A (do
        storeSet a es1 t2
        if (!dm && t2.tooFull) = true then do
            g (relayAll t2 es1 (SetTable.grown es1.size)).2.2
            storeSet a (relayAll t2 es1 (SetTable.grown es1.size)).1 (relayAll t2 es1 (SetTable.grown es1.size)).2.1
            pure (some true)
          else pure (some true)) R E s := by
  have fit1 := fits_of_scanBound T.small
  refine wpAny_bind (wpAny_storeSet_of ho hd ?_ fit1)
  have at1 := store_at (es' := es1) (t' := t2) ho hd
  have but1 := Heap.SameBut.update s.heap a (Obj.putSet es1 t2)
  by_cases full : (!dm && t2.tooFull) = true
  · rw [if_pos full]
    have q1 := relayAll_perm t2 es1 (SetTable.grown es1.size)
    have q2 := relayAll_fits t2 es1 (SetTable.grown es1.size)
    have q3 := relayAll_ris t2 es1 (SetTable.grown es1.size)
    have q4 := relayAll_led t2 es1 (SetTable.grown es1.size)
    generalize relayAll t2 es1 (SetTable.grown es1.size) = z at q1 q2 q3 q4 ⊢
    obtain ⟨es2, t3, gv⟩ := z
    dsimp only at q1 q2 q3 q4 ⊢
    have eq : es2.size = es1.size := by
      have := q1.length_eq
      simpa using this
    have sm : es2.size < scanBound := eq ▸ T.small
    refine wpAny_bind (hg _ _ _ (wpAny_bind (wpAny_storeSet_of at1 rfl ?_ (fits_of_scanBound sm))))
    have at2 := store_at (es' := es2) (t' := t3) at1 rfl
    refine wpAny_pure (hR _ (but1.trans (Heap.SameBut.update _ a _)) ⟨_, es2, _, t3, at2, hx, rfl, eq, ?_⟩)
    have pm := q1.map entTx
    exact ⟨fun e he => T.good e (q1.mem_iff.mp he), pm.nodup_iff.mpr T.nd, fun x => (T.mem x).trans pm.mem_iff.symm, sm, q2, q3, T.led.imp id fun z => by rw [q4]; exact z⟩
  · rw [if_neg full]
    exact wpAny_pure (hR _ but1 ⟨_, es1, _, t2, at1, hx, rfl, rfl, T⟩)
/-- a text is laid into it -/
theorem txset_add {x : Str} {tk : Tok} {Q : Bool → Shared → Prop} (r : SetT w s.heap a M n) (room : n + 1 < scanBound)
    (hQ : ∀ b h2 m, Heap.SameBut a s.heap h2 → m ≤ n + 1 → SetT w h2 a (fun y => M y ∨ y = x) m → Q b { s with heap := h2 }) :
    wpAny (model P w) A (setAddHashed a (.str x tk) ((PySem.strKind P w).hash x)) Q E s := by
  obtain ⟨o, es, ep, t, ho, hx, hd, hn, T⟩ := r
  have key : (PySem.strKind P w).is x (.str x tk) = true := strKind_is P w x tk
  have sc : (Value.str x tk).scannable = true := rfl
  have el : ElemsOf (PySem.strKind P w) es.toList := tx_elems T.good
  have quiet : ∀ (b : Bool) (s1 : Shared) (Q1 : Unit → Shared → Prop), Q1 () s1 → wpAny (model P w) A (match b with | true => rule "set.scan.the-table-gave-way" | false => pure ()) Q1 E s1 := by
    intro b s1 Q1 q
    cases b
    · exact wpAny_pure q
    · exact wpAny_rule q
  unfold setAddHashed setAddHashedIn
  refine wpAny_holding (wpAny_bind (wpAny_setState_of ho hd T.fits ?_))
  dsimp only
  rw [byScan_of sc T.small el, if_pos rfl]
  unfold setAddByScan
  refine wpAny_bind (wpAny_bind (wpAny_rule (wpAny_bind (wpAny_setScan_of key ho hd T.fits el ?_))))
  cases fi : List.findIdx? (fun e => (PySem.strKind P w).is x e.2) es.toList with
  | some j =>
    dsimp only
    obtain ⟨hj, pj, _⟩ := List.findIdx?_eq_some_iff_getElem.mp fi
    have hM : M x := (T.mem x).mpr ((tx_mem (P := P) (w := w) T.good x).mpr ⟨_, List.getElem_mem hj, pj⟩)
    refine wpAny_pure (wpAny_pure (hQ _ s.heap n (Heap.SameBut.refl a s.heap) (Nat.le_succ n) ?_))
    refine SetT.congr ⟨o, es, ep, t, ho, hx, hd, hn, T⟩ fun y => ⟨fun z => z.elim id fun e => by rw [e]; exact hM, .inl⟩
  | none =>
    dsimp only
    have nk : x ∉ es.toList.map entTx := by
      intro z
      obtain ⟨e, he, q⟩ := (tx_mem (P := P) (w := w) T.good x).mp z
      have c := List.findIdx?_eq_none_iff.mp fi e he
      rw [q] at c; cases c
    have q1 := layNew_perm t es ((PySem.strKind P w).hash x) (.str x tk)
    have q2 := layNew_fits t es ((PySem.strKind P w).hash x) (.str x tk)
    have q3 := layNew_ris t es ((PySem.strKind P w).hash x) (.str x tk) T.ris
    have q4 := layNew_led t es ((PySem.strKind P w).hash x) (.str x tk)
    generalize layNew t es ((PySem.strKind P w).hash x) (.str x tk) = z at q1 q2 q3 q4 ⊢
    obtain ⟨es1, t1, dm, gv⟩ := z
    dsimp only at q1 q2 q3 q4 ⊢
    rw [Array.toList_push] at q1
    have pc : es1.toList.Perm (((PySem.strKind P w).hash x, Value.str x tk) :: es.toList) := q1.trans (List.perm_append_singleton _ _)
    have pk : (es1.toList.map entTx).Perm (x :: es.toList.map entTx) := pc.map entTx
    have sz : es1.size = n + 1 := by
      have := pc.length_eq
      simp only [List.length_cons, Array.length_toList] at this
      omega
    have T1 : ∀ t' : SetTable, t'.fits es1.size = true → Ris t'.place.toList → (w.params.followText "set-order" = true ∨ t'.led = true) → TxSet w es1 t' (fun y => M y ∨ y = x) := fun t' f1 f2 f3 =>
      ⟨fun e he => by
        rcases List.mem_cons.mp (pc.mem_iff.mp he) with z | z
        · rw [z]; exact ⟨x, tk, rfl, rfl⟩
        · exact T.good e z, pk.nodup_iff.mpr (List.nodup_cons.mpr ⟨nk, T.nd⟩), fun y => by
        rw [pk.mem_iff, List.mem_cons, T.mem y]
        exact Or.comm, sz ▸ room, f1, f2, f3⟩
    have led1 : w.params.followText "set-order" = true ∨ t1.led = true := T.led.imp id fun z => by rw [q4]; exact z
    have fin : ∀ h2, Heap.SameBut a s.heap h2 → SetT w h2 a (fun y => M y ∨ y = x) es1.size → Q true { s with heap := h2 } := fun h2 sb r => hQ true h2 _ sb (Nat.le_of_eq sz) r
    refine wpAny_bind (quiet _ _ _ ?_)
    split
    · rw [hashByValue_scannable 8 sc]
      refine wpAny_bind (wpAny_pure ?_)
      refine txset_store (M := fun y => M y ∨ y = x) quiet ho hx hd (T1 _ ?_ ?_ ?_) fun h2 sb r => ?_
      · first | exact q2 | (split <;> first | exact q2 | exact SetTable.fits_plain_off q2)
      · first | exact q3 | (split <;> exact q3)
      · first | exact led1 | (split <;> exact led1)
      · dsimp only; exact wpAny_pure (fin h2 sb r)
    · refine wpAny_bind (wpAny_pure ?_)
      rw [if_pos rfl]
      refine txset_store (M := fun y => M y ∨ y = x) quiet ho hx hd (T1 _ q2 q3 led1) fun h2 sb r => ?_
      dsimp only; exact wpAny_pure (fin h2 sb r)
/-- set.update's loop over an iterator of texts -/
theorem txset_loop {I : Addr} {fp wr : List Addr} {G : Array GenState → Array GenState → Prop} {m : Nat} {Pv : Nat → Value → Prop} {St : Nat → Shared → Prop} {R : Result → Shared → Prop}
    (W : WalksS P w A.in1 I fp wr G m Pv St) (p : Addr) (hp : p ∉ fp) (xs : List Str) (hm : m = xs.length) (room : xs.length + 1 < scanBound) (val : ∀ i v, Pv i v → ∃ x t, xs[i]? = some x ∧ v = .str x t) :
    ∀ (d i : Nat) (s : Shared), m - i = d → i ≤ m → St i s → (∃ c, c ≤ i ∧ SetT w s.heap p (fun y => y ∈ xs.take i) c) →
      (∀ s2 c, Moved (p :: wr) G s s2 → c ≤ m → SetT w s2.heap p (fun y => y ∈ xs) c → R (.ok (.ret .none)) s2) →
      codeAny (model P w) A (.builtin "set.update.loop" ⟨[.ref p, .ref I], []⟩) R s := by
  have pw : p ∉ wr := fun z => hp (W.sub _ z)
  have wid : ∀ b ∈ wr, b ∈ p :: wr := fun b hb => List.mem_cons_of_mem _ hb
  intro d
  induction d with
  | zero =>
    intro i s e1 e2 st ⟨c, hc, hS⟩ hR
    obtain rfl : i = m := by omega
    refine codeAny_builtin F.entry_set_update_loop ?_
    rw [Around.under_plainId F.plain_set_update_loop _]
    show wpAny _ A.in1 (pyNext (.ref I) >>= _) _ _ s
    refine wpAny_bind (W.done s _ _ st fun s2 mv => ?_)
    show wpAny _ A.in1 (ret Value.none) _ _ s2
    refine wpAny_pure (hR s2 c (mv.mono wid) hc ?_)
    rw [List.take_of_length_le (by omega)] at hS
    exact hS.at fun o e => mv.heap p o pw e
  | succ d ih =>
    intro i s e1 e2 st ⟨c, hc, hS⟩ hR
    have lt : i < m := by omega
    refine codeAny_builtin F.entry_set_update_loop ?_
    rw [Around.under_plainId F.plain_set_update_loop _]
    show wpAny _ A.in1 (pyNext (.ref I) >>= _) _ _ s
    refine wpAny_bind (W.item i s _ _ lt st fun v s2 hv st2 mv => ?_)
    obtain ⟨x, t, hx, rfl⟩ := val i v hv
    have hS2 : SetT w s2.heap p (fun y => y ∈ xs.take i) c := hS.at fun o e => mv.heap p o pw e
    show wpAny _ A.in1 (holding [Value.str x t] (setAdd p (.str x t)) >>= _) _ _ s2
    refine wpAny_bind (wpAny_holding ?_)
    unfold setAdd
    refine wpAny_holding (wpAny_bind ((PySem.strKind P w).pyHash (k := x) (strKind_is _ _ _ _) ?_))
    refine txset_add (s := { s2 with toks := s2.toks + 1 }) hS2 (by omega) fun _ h3 c3 sb hc3 hS3 => ?_
    have hS4 : SetT w h3 p (fun y => y ∈ xs.take (i + 1)) c3 := hS3.congr fun y => by
      rw [List.take_add_one, hx]
      simp [List.mem_append]
    refine wpAny_pure ⟨plainId_quiet F.plain_set_update_loop _, ih (i + 1) _ (by omega) lt (W.frame _ s2 _ _ st2 (Nat.le_succ _) fun b hb o e => ?_) ⟨c3, by omega, hS4⟩ fun s5 c5 mv5 hc5 hS5 => ?_⟩
    · have nb : b ≠ p := fun z => hp (z ▸ hb)
      rw [sb.2 b nb]; exact e
    · refine hR s5 c5 (Moved.trans W.gtrans ((mv.mono wid).then_heap (Nat.le_succ _) fun b o hb e => ?_) mv5) hc5 hS5
      have nb : b ≠ p := fun z => hb (by rw [z]; exact List.mem_cons_self)
      rw [sb.2 b nb]; exact e
theorem setT_fresh {h : Heap} {xs : List Str} (ho : h.get? a = some { cls := .type "set", dict := none, data := .set #[] 0 (.fresh 0 0 (!w.params.followText "set-order")) }) : SetT w h a (fun y => y ∈ xs.take 0) 0 := by
  refine ⟨_, #[], 0, _, ho, ⟨rfl, rfl, rfl⟩, rfl, rfl, ⟨fun e he => by simp at he, by simp, fun x => by simp, by decide, rfl, List.Pairwise.nil, ?_⟩⟩
  show _ ∨ (!w.params.followText "set-order") = true
  cases w.params.followText "set-order" <;> simp
/-- set(l), l a list or a tuple of texts: hIter: how its iterator begins, hW: that it walks them -/
theorem call_setT {c : String} {l : Addr} {ol : Obj} {xs : List Str} {Q : Value → Shared → Prop} (hol : s.heap.get? l = some ol) (hcl : ol.cls = .type c)
    (f1 : isSubtype (.type c) (.type "set") = pure false) (f2 : isSubtype (.type c) (.type "frozenset") = pure false) (f3 : (Value.type c == Value.type "dict") = false)
    (hIter : ∀ (h1 : Heap) (A1 : Around) (E1 : Value → Shared → Prop) (Q1 : Value → Shared → Prop), A1.handled = none → (∀ b o, s.heap.get? b = some o → h1.get? b = some o) →
      (∀ (o : Obj) (Pv : Nat → Value → Prop) (St : Nat → Heap → Prop), l ≠ h1.objs.size → (∀ A2 : Around, A2.handled = none → Walks P w A2 h1.objs.size [h1.objs.size, l] [h1.objs.size] xs.length Pv St) → (∀ i v, Pv i v → ∃ x t, xs[i]? = some x ∧ v = .str x t) → St 0 (h1.push o) →
        Q1 (.ref h1.objs.size) { s with heap := h1.push o }) → wpAny (model P w) A1 (pyIter (.ref l)) Q1 E1 { s with heap := h1 })
    (hh : A.handled = none) (room : xs.length + 1 < scanBound)
    (h : ∀ (h2 : Heap) (tk n : Nat), SetT w h2 s.heap.objs.size (fun y => y ∈ xs) n → (∀ b o, s.heap.get? b = some o → h2.get? b = some o) → Q (.ref s.heap.objs.size) { s with heap := h2, toks := tk }) :
    wpAny (model P w) A (call (.type "set") [.ref l]) Q E s := by
  obtain ⟨c0, tl, hmro⟩ := F.called_set.mro
  have g1 := F.called_set.made
  have g2 := F.called_set.sub
  refine wpAny_call (codeAny_of_tree ?_)
  show wpAny _ _ (callAny (.type "set") _) _ _ _
  refine wpAny_pure ⟨Code.quiet_builtin _ (by decide +kernel), codeAny_builtin F.entry_type_call ?_⟩
  rw [Around.under_plain (weight_type_call_type "set" [.ref l] []) rfl]
  have g3 := F.called_set.notType
  have g4 := F.called_set.canCreate
  have g5 := F.typeCall_set_1 (.ref l)
  repeat (any_goals (first | assumption | wp_step))
  let o0 : Obj := { cls := .type "set", dict := none, data := .set #[] 0 (.fresh 0 0 (!w.params.followText "set-order")) }
  refine codeAny_mono (code_set_led1 (.ref l) (E := E) (Q₁ := fun ob s1 => ob = .ref s.heap.objs.size ∧ s1 = { s with heap := s.heap.push o0 }) ⟨rfl, rfl⟩) fun r s1 hr => ?_
  cases r with
  | error e => exact hr
  | ok fl =>
    cases fl with
    | ret ob =>
      obtain ⟨rfl, rfl⟩ := hr
      have at0 : (s.heap.push o0).get? s.heap.objs.size = some o0 := Heap.get?_push_size _ rfl
      have ty0 : Shared.TypeIs { s with heap := s.heap.push o0 } (.ref s.heap.objs.size) "set" := ⟨_, at0, rfl⟩
      have g6 := F.called_set.init.lookup
      have g7 := F.called_set.init.bind (.ref s.heap.objs.size)
      repeat (any_goals (first | assumption | wp_step))
      refine codeAny_mono (codeAny_call_builtin (R := wants (fun r s2 => r = .none ∧ ∃ h2 tk n, s2 = { s with heap := h2, toks := tk } ∧ SetT w h2 s.heap.objs.size (fun y => y ∈ xs) n ∧
          (∀ b o, s.heap.get? b = some o → h2.get? b = some o)) E) F.called_set.init.plain F.entry_set_init (check_set_init_1 ty0 ?_)) fun r2 s2 hr2 => ?_
      · have hol2 : (s.heap.push o0).get? l = some ol := Heap.get?_push_of_some _ hol
        obtain ⟨ocls, odict, odata, oslots⟩ := ol
        simp only at hcl
        subst hcl
        unfold Builtin.«set.__init__» noKeywords Builtin.Frozenset.updateFrom
        generalize hPI : pyIter = PI
        wp_walk
        subst hPI
        refine hIter (s.heap.push o0) _ _ _ (by simp [hh]) (fun b o e => Heap.get?_push_of_some _ e) fun o Pv St hne W val st0 => ?_
        refine wpAny_bind (wpAny_runValue ?_)
        have sz1 : (s.heap.push o0).objs.size = s.heap.objs.size + 1 := Heap.size_push ..
        have ll : l < s.heap.objs.size := Heap.lt_size hol
        have hA3 : A.in1.in1.in1.handled = none := by simp [hh]
        have pf : s.heap.objs.size ∉ [(s.heap.push o0).objs.size, l] := by
          rw [sz1]
          simp only [List.mem_cons, List.not_mem_nil, or_false, not_or]
          exact ⟨by omega, Nat.ne_of_gt ll⟩
        refine txset_loop ((W _ hA3).toS) s.heap.objs.size pf xs rfl room val (xs.length - 0) 0 _ rfl (Nat.zero_le _) st0 ⟨0, Nat.le_refl 0, setT_fresh (Heap.get?_push_of_some _ at0)⟩ fun s3 c3 mv hc3 hS3 => ?_
        obtain ⟨h3, g3', d3, tk3, os3⟩ := s3
        have eg : g3' = s.gens := mv.gens
        have ed : d3 = s.drawn := mv.drawn
        have eo : os3 = s.os := mv.os
        subst eg; subst ed; subst eo
        show wpAny _ _ _ _ _ _
        refine wpAny_pure ?_
        show wpAny _ _ (ret Value.none) _ _ _
        refine wpAny_pure ⟨rfl, h3, tk3, c3, rfl, hS3, fun b o e => ?_⟩
        have lb : b < s.heap.objs.size := Heap.lt_size e
        refine mv.heap b o ?_ (Heap.get?_push_of_some _ (Heap.get?_push_of_some _ e))
        simp only [List.mem_cons, List.not_mem_nil, or_false, not_or]
        exact ⟨Nat.ne_of_lt lb, by rw [sz1]; exact Nat.ne_of_lt (Nat.lt_succ_of_lt lb)⟩
      · cases r2 with
        | error e => exact hr2
        | ok fl2 =>
          cases fl2 with
          | ret r =>
            obtain ⟨rfl, h2, tk, n, rfl, q1, q2⟩ := hr2
            repeat (any_goals (first | assumption | wp_step))
            exact h _ _ _ q1 q2
          | _ => exact hr2.elim
    | _ => exact hr.elim
theorem strsAre_get : ∀ {us : List Value} {xs : List Str}, StrsAre us xs → ∀ (i : Nat) (v : Value), us[i]? = some v → ∃ x t, xs[i]? = some x ∧ v = .str x t
  | _, _, .nil, i, v, h => by simp at h
  | _, _, .cons x t q, 0, v, h => by simp at h; exact ⟨x, t, rfl, h.symm⟩
  | _, _, .cons x t q, i + 1, v, h => by simpa using strsAre_get q i v (by simpa using h)
theorem tx_at {items : Array Value} {xs : List Str} (hi : StrsAre items.toList xs) : ∀ (i : Nat) (v : Value), items[i]? = some v → ∃ x t, xs[i]? = some x ∧ v = .str x t := fun i v hv => strsAre_get hi i v (by rw [Array.getElem?_toList]; exact hv)
theorem call_setT_list {l : Addr} {items : Array Value} {xs : List Str} {Q : Value → Shared → Prop} (hh : A.handled = none) (hl : s.heap.IsList l items) (hi : StrsAre items.toList xs) (room : xs.length + 1 < scanBound)
    (h : ∀ (h2 : Heap) (tk n : Nat), SetT w h2 s.heap.objs.size (fun y => y ∈ xs) n → (∀ b o, s.heap.get? b = some o → h2.get? b = some o) → Q (.ref s.heap.objs.size) { s with heap := h2, toks := tk }) :
    wpAny (model P w) A (call (.type "set") [.ref l]) Q E s := by
  obtain ⟨ol, e1, e2, nl, e3⟩ := id hl
  refine call_setT e1 e2 F.sub_list_set F.sub_list_frozenset (by decide) (fun h1 A1 E1 Q1 hA up k => ?_) hh room h
  have hl1 : h1.IsList l items := ⟨ol, up _ _ e1, e2, nl, e3⟩
  have hne : l ≠ h1.objs.size := Nat.ne_of_lt (Heap.lt_size (up _ _ e1))
  have sz : items.size = xs.length := by rw [← StrsAre.len_eq hi, Array.length_toList]
  refine wpAny_pyIter_list (s := { s with heap := h1 }) hl1 (k _ (fun i v => items[i]? = some v) (fun i h => h.IsListIter h1.objs.size l i ∧ h.IsList l items) hne (fun A2 hA2 => ?_) (tx_at hi) ⟨⟨_, Heap.get?_push_size _ rfl, rfl, rfl⟩, hl1.push _⟩)
  rw [← sz]
  exact Walks.list hA2 _ l hne items
theorem call_setT_tuple {l : Addr} {items : Array Value} {xs : List Str} {Q : Value → Shared → Prop} (hh : A.handled = none) (hl : s.heap.IsTuple l items) (hi : StrsAre items.toList xs) (room : xs.length + 1 < scanBound)
    (h : ∀ (h2 : Heap) (tk n : Nat), SetT w h2 s.heap.objs.size (fun y => y ∈ xs) n → (∀ b o, s.heap.get? b = some o → h2.get? b = some o) → Q (.ref s.heap.objs.size) { s with heap := h2, toks := tk }) :
    wpAny (model P w) A (call (.type "set") [.ref l]) Q E s := by
  obtain ⟨ol, e1, e2, nl, e3⟩ := id hl
  refine call_setT e1 e2 F.sub_tuple_set F.sub_tuple_frozenset (by decide) (fun h1 A1 E1 Q1 hA up k => ?_) hh room h
  have hl1 : h1.IsTuple l items := ⟨ol, up _ _ e1, e2, nl, e3⟩
  have hne : l ≠ h1.objs.size := Nat.ne_of_lt (Heap.lt_size (up _ _ e1))
  have sz : items.size = xs.length := by rw [← StrsAre.len_eq hi, Array.length_toList]
  refine wpAny_pyIter_tuple (s := { s with heap := h1 }) hl1 (k _ (fun i v => items[i]? = some v) (fun i h => h.IsTupleIter h1.objs.size l i ∧ h.IsTuple l items) hne (fun A2 hA2 => ?_) (tx_at hi) ⟨⟨_, Heap.get?_push_size _ rfl, rfl, rfl⟩, hl1.push _⟩)
  rw [← sz]
  exact Walks.tuple hA2 _ l hne items
end
end DL

set_option Elab.async false
set_option linter.all false
set_option autoImplicit false
set_option maxRecDepth 100000
set_option maxHeartbeats 4000000
/-! DLs: sorted lists: plain ones, those of sets of texts. -/
namespace DL
open PySem PySem.Spec PyProof.Rows L2

theorem pyL_map : ∀ xs : List D, pyL xs = xs.map D.py
  | [] => rfl
  | x :: xs => by simp only [pyL, List.map_cons, pyL_map xs]
mutual
theorem VIs.reads {h : Heap} : ∀ {u : Value} {d : D}, VIs h u d → ∃ as, Reads h u d.py as
  | _, _, .non => ⟨_, .none⟩
  | _, _, .bl b => ⟨_, .bool b⟩
  | _, _, .int i t => ⟨_, .int i t⟩
  | _, _, .str x t => ⟨_, .str x t⟩
  | _, _, .tup p l => by
    obtain ⟨as, r⟩ := VIsL.reads l
    obtain ⟨o, e1, e2, n, e3⟩ := p
    exact ⟨_, .tuple e1 e2 e3 (by simpa using r)⟩
  | _, _, .lst p l => by
    obtain ⟨as, r⟩ := VIsL.reads l
    obtain ⟨o, e1, e2, n, e3⟩ := p
    exact ⟨_, .list e1 e2 e3 (by simpa using r)⟩
theorem VIsL.reads {h : Heap} : ∀ {us : List Value} {ds : List D}, VIsL h us ds → ∃ as, ReadsAll h us (pyL ds) as
  | _, _, .nil => ⟨_, .nil⟩
  | _, _, .cons a t => by
    obtain ⟨as, r⟩ := VIs.reads a
    obtain ⟨bs, r2⟩ := VIsL.reads t
    exact ⟨_, .cons r r2⟩
end
theorem srtOk_of {ps : List PyData} (h : srtOkP ps = true) : PySem.W.AllAlike ps ∧ PySem.W.Sortable ps ∧ ∀ p ∈ ps, p.depth ≤ 40 := by
  simp only [srtOkP, Bool.and_eq_true, Bool.or_eq_true, List.all_eq_true, decide_eq_true_eq] at h
  obtain ⟨⟨h1, h2⟩, h3⟩ := h
  refine ⟨fun p hp q hq => h1 p hp q hq, h2.imp (fun z p hp => ?_) (fun z p hp => ?_), h3⟩
  · have := z p hp
    cases p <;> simp [tupOne] at this
    rename_i xs
    cases xs with
    | nil => simp [tupOne] at this
    | cons x r => exact ⟨x, r, rfl⟩
  · have := z p hp
    cases p <;> simp [noTup] at this <;> exact ⟨(fun e => nomatch e), (fun xs e => nomatch e)⟩
section
variable {X : Cx} {T : Tb}
/-- the items with what they stand for -/
theorem each_of {pins : List (Addr × Obj)} {σ : L2.St} {F H : Hp} {s : Shared} (I : Inv X pins σ H s) (f : Sub F H) : ∀ {vs : List V} {us : List Value} {ds : List D}, IsL X.K T F vs ds → Vals vs us → pureL ds = true →
    PySem.W.EachIs (fun (u : Value) (p : V × D) => RelV p.1 u ∧ Is X.K T F p.1 p.2) us (vs.zip ds) ∧ PySem.W.EachIs (fun (u : Value) (p : V × D) => ∃ as, Reads s.heap u p.2.py as) us (vs.zip ds)
  | _, _, _, .nil, .nil, _ => ⟨.nil, .nil⟩
  | _, _, _, .cons a t, .cons b q, h => by
    simp only [pureL, Bool.and_eq_true] at h
    obtain ⟨i1, i2⟩ := each_of I f t q h.2
    exact ⟨.cons ⟨b, a⟩ i1, .cons (Is.vis I f a b h.1).reads i2⟩
theorem back_each {K : PySem.W.Frag} {F : Hp} : ∀ {us : List Value} {ps : List (V × D)}, PySem.W.EachIs (fun (u : Value) (p : V × D) => RelV p.1 u ∧ Is K T F p.1 p.2) us ps → Vals (ps.map (·.1)) us ∧ IsL K T F (ps.map (·.1)) (ps.map (·.2))
  | _, _, .nil => ⟨.nil, .nil⟩
  | _, _, .cons a t => by
    obtain ⟨h1, h2⟩ := back_each t
    exact ⟨.cons a.1 h1, .cons a.2 h2⟩
theorem zip_snd {vs : List V} {ds : List D} (h : vs.length = ds.length) (k : D → PyData) : ((vs.zip ds).mergeSort (PySem.W.dataLe false fun p => k p.2)).map (·.2) = sortP k ds := by
  have e := PySem.W.sort_maps (r := PySem.W.dataLe false fun p : V × D => k p.2) (s := PySem.W.dataLe false k) Prod.snd (l := vs.zip ds) (fun _ _ _ _ => rfl)
  rw [List.map_snd_zip (Nat.le_of_eq h.symm)] at e
  exact e
theorem zip_keys {vs : List V} {ds : List D} (h : vs.length = ds.length) (k : D → PyData) : (vs.zip ds).map (fun p => k p.2) = ds.map k := by
  have e : (fun p : V × D => k p.2) = k ∘ Prod.snd := rfl
  rw [e, ← List.map_map, List.map_snd_zip (Nat.le_of_eq h.symm)]
/-- sorted(l) -/
def rSrt (K : PySem.W.Frag) (T : Tb) : List V → Hp → VK → Prop := fun vs H Q => ∃ (l : Addr) (xs : List V) (ds : List D) (F : Hp), vs = [.ref l] ∧ SqL K H l xs ∧ IsL K T F xs ds ∧ Sub F H ∧ pureL ds = true ∧ srtOkP (ds.map D.py) = true ∧
  ∀ p out, H p = none → IsL K T F out (sortP D.py ds) → Q (.ref p) (upd H p (.lst out))
theorem cr_srt (hu : X.A.units + 64 < cLine) : CallR X (.builtin "sorted") (rSrt X.K T) := by
  intro pins s σ H vs us Q I rv h
  obtain ⟨l, xs, ds, F, rfl, hl, his, f, hp, hok, q⟩ := h
  obtain ⟨u, rfl, ru⟩ := rv.one
  cases ru
  obtain ⟨its, hv, hi, hz⟩ := I.list hl
  obtain ⟨e1, e2⟩ := each_of I f his hv hp
  have hlen : xs.length = ds.length := his.length
  obtain ⟨o1, o2, o3⟩ := srtOk_of hok
  refine PySem.W.sorted_data (enc := fun p : V × D => p.2.py) hi.isList e1 e2 (by rw [zip_keys hlen]; exact o1) (by rw [zip_keys hlen]; exact o2) (by rw [List.length_zip, hlen, Nat.min_self, ← hlen]; exact hz) (fun p hp' => ?_) fun out ho hout => ?_
  · have hm : p.2.py ∈ ds.map D.py := by rw [← zip_keys hlen D.py]; exact List.mem_map.mpr ⟨p, hp', rfl⟩
    have := o3 _ hm
    omega
  · obtain ⟨w1, w2⟩ := back_each hout
    rw [zip_snd hlen] at w2
    have nw : H (s.heap.objs.size + 1) = none := I.hok.fresh (Nat.le_succ _)
    refine ⟨.ref (s.heap.objs.size + 1), _, I.laid (t' := s.toks) (fun b o e => PyProof.Rows.sortedAll_old e) (Nat.le_succ _) ?_, rfl, q _ _ nw w2⟩
    obtain ⟨n, hn⟩ := PyProof.Rows.sortedAll_at s.heap its out.toArray
    refine ⟨?_, out, n, w1, by simpa using hn⟩
    rw [w1.length, ho, List.length_zip, hlen, Nat.min_self, ← hlen]; exact hz
end
/-! ### of a set of texts -/
def strLe (a b : Str) : Bool := PySem.W.dataLe false PyData.str a b
theorem strLe_eq (a b : Str) : strLe a b = !decide (b.cps.toList < a.cps.toList) := by
  unfold strLe
  rw [PySem.W.dataLe_eq]
  show (!PySem.W.dataLt (.str b) (.str a)) = _
  rw [PySem.W.dataLt_str]
theorem strLe_total : PySem.W.TotalLe strLe := by
  unfold strLe PySem.W.dataLe
  exact PySem.W.sortLe_total _ _ _
theorem strLe_anti {a b : Str} (h1 : strLe a b = true) (h2 : strLe b a = true) : a = b := by
  rw [strLe_eq] at h1 h2
  simp only [Bool.not_eq_true', decide_eq_false_iff_not] at h1 h2
  exact PySem.W.str_of_cps (List.le_antisymm (List.not_lt.mp h1) (List.not_lt.mp h2))
theorem mem_uniq {x : Str} : ∀ {xs : List Str}, x ∈ uniq xs ↔ x ∈ xs
  | [] => Iff.rfl
  | y :: ys => by
    unfold uniq
    split
    · next h =>
      rw [mem_uniq, List.mem_cons]
      exact ⟨.inr, fun z => z.elim (fun e => by rw [e]; exact h) id⟩
    · rw [List.mem_cons, List.mem_cons, mem_uniq]
theorem nodup_uniq : ∀ (xs : List Str), (uniq xs).Nodup
  | [] => List.nodup_nil
  | y :: ys => by
    unfold uniq
    split
    · exact nodup_uniq ys
    · next h => exact List.nodup_cons.mpr ⟨fun z => h (mem_uniq.mp z), nodup_uniq ys⟩
theorem sort_perm_str {xs ys : List Str} (h : xs.Perm ys) : sortP PyData.str xs = sortP PyData.str ys := by
  refine List.Perm.eq_of_pairwise (le := fun a b => strLe a b = true) (fun a b _ _ h1 h2 => strLe_anti h1 h2) (PySem.W.sort_pairwise strLe_total xs) (PySem.W.sort_pairwise strLe_total ys) ?_
  exact (List.mergeSort_perm xs _).trans (h.trans (List.mergeSort_perm ys _).symm)
section
variable {P : Program} {w : World} {A : Around} {E : Value → Shared → Prop} {s : Shared} {a : Addr} {n : Nat}
theorem strs_each {es : List Ent} (g : ∀ e ∈ es, TxE w e) : ∀ {out : List Value}, (∀ v ∈ out, v ∈ es.map (·.2)) → ∃ xs : List Str, PySem.W.EachIs (fun (u : Value) (x : Str) => ∃ t, u = .str x t) out xs
  | [], _ => ⟨[], .nil⟩
  | v :: out, h => by
    obtain ⟨xs, r⟩ := strs_each g (out := out) fun u hu => h u (List.mem_cons_of_mem _ hu)
    obtain ⟨e, he, hv⟩ := List.mem_map.mp (h v List.mem_cons_self)
    obtain ⟨x, t, h1, _⟩ := g e he
    exact ⟨x :: xs, .cons ⟨t, by rw [← hv, h1]⟩ r⟩
def vTx : Value → Str
  | .str x _ => x
  | _ => Str.empty
theorem each_vTx : ∀ {us : List Value} {xs : List Str}, PySem.W.EachIs (fun (u : Value) (x : Str) => ∃ t, u = .str x t) us xs → us.map vTx = xs
  | _, _, .nil => rfl
  | _, _, .cons ⟨t, e⟩ q => by subst e; simp only [List.map_cons, each_vTx q]; rfl
theorem each_vals : ∀ {us : List Value} {xs : List Str}, PySem.W.EachIs (fun (u : Value) (x : Str) => ∃ t, u = .str x t) us xs → Vals (xs.map V.str) us
  | _, _, .nil => .nil
  | _, _, .cons ⟨t, e⟩ q => by subst e; exact .cons ⟨t, rfl⟩ (each_vals q)
theorem sorted_setT {xs0 : List Str} {Q : Value → Shared → Prop} (hh : A.handled = none) (hu : A.units + 64 < cLine) (r : SetT w s.heap a (fun x => x ∈ xs0) n)
    (h : ∀ (s2 : Shared) (p : Addr) (us : List Value) (c : Nat), PySem.W.EachIs (fun (u : Value) (x : Str) => ∃ t, u = .str x t) us (setS xs0) → us.length ≤ sizeLine → (∀ b o, s.heap.get? b = some o → s2.heap.get? b = some o) → s.heap.objs.size ≤ p → s2.gens = s.gens → s2.os = s.os →
      s2.heap.get? p = some (seqObj "list" us.toArray c) → Q (.ref p) s2) :
    wpAny (model P w) A (call (.builtin "sorted") [.ref a]) Q E s := by
  obtain ⟨o, es, ep, t, ho, hx, hd, hn, Tx⟩ := r
  refine Calls.call_function_entry kind_sorted plain_sorted entry_sorted (args_sorted1 _) ?_
  unfold Builtin.«sorted»
  refine wpAny_bind (m := checkCount "sorted" 1 1 _) (wpAny_pure ?_)
  have at0 : SetAt s.heap a es ep t := ⟨o, ho, hx.1, hd⟩
  refine wpAny_bind (collect_set (by simp [hh]) at0 Tx.fits Tx.small Tx.ris Tx.led fun s2 out k sz g os pm => ?_)
  obtain ⟨xs, ex⟩ := strs_each Tx.good (out := out) fun v hv => pm.mem_iff.mp hv
  have lo : out.length ≤ sizeLine := by
    rw [pm.length_eq, List.length_map, Array.length_toList]
    exact fits_of_scanBound Tx.small
  have mapE : (es.toList.map (·.2)).map vTx = es.toList.map entTx := by
    rw [List.map_map]
    exact List.map_congr_left fun e he => by
      obtain ⟨x, t, h1, _⟩ := Tx.good e he
      show vTx e.2 = entTx e
      unfold entTx vTx
      rw [h1]
  have px : xs.Perm (es.toList.map entTx) := by
    rw [← each_vTx ex, ← mapE]
    exact pm.map vTx
  have eq : sortP PyData.str xs = setS xs0 := by
    refine sort_perm_str (px.trans ((List.perm_ext_iff_of_nodup Tx.nd (nodup_uniq xs0)).mpr fun x => ?_))
    rw [← Tx.mem x, mem_uniq]
  refine wpAny_bind (wpAny_newList ?_ lo)
  have hoL : (s2.heap.push (seqObj "list" out.toArray 0)).get? s2.heap.objs.size = some (seqObj "list" out.toArray 0) := Heap.get?_push_size _ rfl
  have rd : ∀ {h2 : Heap}, PySem.W.EachIs (fun v b => ∃ as, Reads h2 v (PyData.str b) as) out xs := ex.mono fun v b ⟨t, e⟩ => by rw [e]; exact ⟨[], .str b t⟩
  have al : PySem.W.AllAlike (xs.map PyData.str) := fun d hd d' hd' => by
    obtain ⟨x, _, rfl⟩ := List.mem_map.mp hd
    obtain ⟨y, _, rfl⟩ := List.mem_map.mp hd'
    simp only [PySem.W.alike]
  have so : PySem.W.Sortable (xs.map PyData.str) := .inr fun d hd => by
    obtain ⟨x, _, rfl⟩ := List.mem_map.mp hd
    exact ⟨(fun e => nomatch e), fun _ e => nomatch e⟩
  show wpAny _ _ _ _ _ { s2 with heap := s2.heap.push (seqObj "list" out.toArray 0) }
  refine wpAny_bind (wpAny_holding (wpAny_call_entry slot_list_sort ⟨_, hoL, rfl⟩ entry_list_sort (PySem.W.list_sort_vals (s := { s2 with heap := s2.heap.push (seqObj "list" out.toArray 0) }) hoL
    (PySem.W.SortsAt.data (PySem.W.each_map (R := fun v d => ∃ as, Reads _ v d as) PyData.str rd) al so (fun d hd => ?_)) lo ⟨_, rfl, ?_⟩) (args_list_sort _)))
  · obtain ⟨x, _, rfl⟩ := List.mem_map.mp hd
    show A.in1.in1.units + PyData.depth (.str x) < cLine
    simp only [PyData.depth]
    show A.units + 1 + 1 + 0 < cLine
    omega
  · have fin := PySem.W.sortVals_data false ex (rd (h2 := PySem.W.sortingHeap (s2.heap.push (seqObj "list" out.toArray 0)) s2.heap.objs.size out)) al
    have fin2 := fin
    rw [show xs.mergeSort (PySem.W.dataLe false PyData.str) = setS xs0 from eq] at fin2
    obtain ⟨c, hc⟩ := PyProof.Rows.sortedHeap_at (h := s2.heap.push (seqObj "list" out.toArray 0)) (out := (PySem.W.sortVals (PySem.W.dataKind (PySem.W.sortingHeap (s2.heap.push (seqObj "list" out.toArray 0)) s2.heap.objs.size out) (xs.map PyData.str)) false out out).toArray) hoL
    refine wpAny_pure ⟨_, rfl, h _ s2.heap.objs.size _ c fin2 ?_ (fun b ob e => ?_) sz g os hc⟩
    · rw [fin2.length]
      rw [← eq]
      show (xs.mergeSort _).length ≤ _
      rw [List.length_mergeSort, ← ex.length]
      exact lo
    · have e2 := k b ob e
      have lt : b < s2.heap.objs.size := Heap.lt_size e2
      show (PyProof.Rows.sortedHeap _ _ _ _).get? b = _
      rw [PyProof.Rows.sortedHeap_old (Nat.ne_of_lt lt) (by rw [size_push']; exact Nat.lt_succ_of_lt lt)]
      exact Heap.get?_push_of_some _ e2
end
end DL

set_option Elab.async false
set_option linter.all false
set_option autoImplicit false
set_option maxRecDepth 100000
set_option maxHeartbeats 4000000
/-! DLt: sorted by a key: the sort behind the keys, the walk that gathers them. -/
namespace DL
open PySem PySem.Calls PySem.Spec PyProof.Rows L2
section
variable {prog : Program} {w : World} {A : Around} {E : Value → Shared → Prop} {s : Shared} {a kS : Addr} {vs : List Value} {keys : Array Value} {e e1 : Nat} {P : PySem.Fin → Shared → Prop}
/-- the heap behind the sort: the store of keys is empty, the list has its items -/
def keyHeap (h : Heap) (kS a : Addr) (out : Array Value) : Heap := (h.update kS (Obj.mapSeq fun _ => (#[] : Array Value))).update a (Obj.mapSeq fun _ => out)
theorem key_end2 {κ : PyProof.Rows.KeyKind} (nk : s.heap.get? kS = some (seqObj "list" keys e)) (na : s.heap.get? a = some (seqObj "list" #[] e1)) (hka : kS ≠ a)
    (S : PySem.W.SortsAt prog w A s κ keys.toList) (hsz : keys.size = vs.length) (hZ : vs.length ≤ sizeLine)
    (h : P (.done (.ret .none)) { s with heap := keyHeap s.heap kS a (PySem.W.sortVals κ false keys.toList vs).toArray }) :
    wpAny (model prog w) A (ksk_end a false vs.toArray e1 (.ref kS) keys) P E s := by
  obtain ⟨kd, s1, s2⟩ := S.kind
  have kl : keys.toList.length = vs.length := by rw [Array.length_toList]; exact hsz
  have hK : PyProof.Rows.KeysOf κ (keys.zip vs.toArray) := PySem.W.keysOf_zip S.keys
  have ol : (PySem.W.sortVals κ false keys.toList vs).length = vs.length := PySem.W.sortVals_length false kl
  have zs : (keys.zip vs.toArray).size = vs.length := by rw [Array.size_zip, hsz, List.size_toArray, Nat.min_self]
  have tail : ∀ st : SortSt, failedOf st = none → (arrOf st).map (·.2) = (PySem.W.sortVals κ false keys.toList vs).toArray → wpAny (model prog w) A (ksk_tail a false e1 (.ref kS) st) P E s := by
    intro st hf ho
    have b1 := Heap.SameBut.update s.heap kS (Obj.mapSeq fun _ => (#[] : Array Value))
    have na1 := (b1.2 a hka.symm).trans na
    unfold ksk_tail
    dsimp only
    rw [ho]
    refine wpAny_bind (listUpdate_at nk rfl ?_ (by rw [hsz]; exact hZ) (Nat.zero_le _))
    refine wpAny_bind (wpAny_letGo (wpAny_bind (seqEpoch_at na1 rfl ?_)))
    refine wpAny_bind (listUpdate_at na1 rfl ?_ (Nat.zero_le _) ?_)
    · rw [hf]
      simp only [bne_self_eq_false, Bool.false_eq_true, if_false]
      exact wpAny_pure h
    · simp only [Bool.false_eq_true, if_false, List.size_toArray]
      rw [ol]; exact Nat.le_succ_of_le hZ
  have fin : ∀ st : SortSt, (arrOf st).Perm (keys.zip vs.toArray) → SortedToK κ (arrOf st) (keys.zip vs.toArray).size → Stable κ (arrOf st) (keys.zip vs.toArray) → (arrOf st).map (·.2) = (PySem.W.sortVals κ false keys.toList vs).toArray := by
    intro st q1 q2 q3
    have z := PySem.W.sort_out (rev := false) (keys := keys) (items := vs.toArray) (xs := arrOf st) (κ := κ) hK q1 q2 q3
    have z2 := congrArg List.toArray z
    rw [Array.toArray_toList] at z2
    exact z2
  unfold ksk_end
  dsimp only
  rw [if_neg (by decide)]
  by_cases few : vs.toArray.size < 2
  · rw [if_pos few, if_pos few]
    refine wpAny_bind (wpAny_pure ?_)
    rw [StateT.run_pure]
    refine wpAny_bind (wpAny_pure ?_)
    dsimp only
    refine tail _ rfl (fin _ (Array.Perm.refl _) (fun i j hij hj => ?_) (Stable.refl _))
    rw [zs] at hj
    rw [List.size_toArray] at few
    obtain rfl : i = j := by omega
    exact KeyOrd.kle_refl _
  · rw [if_neg few, if_neg few]
    rw [List.size_toArray] at few
    refine wpAny_bind (s2 (by omega) _ ?_)
    refine wpAny_bind (wpAny_mono (H.wpS_sortRunsSt (κ := κ) (kd := kd) (a₀ := keys.zip vs.toArray) (st := SortSt.mk' kd (keys.zip vs.toArray) #[] 7 none)
      (Q := fun _ st => failedOf st = none ∧ (arrOf st).map (·.2) = (PySem.W.sortVals κ false keys.toList vs).toArray) s1 hK ⟨Array.Perm.refl _, rfl, rfl⟩ rfl (Stable.refl _) (by rw [zs]; omega) fun st q1 q2 q3 q4 => ⟨q2, fin st q1 q3 q4⟩) ?_ fun _ _ z => z)
    rintro ⟨⟨⟩, st⟩ s' ⟨rfl, q1, q2⟩
    exact tail st q1 q2
end
/-- this very object stands there -/
def exO (p : Addr) (o : Obj) : HO := .ext fun h => h.get? p = some o
theorem exO_ok {P : Program} {w : World} {H : Hp} {h : Heap} {p : Addr} {o : Obj} (e : h.get? p = some o) : ObjOk P w H h p (exO p o) := ⟨e, ⟨o, e⟩, fun h1 h2 q k => k o q⟩
theorem exO_get {X : Cx} {pins : List (Addr × Obj)} {σ : L2.St} {H : Hp} {s : Shared} {p : Addr} {o : Obj} (I : Inv X pins σ H s) (h : H p = some (exO p o)) : s.heap.get? p = some o := (I.hok p _ h).1

section
variable {X : Cx} {T : Tb} {g : Fm} {Mo : List Addr} {F H : Hp} {σ σI : L2.St} {pins : List (Addr × Obj)} {s : Shared} {E : Value → Shared → Prop} {Q : Value → Shared → Prop}
theorem each_reads {s' : Shared} {H' F' : Hp} (I : Inv X pins σI H' s') (f : Sub F' H') : ∀ {vs : List V} {us : List Value} {ds : List D}, IsL X.K T F' vs ds → Vals vs us → pureL ds = true → PySem.W.EachIs (fun (u : Value) (p : PyData) => ∃ as, Reads s'.heap u p as) us (ds.map D.py)
  | _, _, _, .nil, .nil, _ => .nil
  | _, _, _, .cons a t, .cons b q, h => by
    simp only [pureL, Bool.and_eq_true] at h
    exact .cons (Is.vis I f a b h.1).reads (each_reads I f t q h.2)
theorem zip_rel {K : PySem.W.Frag} {F' : Hp} : ∀ {vs : List V} {us : List Value} {ds : List D}, IsL K T F' vs ds → Vals vs us → PySem.W.EachIs (fun (u : Value) (p : V × D) => RelV p.1 u ∧ Is K T F' p.1 p.2) us (vs.zip ds)
  | _, _, _, .nil, .nil => .nil
  | _, _, _, .cons a t, .cons b q => .cons ⟨b, a⟩ (zip_rel t q)
/-- sorted(l, key=f): turn: what a call of f does -/
theorem sorted_keyed {q l : Addr} {its : List Value} {xs : List V} {ds : List D} {kd : D → D} (I : Inv X pins σI H s) (r : Rl X.K T Mo F H g σ) (hl : s.heap.IsList l its.toArray) (hv : Vals xs its) (his : IsL X.K T F xs ds) (hz : its.length ≤ sizeLine)
    (hp : pureL (ds.map kd) = true) (hok : srtOkP ((ds.map kd).map D.py) = true) (hu : X.A.units + 64 < cLine)
    (turn : ∀ (Mo' : List Addr) (s' : Shared) (F' H' : Hp) (v : V) (u : Value) (d : D), Nxt Mo F H F' H' → Inv X pins σI H' s' → Rl X.K T (Mo' ++ Mo) F' H' g σ → d ∈ ds → Is X.K T F' v d → RelV v u →
      wpAny (model X.prog X.w) X.A.in1.in1 (call (.ref q) [u]) (fun ku s2 => ∃ kv F2 H2, Inv X pins σI H2 s2 ∧ Rl X.K T (Mo' ++ Mo) F2 H2 g σ ∧ Nxt (Mo' ++ Mo) F' H' F2 H2 ∧ RelV kv ku ∧ Is X.K T F2 kv (kd d)) (fun _ _ => False) s')
    (h : ∀ F' H' p out s', Inv X pins σI H' s' → Rl X.K T Mo F' H' g σ → Nxt Mo F H F' H' → H' p = some (.lst out) → F' p = none → p ∉ Mo → (∀ i, ¬ OwnAt g σ i p) → IsL X.K T F' out (sortP (fun d => (kd d).py) ds) → Q (.ref p) s') :
    wpAny (model X.prog X.w) X.A (call (.builtin "sorted") [.ref l] [(Str.ofString "key", .ref q)]) Q E s := by
  obtain ⟨o1, o2, o3⟩ := srtOk_of hok
  have hlen : xs.length = its.length := hv.length
  have hlen2 : xs.length = ds.length := his.length
  refine PySem.W.sorted_of_sort hl hz (ksk_s1 _ _) (fun _ => ksk_l1 _ _) fun E' => ?_
  rw [ksk_t1]
  generalize ea : s.heap.objs.size + 1 = a
  have hc := PySem.W.copyHeap_at s.heap its
  have hold : ∀ b o, s.heap.get? b = some o → (PySem.W.copyHeap s.heap its).get? b = some o := fun b o => PySem.W.copyHeap_old
  rw [ea] at hc
  have old_ne : ∀ b o, s.heap.get? b = some o → b ≠ a := fun b o e => by rw [← ea]; exact Nat.ne_of_lt (Nat.lt_succ_of_lt (Heap.lt_size e))
  have ge_a : s.heap.objs.size ≤ a := by rw [← ea]; exact Nat.le_succ _
  generalize PySem.W.copyHeap s.heap its = hc0 at hc hold ⊢
  obtain ⟨e1, hc1⟩ : ∃ e1, (hc0.update a (Obj.mapSeq fun _ => (#[] : Array Value))).get? a = some (seqObj "list" #[] e1) := ⟨_, get?_update_seq hc fun _ => #[]⟩
  have sb0 := Heap.SameBut.update hc0 a (Obj.mapSeq fun _ => (#[] : Array Value))
  have old1 : ∀ b o, s.heap.get? b = some o → (hc0.update a (Obj.mapSeq fun _ => (#[] : Array Value))).get? b = some o := fun b o e => (sb0.2 b (old_ne b o e)).trans (hold b o e)
  unfold ksk_tree
  refine wpAny_bind (listItems_at hc rfl (wpAny_bind (listUpdate_at hc rfl ?_ (by rw [List.size_toArray]; exact hz) (Nat.zero_le _))))
  generalize hc0.update a (Obj.mapSeq fun _ => (#[] : Array Value)) = h1 at hc1 old1 ⊢
  refine wpAny_bind (seqEpoch_at hc1 rfl (wpAny_bind (wpAny_newTuple ?_ (by show its.length ≤ _; exact hz))))
  have tup1 : ∀ b o, h1.get? b = some o → (h1.push (seqObj "tuple" its.toArray 0)).get? b = some o := fun b o e => Heap.get?_push_of_some _ e
  show wpAny _ _ _ _ _ { s with heap := h1.push (seqObj "tuple" its.toArray 0) }
  generalize h1.push (seqObj "tuple" its.toArray 0) = h2 at tup1 ⊢
  have hc2 := tup1 _ _ hc1
  refine wpAny_bind (wpAny_newList ?_ (Nat.zero_le _))
  refine wpAny_holding ?_
  have hcS : (h2.push (seqObj "list" #[] 0)).get? h2.objs.size = some (seqObj "list" #[] 0) := Heap.get?_push_size _ rfl
  have nS : h2.objs.size ≠ a := Nat.ne_of_gt (Heap.lt_size hc2)
  show wpAny _ _ _ _ _ { s with heap := h2.push (seqObj "list" #[] 0) }
  -- what is tracked at the loop's start
  have Ha : H a = none := I.hok.fresh ge_a
  have I1 : Inv X pins σI (upd H a (exO a (seqObj "list" #[] e1))) { s with heap := h2, toks := s.toks } := I.laid (fun b o e => tup1 _ _ (old1 b o e)) ge_a (exO_ok hc2)
  have Hk : (upd H a (exO a (seqObj "list" #[] e1))) h2.objs.size = none := I1.hok.fresh (Nat.le_refl _)
  have I2 : Inv X pins σI (upd (upd H a (exO a (seqObj "list" #[] e1))) h2.objs.size (exO h2.objs.size (seqObj "list" #[] 0))) { s with heap := h2.push (seqObj "list" #[] 0), toks := s.toks } := I1.laid (fun b o e => Heap.get?_push_of_some _ e) (Nat.le_refl _) (exO_ok hcS)
  have HkS : H h2.objs.size = none := by rw [← Hk, upd_ne nS]
  generalize h2.objs.size = kS at *
  have tabNe : ∀ {d : Addr}, H d = none → ∀ p ∈ T.tabs, p.1 ≠ d := fun {d} e p hp z => by
    obtain ⟨_, ps, e2, _⟩ := (r.tab p hp).2
    rw [z, e] at e2; cases e2
  obtain ⟨a1, a2, a3⟩ := r.apart Ha
  obtain ⟨k1, k2, k3⟩ := r.apart HkS
  have r1 : Rl X.K T (a :: Mo) F (upd H a (exO a (seqObj "list" #[] e1))) g σ := (r.newO Ha).guard a1 upd_same a3 (tabNe Ha)
  have r2 : Rl X.K T (kS :: a :: Mo) F (upd (upd H a (exO a (seqObj "list" #[] e1))) kS (exO kS (seqObj "list" #[] 0))) g σ := (r1.newO Hk).guard k1 upd_same k3 (tabNe HkS)
  have n2 : Nxt Mo F H F (upd (upd H a (exO a (seqObj "list" #[] e1))) kS (exO kS (seqObj "list" #[] 0))) := (Nxt.newO r Ha).trans (Nxt.newO (r.newO Ha) Hk)
  have kMo : kS ∈ kS :: a :: Mo := List.mem_cons_self
  have aMo : a ∈ kS :: a :: Mo := List.mem_cons_of_mem _ List.mem_cons_self
  have neMo : ∀ {b : Addr}, b ∈ Mo → b ≠ kS ∧ b ≠ a := fun {b} hb => ⟨fun z => k2 (z ▸ hb), fun z => a2 (z ▸ hb)⟩
  unfold ksk_rest
  refine wpAny_bind (wpAny_rule ?_)
  first
    | rw [List.forIn_toArray]
    | (rw [← Array.forIn_toList]; simp only [List.toList_toArray])
  refine wpAny_bind (ksk_fold (fun i s' => ∃ H' F' kA e ks, Inv X pins σI H' s' ∧ Rl X.K T (kS :: a :: Mo) F' H' g σ ∧ Nxt Mo F H F' H' ∧ H' kS = some (exO kS (seqObj "list" kA e)) ∧ H' a = some (exO a (seqObj "list" #[] e1)) ∧ Vals ks kA.toList ∧ IsL X.K T F' ks ((ds.take i).map kd)) its 0 _
    ⟨_, F, #[], 0, [], I2, r2, n2, upd_same, by rw [upd_ne (Ne.symm nS), upd_same], .nil, by rw [List.take_zero]; exact .nil⟩ ?step ?done)
  case step =>
    rintro j x s' hx ⟨H', F', kA, e, ks, J, rr, nn, hk, ha, hvk, hik⟩
    simp only [Nat.zero_add] at hik ⊢
    have jl : j < its.length := (List.getElem?_eq_some_iff.mp hx).1
    have jd : j < ds.length := by omega
    obtain ⟨v, hv1, hv2⟩ : ∃ v, xs[j]? = some v ∧ RelV v x := by
      have jx : j < xs.length := by omega
      obtain ⟨u, hu1, hu2⟩ := hv.get (List.getElem?_eq_getElem jx)
      rw [hx] at hu1; cases hu1
      exact ⟨_, List.getElem?_eq_getElem jx, hu2⟩
    obtain ⟨d, hd1, hd2⟩ := his.get' hv1
    refine wpAny_bind (wpAny_attempt (wpAny_mono (turn [kS, a] s' F' H' v x d nn J rr (List.mem_of_getElem? hd1) (hd2.mono nn.sub) hv2) (fun ku s2 q => ?_) fun _ _ z => z.elim))
    obtain ⟨kv, F2, H2, J2, rr2, nn2, rk, ik⟩ := q
    have rr2 : Rl X.K T (kS :: a :: Mo) F2 H2 g σ := rr2
    have hk2 : H2 kS = some (exO kS (seqObj "list" kA e)) := (nn2.mo kS kMo).trans hk
    have ha2 : H2 a = some (exO a (seqObj "list" #[] e1)) := (nn2.mo a aMo).trans ha
    have gk := exO_get J2 hk2
    have sz : kA.size ≤ its.length := by
      have z1 : ks.length = kA.size := hvk.length.trans Array.length_toList
      have z2 := hik.length
      rw [List.length_map, List.length_take] at z2
      omega
    dsimp only
    have sbk := Heap.SameBut.update s2.heap kS (Obj.mapSeq (·.push ku))
    obtain ⟨c2, gk2⟩ : ∃ c2, (s2.heap.update kS (Obj.mapSeq (·.push ku))).get? kS = some (seqObj "list" (kA.push ku) c2) := ⟨_, get?_update_seq gk (·.push ku)⟩
    refine wpAny_bind (listUpdate_at gk rfl ?_ (Nat.le_trans sz hz) (Nat.le_trans (Nat.le_of_eq (Array.size_push ..)) (Nat.succ_le_succ (Nat.le_trans sz hz))))
    have J3 : Inv X pins σI (upd H2 kS (exO kS (seqObj "list" (kA.push ku) c2))) { s2 with heap := s2.heap.update kS (Obj.mapSeq (·.push ku)), toks := s2.toks } :=
      J2.write (x := kS) (e := kS) (by rw [hk2]; trivial) (.inl rfl) (fun b o hb e => (sbk.2 b hb).trans e) ⟨_, gk2⟩ (exO_ok gk2)
    refine wpAny_pure ⟨rfl, _, F2, kA.push ku, c2, ks ++ [kv], J3, rr2.wrMo kMo, ?_, upd_same, by rw [upd_ne (Ne.symm nS)]; exact ha2, ?_, ?_⟩
    · refine nn.trans ⟨nn2.sub, fun b hb => ?_⟩
      rw [upd_ne (neMo hb).1]
      exact nn2.mo b (List.mem_cons_of_mem _ (List.mem_cons_of_mem _ hb))
    · rw [Array.toList_push]
      exact hvk.append (.cons rk .nil)
    · rw [List.take_add_one, hd1, List.map_append]
      exact (hik.mono nn2.sub).append (.cons ik .nil)
  case done =>
    rintro s' ⟨H', F', kA, e, ks, J, rr, nn, hk, ha, hvk, hik⟩
    rw [List.take_of_length_le (by omega)] at hik
    have gk := exO_get J hk
    have ga := exO_get J ha
    have sz : kA.size = its.length := by
      have z1 : ks.length = kA.size := hvk.length.trans Array.length_toList
      have z2 := hik.length
      rw [List.length_map] at z2
      omega
    refine wpAny_bind (listItems_at gk rfl ?_)
    have er := each_reads J rr.sub hik hvk hp
    refine key_end2 (κ := PySem.W.dataKind s'.heap ((ds.map kd).map D.py)) gk ga nS (PySem.W.SortsAt.data er o1 o2 fun p hp' => ?_) sz hz ⟨rfl, ?_⟩
    · have := o3 p hp'
      show X.A.units + 1 + 1 + p.depth < cLine
      omega
    · have eb : (xs.zip ds).map (fun p => (kd p.2).py) = (ds.map kd).map D.py := by
        rw [zip_keys hlen2 (fun d => (kd d).py), List.map_map]; rfl
      have ko : PySem.W.KeyedOut false ((xs.zip ds).map fun p => (kd p.2).py) its (PySem.W.sortVals (PySem.W.dataKind s'.heap ((ds.map kd).map D.py)) false kA.toList its) := by
        rw [eb]
        exact ⟨s'.heap, kA.toList, o1, rfl, er⟩
      have fin := PySem.W.keyedOut_each (R := fun (u : Value) (p : V × D) => RelV p.1 u ∧ Is X.K T F' p.1 p.2) (fun p : V × D => (kd p.2).py) ko (zip_rel (his.mono nn.sub) hv)
      have ol := fin.length
      rw [List.length_mergeSort, List.length_zip, hlen2, Nat.min_self] at ol
      obtain ⟨w1, w2⟩ := back_each fin
      rw [zip_snd hlen2 (fun d => (kd d).py)] at w2
      generalize PySem.W.sortVals (PySem.W.dataKind s'.heap ((ds.map kd).map D.py)) false kA.toList its = out at w1 ol ⊢
      generalize (((xs.zip ds).mergeSort (PySem.W.dataLe false fun p => (kd p.2).py)).map (·.1)) = outV at w1 w2
      have sb1 := Heap.SameBut.update s'.heap kS (Obj.mapSeq fun _ => (#[] : Array Value))
      obtain ⟨c1, g1⟩ : ∃ c1, (s'.heap.update kS (Obj.mapSeq fun _ => (#[] : Array Value))).get? kS = some (seqObj "list" #[] c1) := ⟨_, get?_update_seq gk fun _ => #[]⟩
      have J1 : Inv X pins σI (upd H' kS (exO kS (seqObj "list" #[] c1))) { s' with heap := s'.heap.update kS (Obj.mapSeq fun _ => (#[] : Array Value)), toks := s'.toks } :=
        J.write (x := kS) (e := kS) (by rw [hk]; trivial) (.inl rfl) (fun b o hb e => (sb1.2 b hb).trans e) ⟨_, g1⟩ (exO_ok g1)
      have ga1 := (sb1.2 a (Ne.symm nS)).trans ga
      have sb2 := Heap.SameBut.update (s'.heap.update kS (Obj.mapSeq fun _ => (#[] : Array Value))) a (Obj.mapSeq fun _ => out.toArray)
      obtain ⟨c2, g2⟩ : ∃ c2, ((s'.heap.update kS (Obj.mapSeq fun _ => (#[] : Array Value))).update a (Obj.mapSeq fun _ => out.toArray)).get? a = some (seqObj "list" out.toArray c2) := ⟨_, get?_update_seq ga1 fun _ => out.toArray⟩
      have ha1 : (upd H' kS (exO kS (seqObj "list" #[] c1))) a = some (exO a (seqObj "list" #[] e1)) := by rw [upd_ne (Ne.symm nS)]; exact ha
      have J2 : Inv X pins σI (upd (upd H' kS (exO kS (seqObj "list" #[] c1))) a (.lst outV)) { s' with heap := keyHeap s'.heap kS a out.toArray, toks := s'.toks } :=
        J1.write (x := a) (e := a) (by rw [ha1]; trivial) (.inl rfl) (fun b o hb e => (sb2.2 b hb).trans e) ⟨_, g2⟩ ⟨by rw [w1.length, ol]; omega, out, c2, w1, g2⟩
      have R2 : Rl X.K T (kS :: a :: Mo) F' (upd (upd H' kS (exO kS (seqObj "list" #[] c1))) a (.lst outV)) g σ := (rr.wrMo kMo).wrMo aMo
      refine h F' _ a outV _ J2 R2.unguard.unguard ⟨nn.sub, fun b hb => ?_⟩ upd_same (R2.mo a aMo).1 a2 (fun i hi => R2.out i a hi aMo) w2
      rw [upd_ne (neMo hb).2, upd_ne (neMo hb).1]
      exact nn.mo b hb
end
end DL

set_option Elab.async false
set_option linter.all false
set_option autoImplicit false
set_option maxRecDepth 100000
set_option maxHeartbeats 4000000
/-! DLu: sorted lists in expressions; lambdas as keys. -/
namespace DL
open PySem PySem.Calls PySem.Spec PyProof.Rows L2
/-- a set of texts, known -/
def SetTO (w : World) (p : Addr) (xs : List Str) (n : Nat) : HO := .ext fun h => SetT w h p (fun x => x ∈ xs) n
theorem setTO_ok {P : Program} {w : World} {H : Hp} {h : Heap} {p : Addr} {xs : List Str} {n : Nat} (r : SetT w h p (fun x => x ∈ xs) n) : ObjOk P w H h p (SetTO w p xs n) := by
  refine ⟨r, ?_, fun h1 h2 q k => SetT.at q k⟩
  obtain ⟨o, _, _, _, e, _⟩ := r
  exact ⟨o, e⟩
theorem boot_sorted : bootBuiltins "sorted" = some (.builtin "sorted") := by decide +kernel
theorem boot_set : bootBuiltins "set" = some (.type "set") := by decide +kernel
theorem vals_strs : ∀ {xs : List Str} {us : List Value}, Vals (xs.map V.str) us → StrsAre us xs
  | [], _, .nil => .nil
  | x :: xs, _, .cons ⟨t, e⟩ q => by subst e; exact .cons x t (vals_strs q)
section
variable {X : Cx} {T : Tb} {g : Fm}
theorem je_srtP {G : Sg} {con : Nat → Option D} {call : Nat → List DL.Slot → CRes} {n : Nat} {a : Expr} {q p : Pos} {ra : Res D} {sc : Scope} (gd : Gd G con call T n X) (hs : X.env.scope = sc) (hg : isGl sc "sorted" = true) (hx : plainX a = true) (ha : JE X T a g ra) :
    JE X T (.Call (.Name "sorted" q) [a] [] p) g (ra.bind fun x g1 => opt g1 (srtD .plain x)) := by
  intro Mo F H σ Q W r tk k
  obtain ⟨g1, g2⟩ := gl_of hs hg
  refine toE (pe_callB (cr_srt (T := T) gd.hu) g1 gd.lib.2.2.2.1 boot_sorted (pa_cons pe_w pa_nil (star_cons hx)) (by decide +kernel) g2 (star_cons hx) (by rfl)) ?_
  refine ha Mo F H σ _ W r tk (Cont.bind k fun x g1 F1 H1 _ n1 r1 k => fun v hv => ?_)
  obtain ⟨d, hd, k⟩ := Cont.opt k
  cases x <;> simp only [srtD] at hd <;> first | (cases hd; done) | skip
  split at hd
  · next c =>
    cases hd
    simp only [Bool.and_eq_true] at c
    cases hv with
    | lst h1 l =>
      exact ⟨_, _, _, F1, rfl, SqL.of (r1.sub _ _ h1), l, r1.sub, c.1, c.2, fun p out hp ho => k _ _ (Nxt.new r1 hp) (r1.new hp) _ (.lst upd_same (ho.mono (Sub.new (r1.sub.free hp))))⟩
  · cases hd
theorem setD_eq {x d : D} (h : srtD .set x = some d) : ∃ xs : List Str, (x = .lst (xs.map .str) ∨ x = .tup (xs.map .str)) ∧ xs.length + 1 < 4096 ∧ d = .lst ((setS xs).map .str) := by
  cases x <;> simp only [srtD] at h <;> first | (cases h; done) | skip
  all_goals
    rename_i ds
    cases e : strsD ds with
    | none => rw [e] at h; cases h
    | some xs =>
      rw [e] at h
      simp only [Option.bind_some] at h
      split at h
      · next c => cases h; exact ⟨xs, by rw [of_strsD e]; first | exact .inr rfl | exact .inl rfl, c, rfl⟩
      · cases h
theorem je_srtS {G : Sg} {con : Nat → Option D} {call : Nat → List DL.Slot → CRes} {n : Nat} {a : Expr} {q q2 p p2 : Pos} {ra : Res D} {sc : Scope} (gd : Gd G con call T n X) (hs : X.env.scope = sc) (hg : isGl sc "sorted" = true) (hg2 : isGl sc "set" = true) (hx : plainX a = true) (ha : JE X T a g ra) :
    JE X T (.Call (.Name "sorted" q) [.Call (.Name "set" q2) [a] [] p2] [] p) g (ra.bind fun x g1 => opt g1 (srtD .set x)) := by
  intro Mo F H σ Q W r tk k
  obtain ⟨g1, g2⟩ := gl_of hs hg
  obtain ⟨g3, g4⟩ := gl_of hs hg2
  refine toE (pe_callB cr_w g1 gd.lib.2.2.2.1 boot_sorted (pa_cons (pe_callTy cr_w g3 gd.lib.2.2.2.2 boot_set (pa_cons pe_w pa_nil (star_cons hx)) (by decide +kernel) g4 (star_cons hx) (by rfl)) pa_nil) (by decide +kernel) g2 (by rfl) (by rfl)) ?_
  refine ha Mo F H σ _ W r tk (Cont.bind k fun x g1 F1 H1 _ n1 r1 k => fun v hv => ?_)
  obtain ⟨d, hd, k⟩ := Cont.opt k
  obtain ⟨xs, hx2, hl, rfl⟩ := setD_eq hd
  -- the set is made
  intro pins s σI us I rv
  obtain ⟨u, rfl, ru⟩ := rv.one
  have made : ∀ (h2 : Heap) (tk n : Nat), SetT X.w h2 s.heap.objs.size (fun y => y ∈ xs) n → (∀ b o, s.heap.get? b = some o → h2.get? b = some o) →
      EP X pins σI (fun v2 H2 => wC X (.builtin "sorted") [v2] H2 Q) (.ref s.heap.objs.size) { s with heap := h2, toks := tk } := by
    intro h2 tk m hS keep
    have nH : H1 s.heap.objs.size = none := I.hok.fresh (Nat.le_refl _)
    refine ⟨.ref s.heap.objs.size, _, I.laid keep (Nat.le_refl _) (setTO_ok hS), rfl, ?_⟩
    generalize s.heap.objs.size = pS at *
    -- it is told in order
    intro pins3 s3 σ3 us3 I3 rv3
    rw [Vals.ref1 rv3]
    have hS3 : SetT X.w s3.heap pS (fun y => y ∈ xs) m := (I3.hok pS _ upd_same).1
    refine sorted_setT (I3.ok.hd gd.calm) gd.hu hS3 fun s4 p4 us4 c e4 l4 k4 g4 gen4 os4 o4 => ?_
    have np : (upd H1 pS (SetTO X.w pS xs m)) p4 = none := I3.hok.fresh g4
    have J : Inv X pins3 σ3 (upd (upd H1 pS (SetTO X.w pS xs m)) p4 (.lst ((setS xs).map V.str))) { s3 with heap := s4.heap, gens := s4.gens, drawn := s4.drawn, toks := s4.toks } :=
      I3.call (ch := []) (Un.laid k4 g4 np) (I3.hok.laid k4 g4 ⟨by rw [List.length_map, ← e4.length]; exact l4, us4, c, each_vals e4, o4⟩) (by rw [gen4]; exact I3.bare) (fun _ z => nomatch z)
    have es : s4 = { s3 with heap := s4.heap, gens := s4.gens, drawn := s4.drawn, toks := s4.toks } := by
      cases s4; cases s3; cases os4; rfl
    rw [es]
    have r5 := (r1.newO (o := SetTO X.w pS xs m) nH)
    exact ⟨.ref p4, _, J, rfl, k _ _ ((Nxt.newO r1 nH).trans (Nxt.new r5 np)) (r5.new np) _ (.lst upd_same (isL_strs _))⟩
  rcases hx2 with rfl | rfl
  · cases hv with
    | lst h1 l =>
      cases ru
      obtain ⟨its, hv2, hi, hz⟩ := I.list (SqL.of (r1.sub _ _ h1))
      rw [IsL.strs l] at hv2
      exact call_setT_list (I.ok.hd gd.calm) hi.isList (by simpa using vals_strs hv2) hl made
  · cases hv with
    | tup h1 l =>
      cases ru
      obtain ⟨its, hv2, hi, hz⟩ := I.tuple (r1.sub.sqT h1)
      rw [IsL.strs l] at hv2
      exact call_setT_tuple (I.ok.hd gd.calm) hi (by simpa using vals_strs hv2) hl made
/-! ### keys -/
def wCK (X : Cx) (f : Value) (ks : List Str) : List V → List V → Hp → VK → Prop := fun xs zs H Q => ∀ (pins : List (Addr × Obj)) (s : Shared) (σ : L2.St) (us ws : List Value), Inv X pins σ H s → Vals xs us → Vals zs ws → wpAny (model X.prog X.w) X.A (call f us (ks.zip ws)) (EP X pins σ Q) X.xe s
theorem crk_w {f : Value} {ks : List Str} : CallRK X f ks (wCK X f ks) := fun pins s σ H xs zs us ws Q I r1 r2 h => h pins s σ us ws I r1 r2
theorem back_cons {e : Expr} {es : List Expr} {env : Env} {pos : Pos} (h : plainX e = true) : backTo pos (starEach (e :: es) env) = (false, eval e env) :: backTo pos (starEach es env) := by rw [star_cons h]; rfl
theorem keyF_eq {f : D → Option D} {ds : List D} {d : D} (h : keyF f ds = some d) : (∀ x ∈ ds, f x = some (keyOf f x)) ∧ pureL (ds.map (keyOf f)) = true ∧ srtOkP ((ds.map (keyOf f)).map D.py) = true ∧ d = .lst (sortP (fun d => (keyOf f d).py) ds) := by
  unfold keyF at h
  split at h
  · next c =>
    simp only [Bool.and_eq_true, List.all_eq_true] at c
    cases h
    refine ⟨fun x hx => ?_, c.1.2, c.2, rfl⟩
    have := c.1.1 x hx
    unfold keyOf
    cases e : f x with
    | none => rw [e] at this; cases this
    | some y => rfl
  · cases h
/-- sorted(a, key=v): what v's value does -/
theorem key_core {G : Sg} {con : Nat → Option D} {call : Nat → List DL.Slot → CRes} {n : Nat} {a v : Expr} {q kp p : Pos} {ra : Res D} {f : D → Option D} {sc : Scope} {tv : TE} (gd : Gd G con call T n X) (hs : X.env.scope = sc) (hg : isGl sc "sorted" = true) (hx : plainX a = true) (ha : JE X T a g ra) (hv : PE X v tv)
    (hkey : ∀ Mo F H g1 σ (Q : VK) (ds : List D), Rl X.K T Mo F H g1 σ → (∀ x ∈ ds, f x = some (keyOf f x)) →
      (∀ qf Mo1 F1 H1, Rl X.K T (Mo1 ++ Mo) F1 H1 g1 σ → Nxt Mo F H F1 H1 →
        (∀ (Mo' : List Addr) (pins : List (Addr × Obj)) (σI : L2.St) (s' : Shared) (F' H' : Hp) (v : V) (u : Value) (d : D), Nxt (Mo1 ++ Mo) F1 H1 F' H' → Inv X pins σI H' s' → Rl X.K T (Mo' ++ (Mo1 ++ Mo)) F' H' g1 σ → d ∈ ds → Is X.K T F' v d → RelV v u →
          wpAny (model X.prog X.w) X.A.in1.in1 (PySem.call (.ref qf) [u]) (fun ku s2 => ∃ kv F2 H2, Inv X pins σI H2 s2 ∧ Rl X.K T (Mo' ++ (Mo1 ++ Mo)) F2 H2 g1 σ ∧ Nxt (Mo' ++ (Mo1 ++ Mo)) F' H' F2 H2 ∧ RelV kv ku ∧ Is X.K T F2 kv (keyOf f d)) (fun _ _ => False) s') →
        Q (.ref qf) H1) → tv σ H Q) :
    JE X T (.Call (.Name "sorted" q) [a] [⟨some "key", v, kp⟩] p) g (ra.bind fun x g1 => match x with
      | .lst ds => opt g1 (keyF f ds)
      | _ => .stuck) := by
  intro Mo F H σ Q W r tk k
  obtain ⟨g1, g2⟩ := gl_of hs hg
  refine toE (pe_callBK (ks := ["key"]) crk_w g1 gd.lib.2.2.2.1 boot_sorted (pa_cons pe_w pa_nil (star_cons hx)) (pk_cons hv pk_nil) (by decide +kernel) g2 (back_cons hx) (by rw [back_cons hx]; rfl) (by rfl) (by rfl) (by rfl)) ?_
  refine ha Mo F H σ _ W r tk (Cont.bind k fun x g1 F1 H1 _ n1 r1 k => fun w hw => ?_)
  cases x with
  | lst ds =>
    obtain ⟨d, hd, k⟩ := Cont.opt (show Cont X.K T Mo F1 H1 σ W (opt g1 (keyF f ds)) _ from k)
    obtain ⟨hf, hp, hok, rfl⟩ := keyF_eq hd
    refine hkey Mo F1 H1 g1 σ _ ds r1 hf fun qf Mo1 F2 H2 r2 n2 turn => ?_
    intro pins s σI us ws I rv rz
    obtain ⟨u, rfl, ru⟩ := rv.one
    obtain ⟨y, rfl, ry⟩ := rz.one
    cases ry
    cases hw with
    | lst h1 l =>
      cases ru
      have h2 := r2.sub _ _ (n2.sub _ _ h1)
      obtain ⟨its, hv2, hi, hz⟩ := I.list (SqL.of h2)
      refine sorted_keyed (kd := keyOf f) I r2 hi.isList hv2 (l.mono n2.sub) (by rw [← hv2.length]; exact hz) hp hok gd.hu (fun Mo' s' F' H' v u d nn J rr hm hi hu => turn Mo' pins σI s' F' H' v u d nn J rr hm hi hu) fun F3 H3 pp out s3 J r3 n3 o3 f3 m3 w3 l3 => ?_
      obtain ⟨F4, r4, n4, is4⟩ := r3.settleNew (o := .lst (sortP (fun d => (keyOf f d).py) ds)) ⟨out, o3, l3⟩ rfl f3 m3 w3
      have low : ∀ {A B : Hp} {C D : Hp}, Nxt (Mo1 ++ Mo) A B C D → Nxt Mo A B C D := fun h => ⟨h.sub, fun a ha => h.mo a (List.mem_append_right _ ha)⟩
      exact ⟨.ref pp, H3, J, rfl, k F4 H3 ((n2.trans (low n3)).trans (low n4)) (by
        refine ⟨r4.sub, fun a ha => r4.mo a (List.mem_append_right _ ha), r4.len, r4.sl, r4.sep, fun i p hp hm => r4.out i p hp (List.mem_append_right _ hm), fun p hp => ⟨fun hm => (r4.tab p hp).1 (List.mem_append_right _ hm), (r4.tab p hp).2⟩⟩) _ is4⟩
  | _ => exact k.elim
theorem putBack_d {g : Fm} {d : D} {ss : List DL.Slot} : putBack g [.d d] ss = g := by
  cases ss with
  | nil => rfl
  | cons s ss => simp only [putBack]
/-- a key by a def -/
theorem je_srk {G : Sg} {con : Nat → Option D} {call : Nat → List DL.Slot → CRes} {n k0 : Nat} {a v : Expr} {x : Str} {q kp p : Pos} {ra : Res D} {sc : Scope} (gd : Gd G con call T n X) (hs : X.env.scope = sc) (hg : isGl sc "sorted" = true) (hx : plainX a = true) (hk : G.fns k0 = some x) (hv : ckGl sc x v = true) (ha : JE X T a g ra) :
    JE X T (.Call (.Name "sorted" q) [a] [⟨some "key", v, kp⟩] p) g (ra.bind fun x g1 => match x with
      | .lst ds => opt g1 (keyF (fun d => match call k0 [.dat d] with
        | .ok (.dat kd) _ => some kd
        | _ => none) ds)
      | _ => .stuck) := by
  obtain ⟨pv, rfl, hgv⟩ := ckGl_eq hv
  obtain ⟨g1, g2⟩ := gl_of hs hgv
  obtain ⟨f, fd, ps, hm, _, hb, _, h6, hF⟩ := gd.fns k0 x hk
  refine key_core gd hs hg hx ha (pe_glob (v := .ref f) g1 hm rfl g2) fun Mo F H g1 σ Q ds r hall kk => ?_
  refine kk f [] F H r Nxt.same fun Mo' pins σI s' F' H' v u d nn J rr hd hi hu => ?_
  have room : Room (n - 6) X.A.in1.in1 := by
    obtain ⟨m, rfl⟩ : ∃ m, n = m + 6 := ⟨n - 6, by omega⟩
    have z : Room (m + 4 + 1 + 1) X.A := gd.room
    exact (Room.in1 (k := m + 4) (Room.in1 z)).mono (by omega)
  have hcall := hall d hd
  have hkd : ∃ ss, call k0 [.dat d] = .ok (.dat (keyOf (fun d => match call k0 [.dat d] with
        | .ok (.dat kd) _ => some kd
        | _ => none) d)) ss := by
    generalize keyOf (fun d => match call k0 [.dat d] with
        | .ok (.dat kd) _ => some kd
        | _ => none) d = z at hcall
    split at hcall
    · next kd ss e => cases hcall; exact ⟨ss, e⟩
    · cases hcall
  obtain ⟨ss, hkd⟩ := hkd
  generalize keyOf (fun d => match call k0 [.dat d] with
        | .ok (.dat kd) _ => some kd
        | _ => none) d = kd at hkd
  have ar : ArL X.K T F' σ [v] [.d d] := .d hi .nil
  have er : slotsOf g1 [.d d] = some [.dat d] := rfl
  have sp : spOf X.K T (call k0) [v] H' (fun kv H2 => ∃ F2, Rl X.K T (Mo' ++ ([] ++ Mo)) F2 H2 g1 σ ∧ Nxt (Mo' ++ ([] ++ Mo)) F' H' F2 H2 ∧ Is X.K T F2 kv kd) (fun _ _ _ => False) := by
    refine ⟨_, F', [.dat d], rr.enter ar er List.nodup_nil, ?_⟩
    rw [hkd]
    intro F2 H2 kv n2 r2 hr
    obtain ⟨r3, n3⟩ := rr.leave ar er List.nodup_nil n2 r2
    rw [putBack_d] at r3
    exact ⟨F2, r3, n3, hr⟩
  have len1 : [u].length = ps.length := hF.len _ _ _ _ sp
  have bb := hb s' [u] J.kIn (by simpa using len1)
  rw [List.append_nil] at bb
  refine wpAny_call (codeAny_mono (hF.run X.A.in1.in1 X.stack s' H' ⟨[u], []⟩ [u] [v] _ _ room J.env0.in1.in1 bb (.cons hu .nil) sp) fun r s2 hq => ?_)
  cases r with
  | error e =>
    obtain ⟨_, _, _, _, _, _, _, _, _, _, _, _, z⟩ := hq
    exact z.elim
  | ok fl =>
    cases fl with
    | ret w =>
      obtain ⟨kv, H2, J2, rk, F2, r2, n2, ik⟩ := J.after hq
      exact ⟨kv, F2, H2, J2, r2, n2, rk, ik⟩
    | next => exact False.elim hq
    | brk => exact False.elim hq
    | cont => exact False.elim hq
end
end DL

set_option Elab.async false
set_option linter.all false
set_option autoImplicit false
set_option maxRecDepth 100000
set_option maxHeartbeats 4000000
/-! DLv: a lambda of one parameter as a key. -/
namespace DL
open PySem PySem.Calls PySem.Spec PyProof.Rows L2
theorem cloFrom_none {cells : List (Str × Addr)} : ∀ {names : List (Str × NameKind)} {acc : List (Str × Addr)}, (∀ y ∈ names, y.2 ≠ .free) → cloFrom cells names acc = acc
  | [], _, _ => rfl
  | (m, k) :: r, acc, h => by
    have hk : (k == NameKind.free) = false := by
      have := h (m, k) List.mem_cons_self
      cases k <;> first | rfl | exact absurd rfl this
    simp only [cloFrom, hk, Bool.false_eq_true, if_false]
    exact cloFrom_none fun y hy => h y (List.mem_cons_of_mem _ hy)
/-- the object that a lambda makes -/
abbrev lamObj (X : Cx) (ps : Arguments) (b : Expr) (sc : Scope) (pm : Value) (c' : Addr) (ct : Value) : Obj := PySem.W.kla_obj "<lambda>" (X.env.qual ++ "<lambda>") ps b sc [] pm c' ct
section
variable {X : Cx} {pins : List (Addr × Obj)} {σ : L2.St} {H : Hp} {s : Shared} {Q : Value → Shared → Prop} {E : Value → Shared → Prop}
/-- a lambda is made: its code object is found, or new -/
theorem lam_make3 {Pk : Addr → Prop} {c P : Addr} {params : Arguments} {b : Expr} {sc : Scope} {pos : Pos} {ps : Array Value} (I : Inv X pins σ H s) (TB : LamX.TabB X.base X.mg c P) (hcode : X.env.code = .ref c) (hP : H P = some (.tbl ps)) (ht : TriplesOk ps.toList)
    (ha : ∀ (q : Pos) (cv : Value), codeAmong q ps.toList = some cv → ∃ c', cv = .ref c' ∧ Pk c') (hdef : defaultsOf params X.env = ([], [])) (hfree : ∀ y ∈ sc.names, y.2 ≠ .free)
    (h1 : ∀ (f c' : Addr) (pm ct : Value) (s' : Shared), H f = none → Pk c' → Inv X pins σ (upd H f (exO f (lamObj X params b sc pm c' ct))) s' → Q (.ref f) s')
    (h2 : ∀ (f c' : Addr) (pm ct : Value) (s' : Shared) (more : Array Value), H c' = none → f ≠ c' → (upd (upd H P (.tbl (ps ++ more))) c' (LamX.CodeO c' (X.env.qual ++ "<lambda>"))) f = none → TriplesOk (ps ++ more).toList → (∀ (q : Pos) (cv : Value), codeAmong q (ps ++ more).toList = some cv → codeAmong q ps.toList = some cv ∨ cv = .ref c') →
      Inv X pins σ (upd (upd (upd H P (.tbl (ps ++ more))) c' (LamX.CodeO c' (X.env.qual ++ "<lambda>"))) f (exO f (lamObj X params b sc pm c' ct))) s' → Q (.ref f) s') :
    wpAny (model X.prog X.w) X.A (eval (.Lambda params b sc pos) X.env) Q E s := by
  have clo : closureFor sc X.env = pure [] := by
    have z := closure_ok (scope := sc) (env := X.env) fun y hy e => absurd e (hfree y hy)
    rw [cloFrom_none hfree] at z
    exact z
  refine PySem.W.kla_eval hdef ?_
  have bP := TB.bm.keeps I.bk
  have oP : s.heap.get? P = some { cls := .none, data := .fields ps } := I.hok P _ hP
  cases hc : codeAmong pos ps.toList with
  | some cv =>
    obtain ⟨c', rfl, hco⟩ := ha pos cv hc
    refine PySem.W.kla_makeFunctionHit (mg := X.mg) (c := c) (P := P) (ps := ps) clo I.ok.glob (I.mod.glob.keeps I.bk) hcode (TB.code.keeps I.bk) oP ht hc bP fun ct h' tk keep big => ?_
    refine h1 h'.objs.size c' ((X.mg "__name__").getD .none) ct _ (I.hok.fresh big) hco ?_
    exact I.laid (t' := tk) (fun a o e => Heap.get?_push_of_some _ (keep a o e)) big (exO_ok (Heap.get?_push_size _ rfl))
  | none =>
    refine PySem.W.kla_makeFunction (mg := X.mg) (c := c) (P := P) (ps := ps) clo I.ok.glob (I.mod.glob.keeps I.bk) hcode (TB.code.keeps I.bk) oP ht hc TB.gP bP fun c' ct h' tk but ge lt rec tb => ?_
    obtain ⟨c2, oc, vs, t, e2, o1, o2, o3⟩ := rec
    cases e2
    have nC : H c' = none := I.hok.fresh ge
    have big : s.heap.objs.size ≤ h'.objs.size := Nat.le_trans ge (Nat.le_of_lt lt)
    have J := LamX.inv_table (t' := tk) (q := X.env.qual ++ "<lambda>") (more := #[rawInt pos.line, rawInt pos.col, .ref c']) I hP (fun a o hb e => but a o hb e) tb ge ⟨oc, vs, t, o1, o2, o3⟩
    have fr := J.hok.fresh (Nat.le_refl h'.objs.size)
    have eL : (ps ++ #[rawInt pos.line, rawInt pos.col, .ref c']).toList = ps.toList ++ [rawInt pos.line, rawInt pos.col, .ref c'] := by simp
    refine h2 h'.objs.size c' ((X.mg "__name__").getD .none) ct _ #[rawInt pos.line, rawInt pos.col, .ref c'] nC (Nat.ne_of_gt lt) fr (by rw [eL]; exact PySem.TriplesOk_snoc _ _ _ _ ht) (fun q cv hq => by rw [eL] at hq; exact LamX.among_app _ ht hq) ?_
    exact J.laid (t' := tk) (fun a o e => Heap.get?_push_of_some _ e) (Nat.le_refl _) (exO_ok (Heap.get?_push_size _ rfl))
theorem bind_lam {x q : Str} {a : Arg} {b : Expr} {sc : Scope} {pm cv ct u : Value} (harg : a.arg = x) : bindArgs (PySem.W.kla_fn "<lambda>" q ⟨[], [a], none, [], [], none, []⟩ b sc [] pm cv ct) ⟨[u], []⟩ = pure [(x, u)] := by
  subst harg
  unfold bindArgs
  simp [PySem.W.kla_fn, List.lookup_cons, seqItems?]
  rfl
/-- where its body runs -/
abbrev lamCx1 (X : Cx) (x : Str) (sc : Scope) (f c' : Addr) (s : Shared) (H : Hp) : Cx := cxOf (L2.CX X.prog X.w) X.prog X.w X.K X.mg X.base [x] (X.env.qual ++ "<lambda>") sc f (.ref c') X.A.in1.in1 X.stack s H (fun _ _ _ => False)
theorem lam_run {m : Nat} {x : Str} {a : Arg} {b : Expr} {sc : Scope} {f c' : Addr} {pm ct : Value} {v : V} {u : Value} {Qv : VK} (harg : a.arg = x) (S : FnScope [x] [x] sc) (room : Room (m + 1) X.A.in1.in1) (I : Inv X pins σ H s)
    (hf : H f = some (exO f (lamObj X ⟨[], [a], none, [], [], none, []⟩ b sc pm c' ct))) (hc : H c' = some (LamX.CodeO c' (X.env.qual ++ "<lambda>"))) (hu : RelV v u) (hb : wE (lamCx1 X x sc f c' s H) b [some v] H Qv) :
    wpAny (model X.prog X.w) X.A.in1.in1 (call (.ref f) [u]) (EP X pins σ Qv) (fun _ _ => False) s := by
  have of := exO_get I hf
  obtain ⟨⟨oc, vs, t, o1, o2, o3⟩, _, _⟩ := I.hok c' _ hc
  have rc : codeAny (model X.prog X.w) X.A.in1.in1 (.call (.ref f) ⟨[u], []⟩) (CR (L2.CX X.prog X.w) X.stack X.prog X.w H s Qv (fun _ _ _ => False)) s := by
    refine PySem.W.kla_callFunE room.depth of rfl S.co S.gen rfl ⟨c', oc, vs, t, rfl, o1, o2, o3⟩ ?_
    have bind : bindArgs (PySem.W.kla_fn "<lambda>" (X.env.qual ++ "<lambda>") ⟨[], [a], none, [], [], none, []⟩ b sc [] pm (.ref c') ct) ⟨[u], []⟩ = pure [(x, u)] := bind_lam harg
    rw [bind]
    have kinds : ∀ y ∈ [(x, u)], sc.names.lookup y.1 = some .local ∨ (sc.names.lookup y.1 = some .cell ∧ ((cellsFrom (s.heap.objs.size + 1) sc.names []).lookup y.1).isSome = true) := fun y hy => by
      obtain rfl : y = (x, u) := by simpa using hy
      rcases S.par x (by simp) with z | z
      · exact .inl z
      · exact .inr ⟨z, PySem.W.cellsFrom_some _ _ _ (.inl z)⟩
    refine wpAny_pure (wpAny_newFunctionEnv_cells S.kind kinds fun env he s1 xx => ?_)
    subst he
    refine ⟨I.nolimit.keeps xx.toInCall.keep, ?_⟩
    show codeAny _ _ (.expr b (envOfC (X.env.qual ++ "<lambda>") sc s.heap.objs.size f (.ref c'))) _ _
    have J : Inv (lamCx1 X x sc f c' s H) [] (L2.start [x] [v]) H s1 := inv_start (us := [u]) S room.hd I.env0.in1.in1 rfl (.cons hu .nil) xx
    refine PySem.W.kla_codeExpr (wpAny_mono (hb [] s1 J) (fun w s2 hq => ?_) fun e s2 hq => hq)
    obtain ⟨w2, H2, J2, rw2, q2⟩ := hq
    exact ⟨w2, H2, J2.os, J2.bare, J2.base, J2.hok, rw2, q2⟩
  refine wpAny_call (codeAny_mono rc fun r s2 hq => ?_)
  cases r with
  | error e =>
    obtain ⟨_, _, _, _, _, _, _, _, _, _, _, _, z⟩ := hq
    exact z.elim
  | ok fl =>
    cases fl with
    | ret w => exact I.after hq
    | next => exact False.elim hq
    | brk => exact False.elim hq
    | cont => exact False.elim hq
end
section
variable {K : PySem.W.Frag} {T : Tb} {Mo : List Addr} {F H : Hp} {g : Fm} {σ : L2.St}
/-- a new code object, told by its table -/
theorem Rl.newCode {P c' : Addr} {q : Str} {ps more : Array Value} (r : Rl K T Mo F H g σ) (hm : (P, q) ∈ T.tabs) (un : ∀ p ∈ T.tabs, p.1 = P → p.2 = q) (hP : H P = some (.tbl ps)) (hc : H c' = none) (ht : TriplesOk (ps ++ more).toList)
    (ha : ∀ (z : Pos) (cv : Value), codeAmong z (ps ++ more).toList = some cv → (∃ c, cv = .ref c ∧ F c = some (LamX.CodeO c q)) ∨ cv = .ref c') :
    Rl K T Mo (upd F c' (LamX.CodeO c' q)) (upd (upd H P (.tbl (ps ++ more))) c' (LamX.CodeO c' q)) g σ ∧ Nxt Mo F H (upd F c' (LamX.CodeO c' q)) (upd (upd H P (.tbl (ps ++ more))) c' (LamX.CodeO c' q)) := by
  obtain ⟨t1, t2, _⟩ := r.tab _ hm
  have tP := (r.tab _ hm).2
  have nPc : P ≠ c' := ne_of_none hP hc
  have Fc : F c' = none := r.sub.free hc
  have sF : Sub F (upd F c' (LamX.CodeO c' q)) := Sub.new Fc
  have far : ∀ {b : Addr}, b ≠ P → b ≠ c' → upd (upd H P (.tbl (ps ++ more))) c' (LamX.CodeO c' q) b = H b := fun {b} h1 h2 => by rw [upd_ne h2, upd_ne h1]
  have ofF : ∀ {b : Addr} {o : HO}, F b = some o → b ≠ P ∧ b ≠ c' := fun {b o} e => ⟨fun z => (by rw [z, t2] at e; cases e), ne_of_none e Fc⟩
  have ofMo : ∀ {b : Addr}, b ∈ Mo → b ≠ P ∧ b ≠ c' := fun {b} hb => ⟨fun z => t1 (z ▸ hb), fun z => (by obtain ⟨_, o, e⟩ := r.mo b hb; rw [z, hc] at e; cases e)⟩
  refine ⟨⟨fun b o e => ?_, fun b hb => ?_, r.len, fun i s hs => ?_, r.sep, r.out, fun p hp => ?_⟩, ⟨sF, fun b hb => far (ofMo hb).1 (ofMo hb).2⟩⟩
  · by_cases z : b = c'
    · subst z; rw [upd_same] at e ⊢; exact e
    · rw [upd_ne z] at e
      rw [far (ofF e).1 z]; exact r.sub b o e
  · obtain ⟨e1, o, e2⟩ := r.mo b hb
    exact ⟨by rw [upd_ne (ofMo hb).2]; exact e1, o, by rw [far (ofMo hb).1 (ofMo hb).2]; exact e2⟩
  · have z := r.sl i s hs
    cases s with
    | un => trivial
    | dat d => obtain ⟨v, a1, a2⟩ := z; exact ⟨v, a1, a2.mono sF⟩
    | own o =>
      obtain ⟨p, a1, a2, a3⟩ := z
      have np : p ≠ c' := by
        obtain ⟨u, hu⟩ := a3.there
        exact ne_of_none hu hc
      exact ⟨p, a1, by rw [upd_ne np]; exact a2, a3.mono sF (far (Ne.symm (a3.noTab tP)) np)⟩
  · obtain ⟨m1, m2⟩ := r.tab p hp
    refine ⟨m1, ?_⟩
    by_cases z : p.1 = P
    · rw [un p hp z, z]
      refine ⟨by rw [upd_ne nPc]; exact t2, _, by rw [upd_ne nPc, upd_same], ht, fun zz cv hcv => ?_⟩
      rcases ha zz cv hcv with ⟨c, e1, e2⟩ | e
      · exact ⟨c, e1, sF _ _ e2⟩
      · exact ⟨c', e, upd_same⟩
    · have nc : p.1 ≠ c' := by
        obtain ⟨_, ps', e, _⟩ := m2
        exact ne_of_none e hc
      exact m2.step sF (by rw [upd_ne nc]; exact m2.1) (far z nc)
end
section
variable {X : Cx} {T : Tb} {g : Fm}
/-- a key by a lambda -/
theorem je_srl {G : Sg} {con : Nat → Option D} {call : Nat → List DL.Slot → CRes} {n : Nat} {a b : Expr} {x : Str} {ar : Arg} {q kp p lp : Pos} {ra : Res D} {re : Fm → Res D} {sc sc' : Scope} (gd : Gd G con call T n X) (hs : X.env.scope = sc) (hg : isGl sc "sorted" = true) (hx : plainX a = true) (hl : G.lam = true) (har : ar.arg = x) (S : FnScope [x] [x] sc')
    (hb : ∀ (m : Nat) (X' : Cx), Gd { cons := G.cons, fns := fun _ => none, lam := false } con call T m X' → X'.N = [x] → X'.env.scope = sc' → ∀ d, JE X' T b [.dat d] (re [.dat d])) (ha : JE X T a g ra) :
    JE X T (.Call (.Name "sorted" q) [a] [⟨some "key", .Lambda ⟨[], [ar], none, [], [], none, []⟩ b sc' lp, kp⟩] p) g (ra.bind fun x g1 => match x with
      | .lst ds => opt g1 (keyF (fun d => match re [.dat d] with
        | .ok kd _ => some kd
        | _ => none) ds)
      | _ => .stuck) := by
  obtain ⟨n3, c, P, hcode, TB, hm, un⟩ := gd.lam hl
  obtain ⟨m, rfl⟩ : ∃ m, n = m + 3 := ⟨n - 3, by omega⟩
  have rm2 : Room (m + 1) X.A.in1.in1 := Room.in1 (k := m + 1) (Room.in1 (k := m + 1 + 1) gd.room)
  refine key_core gd hs hg hx ha pe_w fun Mo F H g1 σ Q ds r hall kk => ?_
  intro pins s I
  obtain ⟨t1, t2, ps, hP, ht, hcs⟩ := r.tab _ hm
  have tabNe : ∀ {H' : Hp} {Mo' : List Addr} {F' : Hp} {d : Addr}, Rl X.K T Mo' F' H' g1 σ → H' d = none → ∀ p ∈ T.tabs, p.1 ≠ d := fun r' e p hp z => by
    obtain ⟨_, ps, e2, _⟩ := (r'.tab p hp).2
    rw [z, e] at e2; cases e2
  -- a call of it
  have turnOf : ∀ {f c' : Addr} {pm ct : Value} {F1 H1 : Hp}, H1 f = some (exO f (lamObj X ⟨[], [ar], none, [], [], none, []⟩ b sc' pm c' ct)) → F1 c' = some (LamX.CodeO c' (X.env.qual ++ "<lambda>")) →
      ∀ (Mo' : List Addr) (pins : List (Addr × Obj)) (σI : L2.St) (s' : Shared) (F' H' : Hp) (v : V) (u : Value) (d : D), Nxt ([f] ++ Mo) F1 H1 F' H' → Inv X pins σI H' s' → Rl X.K T (Mo' ++ ([f] ++ Mo)) F' H' g1 σ → d ∈ ds → Is X.K T F' v d → RelV v u →
        wpAny (model X.prog X.w) X.A.in1.in1 (PySem.call (.ref f) [u]) (fun ku s2 => ∃ kv F2 H2, Inv X pins σI H2 s2 ∧ Rl X.K T (Mo' ++ ([f] ++ Mo)) F2 H2 g1 σ ∧ Nxt (Mo' ++ ([f] ++ Mo)) F' H' F2 H2 ∧ RelV kv ku ∧ Is X.K T F2 kv (keyOf (fun d => match re [.dat d] with
        | .ok kd _ => some kd
        | _ => none) d)) (fun _ _ => False) s' := by
    intro f c' pm ct F1 H1 hf hc Mo' pins σI s' F' H' v u d nn J rr hd hi hu
    have hf' := (nn.mo f (by simp)).trans hf
    have hc' := rr.sub _ _ (nn.sub _ _ hc)
    have hcall := hall d hd
    have hkd : ∃ ss, re [.dat d] = .ok (keyOf (fun d => match re [.dat d] with
        | .ok kd _ => some kd
        | _ => none) d) ss := by
      generalize keyOf (fun d => match re [.dat d] with
        | .ok kd _ => some kd
        | _ => none) d = z at hcall
      split at hcall
      · next kd ss e => cases hcall; exact ⟨ss, e⟩
      · cases hcall
    obtain ⟨ss, hkd⟩ := hkd
    generalize keyOf (fun d => match re [.dat d] with
        | .ok kd _ => some kd
        | _ => none) d = kd at hkd
    have arl : ArL X.K T F' σ [v] [.d d] := .d hi .nil
    have er : slotsOf g1 [.d d] = some [.dat d] := rfl
    have gd' : Gd { cons := G.cons, fns := fun _ => none, lam := false } con call T m (lamCx1 X x sc' f c' s' H') :=
      ⟨by simp [cxOf], rfl, Room.deeper rm2 _, passes_of rfl, gd.con, fun k y hk => by simp at hk, gd.bi, gd.ty, gd.lib, fun z => nomatch z⟩
    refine wpAny_mono (lam_run har S rm2 J hf' hc' hu (Qv := fun kv H2 => ∃ F2, Rl X.K T (Mo' ++ ([f] ++ Mo)) F2 H2 g1 σ ∧ Nxt (Mo' ++ ([f] ++ Mo)) F' H' F2 H2 ∧ Is X.K T F2 kv kd) ?_) (fun ku s2 ⟨kv, H2, J2, rk, F2, r2, n2, ik⟩ => ⟨kv, F2, H2, J2, r2, n2, rk, ik⟩) fun _ _ z => z
    refine hb m _ gd' rfl rfl d _ F' H' [some v] _ (fun _ _ _ _ => False) (rr.enter arl er List.nodup_nil) (takes_of rfl rfl rfl rfl) ?_
    rw [hkd]
    intro F2 H2 n2 r2 kv ik
    obtain ⟨r3, n3⟩ := rr.leave arl er List.nodup_nil n2 r2
    rw [putBack_d] at r3
    exact ⟨F2, r3, n3, ik⟩
  refine lam_make3 (Pk := fun c' => F c' = some (LamX.CodeO c' (X.env.qual ++ "<lambda>"))) I TB hcode hP ht hcs rfl S.nofree (fun f c' pm ct s' nf hc J => ?_) (fun f c' pm ct s' more nc nfc nf htr ham J => ?_)
  · obtain ⟨a1, a2, a3⟩ := r.apart nf
    have r1 := (r.newO (o := exO f (lamObj X ⟨[], [ar], none, [], [], none, []⟩ b sc' pm c' ct)) nf).guard a1 upd_same a3 (tabNe r nf)
    exact ⟨.ref f, _, J, rfl, kk f [f] F _ r1 (Nxt.newO r nf) (turnOf upd_same hc)⟩
  · obtain ⟨rN, nN⟩ := r.newCode hm un hP nc htr fun z cv hcv => (ham z cv hcv).imp (hcs z cv) id
    obtain ⟨a1, a2, a3⟩ := rN.apart nf
    have r1 := (rN.newO (o := exO f (lamObj X ⟨[], [ar], none, [], [], none, []⟩ b sc' pm c' ct)) nf).guard a1 upd_same a3 (tabNe rN nf)
    exact ⟨.ref f, _, J, rfl, kk f [f] _ _ r1 (nN.trans (Nxt.newO rN nf)) (turnOf upd_same upd_same)⟩
end
end DL

set_option Elab.async false
set_option linter.all false
set_option autoImplicit false
set_option maxRecDepth 100000
set_option maxHeartbeats 4000000
/-! DLm: what a checked term does the machine does. -/
namespace DL
open PySem L2
theorem jf_lc {G : Sg} {con : Nat → Option D} {call : Nat → List Slot → CRes} {n : Nat} {X : Cx} {T : Tb} {g : Fm} {N : List Str} {sc sc' : Scope} {j : Nat} {y : Str} {el it : Expr} {py pos : Pos} {ifs : List Expr} {it' : It'} {ri : Res (List D)} {rt : Fm → Res Bool} {re : Fm → Res D}
    (gd : Gd G con call T n X) (hN : X.N = N) (hs : X.env.scope = sc) (hb : blkC N sc sc' [(y, j)] = true) (hl : isLoc (relS sc' sc) y = true) (hf : (decide (sc'.names.lookup y = some .cell) || decide ((relS sc' sc).names.lookup y = some .local)) = true) (hx : plainX it = true)
    (hi : JI X T it' (.Name y py) it g ri) (ht : ∀ X', Gd G con call T n X' → X'.N = N → X'.env.scope = relS sc' sc → ∀ g1, JIf X' T ifs g1 (rt g1)) (he : ∀ X', Gd G con call T n X' → X'.N = N → X'.env.scope = relS sc' sc → ∀ g1, JE X' T el g1 (re g1)) :
    JF X T (.ListComp el [⟨.Name y py, it, ifs, 0⟩] sc' pos) g (lcR j it'.keep ri rt re) := by
  intro Mo F H σ Q W r tk k
  have ok : BlkOk X.N X.env.scope sc' [(y, j)] := by rw [hN, hs]; exact blkOk_by hb
  have pg : ∀ (s : Shared) (H : Hp) (C : Addr) (cl : List (Str × Addr)) (fp : List Addr), PG (X.blk s H sc' (compEnvC sc' cl C X.env) fp) (.Name y py) (gName j) := fun s H C cl fp => by
    have sB : (X.blk s H sc' (compEnvC sc' cl C X.env) fp).env.scope = relS sc' sc := by rw [← hs]; rfl
    refine pg_name gd.nd (ok.ix (y, j) (by simp)) ?_ ?_
    · show (X.blk s H sc' (compEnvC sc' cl C X.env) fp).env.scope.names.lookup y = some .local ∨ (X.blk s H sc' (compEnvC sc' cl C X.env) fp).env.scope.names.lookup y = some .cell
      rw [sB]; exact of_decide_eq_true hl
    · rw [sB]
      simp only [Bool.or_eq_true, decide_eq_true_eq] at hf
      rcases hf with z | z
      · exact .inl (by show (sc'.names.lookup y == some .cell) = true; rw [z]; rfl)
      · exact .inr z
  exact toE (pe_lc (own := [(y, j)]) gd.calm gd.nd pi_w ok pg pt_ttB pe_teB (fold_plain hx)) (lc_read gd hN hs hi ht he r tk k)
section
variable {G : Sg} {con : Nat → Option D} {call : Nat → List Slot → CRes} {T : Tb} {n : Nat} {N : List Str}
theorem es_len : ∀ {es : Es} {xs : List Expr} {sc : Scope} {g g1 : Fm} {ds : List D}, ckEs G N sc es xs = true → evEs con call es g = .ok ds g1 → ds.length = xs.length
  | .nil, xs, sc, g, g1, ds, h, e => by
    cases xs with
    | nil => simp only [evEs] at e; cases e; rfl
    | cons x xs => simp [ckEs] at h
  | .cons a r, xs, sc, g, g1, ds, h, e => by
    cases xs with
    | nil => simp [ckEs] at h
    | cons x xs =>
      simp only [ckEs, Bool.and_eq_true] at h
      simp only [evEs] at e
      cases e1 : evE con call a g with
      | stuck => rw [e1] at e; cases e
      | exc z g2 => rw [e1] at e; cases e
      | ok d g2 =>
        rw [e1] at e
        simp only [Res.bind] at e
        cases e2 : evEs con call r g2 with
        | stuck => rw [e2] at e; cases e
        | exc z g3 => rw [e2] at e; cases e
        | ok ds' g3 =>
          rw [e2] at e
          cases e
          simp [es_len h.2 e2]
theorem es_plain : ∀ {es : Es} {xs : List Expr} {sc : Scope}, ckEs G N sc es xs = true → plainXs xs = true
  | .nil, xs, sc, h => by
    cases xs with
    | nil => rfl
    | cons x xs => simp [ckEs] at h
  | .cons a r, xs, sc, h => by
    cases xs with
    | nil => simp [ckEs] at h
    | cons x xs =>
      simp only [ckEs, Bool.and_eq_true] at h
      simp only [plainXs, List.all_cons, Bool.and_eq_true]
      exact ⟨h.1.2, es_plain h.2⟩
theorem as_plain : ∀ {as : As} {xs : List Expr} {sc : Scope}, ckAs G N sc as xs = true → plainXs xs = true
  | .nil, xs, sc, h => by
    cases xs with
    | nil => rfl
    | cons x xs => simp [ckAs] at h
  | .val a r, xs, sc, h => by
    cases xs with
    | nil => simp [ckAs] at h
    | cons x xs =>
      simp only [ckAs, Bool.and_eq_true] at h
      simp only [plainXs, List.all_cons, Bool.and_eq_true]
      exact ⟨h.1.2, as_plain h.2⟩
  | .ref i r, xs, sc, h => by
    cases xs with
    | nil => simp [ckAs] at h
    | cons x xs =>
      simp only [ckAs, Bool.and_eq_true] at h
      simp only [plainXs, List.all_cons, Bool.and_eq_true]
      refine ⟨?_, as_plain h.2⟩
      have c := h.1
      unfold ckVar at c
      split at c
      · next y hy => obtain ⟨_, rfl⟩ := vName_eq hy; rfl
      · cases c
theorem as_nil {as : As} {sc : Scope} {g : Fm} (h : ckAs G N sc as [] = true) : evAs con call as g = .ok [] g := by
  cases as <;> simp [ckAs] at h
  simp [evAs]
theorem plain_var {i : Nat} {e : Expr} {sc : Scope} (c : ckVar N sc i e = true) : plainX e = true ∧ plainO e = true := by
  unfold ckVar at c
  split at c
  · next y hy => obtain ⟨_, rfl⟩ := vName_eq hy; exact ⟨rfl, rfl⟩
  · cases c
theorem itx : ∀ (it : It') {e : Expr} {sc : Scope}, ckI G N sc it e = true → plainX e = true
  | .dat a, e, sc, c => by simp only [ckI, Bool.and_eq_true] at c; exact c.2
  | .rng1 a, e, sc, c => by
    simp only [ckI] at c
    split at c
    · next x y hx => obtain ⟨q, p, rfl⟩ := vCall_eq hx; rfl
    · cases c
  | .rng2 a b, e, sc, c => by
    simp only [ckI] at c
    split at c
    · next x y z hx => obtain ⟨q, p, rfl⟩ := vCall_eq hx; rfl
    · cases c
  | .rng3 a b d, e, sc, c => by simp [ckI] at c
  | .enu a, e, sc, c => by
    simp only [ckI] at c
    split at c
    · next x y hx => obtain ⟨q, p, rfl⟩ := vCall_eq hx; rfl
    · cases c
  | .own i, e, sc, c => by simp only [ckI] at c; exact (plain_var c).1
end
section
variable {con : Nat → Option D} {call : Nat → List Slot → CRes} {T : Tb}
mutual
theorem okE : ∀ (t : E) {G : Sg} {n : Nat} {N : List Str} {X : Cx} {sc : Scope} {e : Expr} {g : Fm}, Gd G con call T n X → X.N = N → X.env.scope = sc → ckE G N sc t e = true → JE X T e g (evE con call t g)
  | .var i, G, n, N, X, sc, e, g, gd, hN, hs, c => by simp only [evE]; simp only [ckE] at c; exact je_var hN hs c
  | .cst d, G, n, N, X, sc, e, g, gd, hN, hs, c => by
    simp only [evE]
    simp only [ckE] at c
    split at c
    · next x hx => exact je_cst hx c
    · cases c
  | .glb k, G, n, N, X, sc, e, g, gd, hN, hs, c => by
    simp only [evE]
    simp only [ckE] at c
    split at c
    · next x hx =>
      obtain ⟨p, rfl, hg⟩ := ckGl_eq c
      obtain ⟨g1, g2⟩ := gl_of hs hg
      intro Mo F H σ Q W r tk k'
      obtain ⟨d, hd, k'⟩ := Cont.opt k'
      obtain ⟨v, u, h1, h2, h3⟩ := gd.con k x d hx hd
      exact toE (pe_glob g1 h1 h2 g2) (k' F H Nxt.same r v (h3 F))
    · cases c
  | .fnv k, G, n, N, X, sc, e, g, gd, hN, hs, c => by
    simp only [evE]
    simp only [ckE] at c
    split at c
    · next x hx =>
      obtain ⟨p, rfl, hg⟩ := ckGl_eq c
      obtain ⟨g1, g2⟩ := gl_of hs hg
      obtain ⟨f, fd, ps, hm, _, _, ht, _, _⟩ := gd.fns k x hx
      intro Mo F H σ Q W r tk k'
      exact toE (pe_glob (v := .ref f) g1 hm rfl g2) (k' F H Nxt.same r _ (.fn ht))
    · cases c
  | .bin o a b, G, n, N, X, sc, e, g, gd, hN, hs, c => by
    simp only [evE]
    simp only [ckE] at c
    split at c
    · next l p r hx =>
      obtain ⟨q, rfl⟩ := vBin_eq hx
      simp only [Bool.and_eq_true, decide_eq_true_eq] at c
      obtain ⟨⟨rfl, c1⟩, c2⟩ := c
      exact je_bin (okE a gd hN hs c1) fun g1 => okE b gd hN hs c2
    · cases c
  | .cmp o a b, G, n, N, X, sc, e, g, gd, hN, hs, c => by
    simp only [evE]
    simp only [ckE] at c
    split at c
    · next l p r hx =>
      obtain ⟨q, rfl⟩ := vCmp_eq hx
      simp only [Bool.and_eq_true, decide_eq_true_eq] at c
      obtain ⟨⟨⟨rfl, c1⟩, c2⟩, c3⟩ := c
      exact je_cmp gd.hu c3 (okE a gd hN hs c1) fun g1 => okE b gd hN hs c2
    · cases c
  | .bop k es, G, n, N, X, sc, e, g, gd, hN, hs, c => by
    simp only [evE]
    simp only [ckE] at c
    split at c
    · next o xs hx =>
      obtain ⟨q, rfl⟩ := vBop_eq hx
      simp only [Bool.and_eq_true, decide_eq_true_eq] at c
      obtain ⟨rfl, c1⟩ := c
      exact okB es gd hN hs c1
    · cases c
  | .nt a, G, n, N, X, sc, e, g, gd, hN, hs, c => by
    simp only [evE]
    simp only [ckE] at c
    split at c
    · next x hx =>
      obtain ⟨q, rfl⟩ := vNot_eq hx
      exact je_nt (okE a gd hN hs c)
    · cases c
  | .ife t a b, G, n, N, X, sc, e, g, gd, hN, hs, c => by
    simp only [evE]
    simp only [ckE] at c
    split at c
    · next x y z hx =>
      obtain ⟨q, rfl⟩ := vIf_eq hx
      simp only [Bool.and_eq_true] at c
      obtain ⟨⟨c1, c2⟩, c3⟩ := c
      exact je_ife (okT t gd hN hs c1) (fun g1 => okE a gd hN hs c2) fun g1 => okE b gd hN hs c3
    · cases c
  | .tup es, G, n, N, X, sc, e, g, gd, hN, hs, c => by
    simp only [evE]
    simp only [ckE] at c
    split at c
    · next xs hx =>
      obtain ⟨m, q, rfl⟩ := vTup_eq hx
      simp only [Bool.and_eq_true, decide_eq_true_eq] at c
      exact je_tup (okL es gd hN hs c.1) fun ds g1 e => by rw [es_len c.1 e]; exact c.2
    · cases c
  | .lst es, G, n, N, X, sc, e, g, gd, hN, hs, c => (okF (.lst es) gd hN hs rfl c).je
  | .idx a b, G, n, N, X, sc, e, g, gd, hN, hs, c => by
    simp only [evE]
    simp only [ckE] at c
    split at c
    · next x y hx =>
      obtain ⟨q, rfl⟩ := vSub_eq hx
      simp only [Bool.and_eq_true] at c
      exact je_idx c.2 (okE a gd hN hs c.1.1) fun g1 => okE b gd hN hs c.1.2
    · cases c
  | .slc a lo hi, G, n, N, X, sc, e, g, gd, hN, hs, c => by
    simp only [evE]
    simp only [ckE] at c
    split at c
    · next x y hx =>
      obtain ⟨q, rfl⟩ := vSub_eq hx
      simp only [Bool.and_eq_true] at c
      obtain ⟨c1, c2⟩ := c
      split at c2
      · next l h hy =>
        obtain ⟨q2, rfl⟩ := vSlc_eq hy
        simp only [Bool.and_eq_true] at c2
        exact je_slc (okE a gd hN hs c1) (fun g1 => okP lo gd hN hs c2.1) fun g1 => okP hi gd hN hs c2.2
      · cases c2
    · cases c
  | .call k as, G, n, N, X, sc, e, g, gd, hN, hs, c => by
    simp only [evE]
    simp only [ckE] at c
    split at c
    · next x xs hx =>
      obtain ⟨q, p, rfl⟩ := vCall_eq hx
      simp only [Bool.and_eq_true, decide_eq_true_eq] at c
      obtain ⟨⟨c1, c2⟩, c3⟩ := c
      exact je_call gd hs c2 c1 (as_plain c3) (fun e => by subst e; exact as_nil c3) (okA as gd hN hs c3)
    · cases c
  | .bif b es, G, n, N, X, sc, e, g, gd, hN, hs, c => by
    simp only [evE]
    simp only [ckE] at c
    split at c
    · next x xs hx =>
      obtain ⟨q, p, rfl⟩ := vCall_eq hx
      simp only [Bool.and_eq_true, decide_eq_true_eq] at c
      obtain ⟨⟨⟨rfl, c2⟩, c3⟩, c4⟩ := c
      cases xs with
      | nil => cases c3
      | cons y ys => exact je_bif gd hs c2 (es_plain c4) (okL es gd hN hs c4)
    · cases c
  | .met m a b, G, n, N, X, sc, e, g, gd, hN, hs, c => by
    simp only [evE]
    simp only [ckE] at c
    split at c
    · next o nm y hx =>
      obtain ⟨ap, p, rfl, hl⟩ := vMet_eq hx
      simp only [Bool.and_eq_true, decide_eq_true_eq] at c
      obtain ⟨⟨⟨⟨rfl, c1⟩, c2⟩, c3⟩, c4⟩ := c
      exact je_met c1 c4 hl (okE a gd hN hs c2) fun g1 => okE b gd hN hs c3
    · cases c
  | .isi a ts, G, n, N, X, sc, e, g, gd, hN, hs, c => by
    simp only [evE]
    simp only [ckE] at c
    split at c
    · next x y z hx =>
      obtain ⟨q, p, rfl⟩ := vCall_eq hx
      simp only [Bool.and_eq_true, decide_eq_true_eq] at c
      obtain ⟨⟨⟨⟨⟨rfl, c1⟩, c2⟩, c3⟩, c4⟩, c5⟩ := c
      split at c5
      · next t => exact je_isi1 gd hs c1 c3 c5 (okE a gd hN hs c2)
      · split at c5
        · next cs hcs =>
          obtain ⟨m, p2, rfl⟩ := vTup_eq hcs
          simp only [Bool.and_eq_true, decide_eq_true_eq] at c5
          exact je_isiT gd hs c1 c3 c5.1 c5.2 (okE a gd hN hs c2)
        · cases c5
    · cases c
  | .lc j it t el, G, n, N, X, sc, e, g, gd, hN, hs, c => (okF (.lc j it t el) gd hN hs rfl c).je
  | .brw is a, G, n, N, X, sc, e, g, gd, hN, hs, c => by
    simp only [evE]
    simp only [ckE] at c
    exact je_brw (re := fun h => evE con call a h) fun g1 => okE a gd hN hs c
  | .oix i a, G, n, N, X, sc, e, g, gd, hN, hs, c => by
    simp only [evE]
    simp only [ckE] at c
    split at c
    · next x y hx =>
      obtain ⟨q, rfl⟩ := vSub_eq hx
      simp only [Bool.and_eq_true] at c
      exact je_oix hN hs c.1.1 c.2 (okE a gd hN hs c.1.2)
    · cases c
  | .oslc i lo hi, G, n, N, X, sc, e, g, gd, hN, hs, c => by
    simp only [evE]
    simp only [ckE] at c
    split at c
    · next x y hx =>
      obtain ⟨q, rfl⟩ := vSub_eq hx
      simp only [Bool.and_eq_true] at c
      obtain ⟨c1, c2⟩ := c
      split at c2
      · next l h hy =>
        obtain ⟨q2, rfl⟩ := vSlc_eq hy
        simp only [Bool.and_eq_true] at c2
        exact (jf_oslc hN hs c1 (okP lo gd hN hs c2.1) fun g1 => okP hi gd hN hs c2.2).je
      · cases c2
    · cases c
  | .ocp i, G, n, N, X, sc, e, g, gd, hN, hs, c => (okF (.ocp i) gd hN hs rfl c).je
  | .pop i a, G, n, N, X, sc, e, g, gd, hN, hs, c => by
    simp only [evE]
    simp only [ckE] at c
    split at c
    · next o nm y hx =>
      obtain ⟨ap, p, rfl, hl⟩ := vMet_eq hx
      simp only [Bool.and_eq_true, decide_eq_true_eq] at c
      obtain ⟨⟨⟨rfl, c1⟩, c2⟩, c3⟩ := c
      exact je_pop hN hs c1 (plain_var c1).2 c3 hl (okE a gd hN hs c2)
    · cases c
  | .frz i, G, n, N, X, sc, e, g, gd, hN, hs, c => by
    simp only [evE]
    simp only [ckE] at c
    exact je_frz hN hs c
  | .srt .plain a, G, n, N, X, sc, e, g, gd, hN, hs, c => by
    simp only [evE]
    simp only [ckE] at c
    split at c
    · next x y hx =>
      obtain ⟨q, p, rfl⟩ := vCall_eq hx
      simp only [Bool.and_eq_true, decide_eq_true_eq] at c
      obtain ⟨⟨⟨rfl, c1⟩, c2⟩, c3⟩ := c
      exact je_srtP gd hs c1 c3 (okE a gd hN hs c2)
    · cases c
  | .srt .set a, G, n, N, X, sc, e, g, gd, hN, hs, c => by
    simp only [evE]
    simp only [ckE] at c
    split at c
    · next x z hx =>
      obtain ⟨q, p, rfl⟩ := vCall_eq hx
      simp only [Bool.and_eq_true, decide_eq_true_eq] at c
      obtain ⟨⟨rfl, c1⟩, c⟩ := c
      split at c
      · next x2 y hz =>
        obtain ⟨q2, p2, rfl⟩ := vCall_eq hz
        simp only [Bool.and_eq_true, decide_eq_true_eq] at c
        obtain ⟨⟨⟨rfl, c2⟩, c3⟩, c4⟩ := c
        exact je_srtS gd hs c1 c2 c4 (okE a gd hN hs c3)
      · cases c
    · cases c
  | .srk k a, G, n, N, X, sc, e, g, gd, hN, hs, c => by
    simp only [evE]
    simp only [ckE] at c
    split at c
    · next y v hx =>
      obtain ⟨q, kp, p, rfl⟩ := vKey_eq hx
      simp only [Bool.and_eq_true] at c
      obtain ⟨⟨⟨c1, c2⟩, c3⟩, c⟩ := c
      split at c
      · next x hk => exact je_srk gd hs c1 c3 hk c (okE a gd hN hs c2)
      · cases c
    · cases c
  | .srl b a, G, n, N, X, sc, e, g, gd, hN, hs, c => by
    simp only [evE]
    simp only [ckE] at c
    split at c
    · next y v hx =>
      obtain ⟨q, kp, p, rfl⟩ := vKey_eq hx
      simp only [Bool.and_eq_true] at c
      obtain ⟨⟨⟨⟨c1, c2⟩, c3⟩, c4⟩, c⟩ := c
      split at c
      · next x body sc' hv =>
        obtain ⟨ar, lp, har, rfl⟩ := vLam_eq hv
        simp only [Bool.and_eq_true] at c
        exact je_srl (re := fun h => evE con call b h) gd hs c1 c3 c4 har (scope_by c.1) (fun m X' gd' hN' hs' d => okE b gd' hN' hs' c.2) (okE a gd hN hs c2)
      · cases c
    · cases c
  | .nev, G, n, N, X, sc, e, g, gd, hN, hs, c => by
    intro Mo F H σ Q W r tk k
    simp only [evE] at k
    exact k.elim
theorem okF : ∀ (t : E) {G : Sg} {n : Nat} {N : List Str} {X : Cx} {sc : Scope} {e : Expr} {g : Fm}, Gd G con call T n X → X.N = N → X.env.scope = sc → fresh t = true → ckE G N sc t e = true → JF X T e g (evE con call t g)
  | .lst es, G, n, N, X, sc, e, g, gd, hN, hs, f, c => by
    simp only [evE]
    simp only [ckE] at c
    split at c
    · next xs hx =>
      obtain ⟨q, rfl⟩ := vLst_eq hx
      simp only [Bool.and_eq_true, decide_eq_true_eq] at c
      exact jf_lst (okL es gd hN hs c.1) fun ds g1 e => by rw [es_len c.1 e]; exact c.2
    · cases c
  | .bif .lst es, G, n, N, X, sc, e, g, gd, hN, hs, f, c => by
    simp only [evE]
    simp only [ckE] at c
    split at c
    · next x xs hx =>
      obtain ⟨q, p, rfl⟩ := vCall_eq hx
      simp only [Bool.and_eq_true, decide_eq_true_eq] at c
      obtain ⟨⟨⟨rfl, c2⟩, c3⟩, c4⟩ := c
      cases xs with
      | nil => cases c3
      | cons y ys => exact jf_bifL gd hs c2 (es_plain c4) (okL es gd hN hs c4)
    · cases c
  | .lc j it t el, G, n, N, X, sc, e, g, gd, hN, hs, f, c => by
    simp only [ckE] at c
    split at c
    · next x t' i' ifs sc' hx =>
      obtain ⟨p, rfl⟩ := vLC_eq hx
      split at c
      · next y hy =>
        obtain ⟨py, rfl⟩ := vName_eq hy
        simp only [Bool.and_eq_true] at c
        obtain ⟨⟨⟨⟨⟨⟨c1, c2⟩, c3⟩, c4⟩, c5⟩, c6⟩, c7⟩ := c
        have hh : JF X T (.ListComp x [⟨.Name y py, i', ifs, 0⟩] sc' p) g (lcR j it.keep (evI con call it g) (fun h => evT con call t h) (fun h => evE con call el h)) := by
          refine jf_lc gd hN hs c1 c2 c3 (itx it c4) (okI it gd hN hs (.inl c7) c4) (fun X' gd' hN' hs' g1 => ?_) fun X' gd' hN' hs' g1 => okE el gd' hN' hs' c6
          split at c5
          · rw [isTT_eq c5]; simp only [evT, evE, blD, Res.bind, opt]; exact jif_nil
          · exact jif_one (okT t gd' hN' hs' c5)
          · cases c5
        simp only [evE]
        exact hh
      · cases c
    · cases c
  | .ocp i, G, n, N, X, sc, e, g, gd, hN, hs, f, c => by
    simp only [evE]
    simp only [ckE] at c
    split at c
    · next x y hx =>
      obtain ⟨q, p, rfl⟩ := vCall_eq hx
      simp only [Bool.and_eq_true, decide_eq_true_eq] at c
      obtain ⟨⟨rfl, c1⟩, c2⟩ := c
      exact jf_ocp gd hN hs c1 c2 (plain_var c2).1
    · cases c
  | .var i, G, n, N, X, sc, e, g, gd, hN, hs, f, c => nomatch f
  | .cst d, G, n, N, X, sc, e, g, gd, hN, hs, f, c => nomatch f
  | .glb k, G, n, N, X, sc, e, g, gd, hN, hs, f, c => nomatch f
  | .fnv k, G, n, N, X, sc, e, g, gd, hN, hs, f, c => nomatch f
  | .bin o a b, G, n, N, X, sc, e, g, gd, hN, hs, f, c => nomatch f
  | .cmp o a b, G, n, N, X, sc, e, g, gd, hN, hs, f, c => nomatch f
  | .bop k es, G, n, N, X, sc, e, g, gd, hN, hs, f, c => nomatch f
  | .nt a, G, n, N, X, sc, e, g, gd, hN, hs, f, c => nomatch f
  | .ife t a b, G, n, N, X, sc, e, g, gd, hN, hs, f, c => nomatch f
  | .tup es, G, n, N, X, sc, e, g, gd, hN, hs, f, c => nomatch f
  | .idx a b, G, n, N, X, sc, e, g, gd, hN, hs, f, c => nomatch f
  | .slc a lo hi, G, n, N, X, sc, e, g, gd, hN, hs, f, c => nomatch f
  | .call k as, G, n, N, X, sc, e, g, gd, hN, hs, f, c => nomatch f
  | .met m a b, G, n, N, X, sc, e, g, gd, hN, hs, f, c => nomatch f
  | .isi a ts, G, n, N, X, sc, e, g, gd, hN, hs, f, c => nomatch f
  | .brw is a, G, n, N, X, sc, e, g, gd, hN, hs, f, c => nomatch f
  | .oix i a, G, n, N, X, sc, e, g, gd, hN, hs, f, c => nomatch f
  | .oslc i lo hi, G, n, N, X, sc, e, g, gd, hN, hs, f, c => nomatch f
  | .pop i a, G, n, N, X, sc, e, g, gd, hN, hs, f, c => nomatch f
  | .frz i, G, n, N, X, sc, e, g, gd, hN, hs, f, c => nomatch f
  | .srt s a, G, n, N, X, sc, e, g, gd, hN, hs, f, c => nomatch f
  | .srk k a, G, n, N, X, sc, e, g, gd, hN, hs, f, c => nomatch f
  | .srl b a, G, n, N, X, sc, e, g, gd, hN, hs, f, c => nomatch f
  | .nev, G, n, N, X, sc, e, g, gd, hN, hs, f, c => nomatch f
  | .bif .len es, G, n, N, X, sc, e, g, gd, hN, hs, f, c => nomatch f
  | .bif .abs es, G, n, N, X, sc, e, g, gd, hN, hs, f, c => nomatch f
  | .bif .int es, G, n, N, X, sc, e, g, gd, hN, hs, f, c => nomatch f
  | .bif .str es, G, n, N, X, sc, e, g, gd, hN, hs, f, c => nomatch f
  | .bif .min es, G, n, N, X, sc, e, g, gd, hN, hs, f, c => nomatch f
  | .bif .max es, G, n, N, X, sc, e, g, gd, hN, hs, f, c => nomatch f
  | .bif .tup es, G, n, N, X, sc, e, g, gd, hN, hs, f, c => nomatch f
  | .bif .sum es, G, n, N, X, sc, e, g, gd, hN, hs, f, c => nomatch f
  | .bif .any es, G, n, N, X, sc, e, g, gd, hN, hs, f, c => nomatch f
  | .bif .all es, G, n, N, X, sc, e, g, gd, hN, hs, f, c => nomatch f
theorem okB : ∀ (es : Es) {G : Sg} {n : Nat} {N : List Str} {k : Bool} {X : Cx} {sc : Scope} {xs : List Expr} {p : Pos} {g : Fm}, Gd G con call T n X → X.N = N → X.env.scope = sc → ckEs G N sc es xs = true → JE X T (.BoolOp (if k then .And else .Or) xs p) g (evB con call k es g)
  | .nil, G, n, N, k, X, sc, xs, p, g, gd, hN, hs, c => by
    intro Mo F H σ Q W r tk q
    simp only [evB] at q
    exact q.elim
  | .cons a .nil, G, n, N, k, X, sc, xs, p, g, gd, hN, hs, c => by
    cases xs with
    | nil => simp [ckEs] at c
    | cons x xs =>
      simp only [ckEs, Bool.and_eq_true] at c
      cases xs with
      | nil => simp only [evB]; exact jb_one (okE a gd hN hs c.1.1)
      | cons y ys => simp [ckEs] at c
  | .cons a (.cons b r), G, n, N, k, X, sc, xs, p, g, gd, hN, hs, c => by
    cases xs with
    | nil => simp [ckEs] at c
    | cons x xs =>
      simp only [ckEs, Bool.and_eq_true] at c
      cases xs with
      | nil => simp [ckEs] at c
      | cons y ys =>
        simp only [evB]
        exact jb_cons (okE a gd hN hs c.1.1) fun g1 => okB (.cons b r) gd hN hs c.2
theorem okL : ∀ (es : Es) {G : Sg} {n : Nat} {N : List Str} {X : Cx} {sc : Scope} {xs : List Expr} {g : Fm}, Gd G con call T n X → X.N = N → X.env.scope = sc → ckEs G N sc es xs = true → JL X T xs g (evEs con call es g)
  | .nil, G, n, N, X, sc, xs, g, gd, hN, hs, c => by
    cases xs with
    | nil => simp only [evEs]; exact jl_nil
    | cons x xs => simp [ckEs] at c
  | .cons a r, G, n, N, X, sc, xs, g, gd, hN, hs, c => by
    cases xs with
    | nil => simp [ckEs] at c
    | cons x xs =>
      simp only [ckEs, Bool.and_eq_true] at c
      simp only [evEs]
      exact jl_cons c.1.2 (okE a gd hN hs c.1.1) fun g1 => okL r gd hN hs c.2
theorem okA : ∀ (as : As) {G : Sg} {n : Nat} {N : List Str} {X : Cx} {sc : Scope} {xs : List Expr} {g : Fm}, Gd G con call T n X → X.N = N → X.env.scope = sc → ckAs G N sc as xs = true → JA X T xs g (evAs con call as g)
  | .nil, G, n, N, X, sc, xs, g, gd, hN, hs, c => by
    cases xs with
    | nil => simp only [evAs]; exact ja_nil
    | cons x xs => simp [ckAs] at c
  | .val a r, G, n, N, X, sc, xs, g, gd, hN, hs, c => by
    cases xs with
    | nil => simp [ckAs] at c
    | cons x xs =>
      simp only [ckAs, Bool.and_eq_true] at c
      simp only [evAs]
      exact ja_val c.1.2 (okE a gd hN hs c.1.1) fun g1 => okA r gd hN hs c.2
  | .ref i r, G, n, N, X, sc, xs, g, gd, hN, hs, c => by
    cases xs with
    | nil => simp [ckAs] at c
    | cons x xs =>
      simp only [ckAs, Bool.and_eq_true] at c
      simp only [evAs]
      exact ja_ref (rr := fun g1 => evAs con call r g1) hN hs c.1 fun g1 => okA r gd hN hs c.2
theorem okP : ∀ (o : Po) {G : Sg} {n : Nat} {N : List Str} {X : Cx} {sc : Scope} {e : Option Expr} {g : Fm}, Gd G con call T n X → X.N = N → X.env.scope = sc → ckP G N sc o e = true → JP X T e g (evP con call o g)
  | .no, G, n, N, X, sc, e, g, gd, hN, hs, c => by
    cases e with
    | none => simp only [evP]; exact jp_no
    | some e => simp [ckP] at c
  | .at a, G, n, N, X, sc, e, g, gd, hN, hs, c => by
    cases e with
    | none => simp [ckP] at c
    | some e => simp only [ckP] at c; simp only [evP]; exact jp_at (okE a gd hN hs c)
theorem okT : ∀ (t : Te) {G : Sg} {n : Nat} {N : List Str} {X : Cx} {sc : Scope} {e : Expr} {g : Fm}, Gd G con call T n X → X.N = N → X.env.scope = sc → ckT G N sc t e = true → JT X T e g (evT con call t g)
  | .is a, G, n, N, X, sc, e, g, gd, hN, hs, c => by
    simp only [ckT, Bool.and_eq_true] at c
    simp only [evT]
    exact jt_is c.1 (okE a gd hN hs c.2)
  | .tru a, G, n, N, X, sc, e, g, gd, hN, hs, c => by
    simp only [ckT, Bool.and_eq_true] at c
    simp only [evT]
    exact jt_tru c.1 (okE a gd hN hs c.2)
  | .cmp o a b, G, n, N, X, sc, e, g, gd, hN, hs, c => by
    simp only [evT]
    simp only [ckT] at c
    split at c
    · next l p r hx =>
      obtain ⟨q, rfl⟩ := vCmp_eq hx
      simp only [Bool.and_eq_true, decide_eq_true_eq] at c
      obtain ⟨⟨⟨rfl, c1⟩, c2⟩, c3⟩ := c
      exact jt_cmp gd.hu c3 (okE a gd hN hs c1) fun g1 => okE b gd hN hs c2
    · cases c
  | .nt t, G, n, N, X, sc, e, g, gd, hN, hs, c => by
    simp only [evT]
    simp only [ckT] at c
    split at c
    · next x hx =>
      obtain ⟨q, rfl⟩ := vNot_eq hx
      exact jt_nt (okT t gd hN hs c)
    · cases c
  | .bop k ts, G, n, N, X, sc, e, g, gd, hN, hs, c => by
    simp only [evT]
    simp only [ckT] at c
    split at c
    · next o xs hx =>
      obtain ⟨q, rfl⟩ := vBop_eq hx
      simp only [Bool.and_eq_true, decide_eq_true_eq] at c
      obtain ⟨rfl, c1⟩ := c
      exact jt_pw (okTs ts gd hN hs c1)
    · cases c
  | .brw is t, G, n, N, X, sc, e, g, gd, hN, hs, c => by
    simp only [evT]
    simp only [ckT] at c
    exact jt_brw (re := fun h => evT con call t h) fun g1 => okT t gd hN hs c
theorem okTs : ∀ (ts : Ts) {G : Sg} {n : Nat} {N : List Str} {k : Bool} {X : Cx} {sc : Scope} {xs : List Expr} {p : Pos} {g : Fm}, Gd G con call T n X → X.N = N → X.env.scope = sc → ckTs G N sc ts xs = true → JPW X T (.BoolOp (if k then .And else .Or) xs p) g (evTs con call k ts g)
  | .one t, G, n, N, k, X, sc, xs, p, g, gd, hN, hs, c => by
    match xs, c with
    | [x], c =>
      simp only [ckTs] at c
      simp only [evTs]
      exact jpw_one (okT t gd hN hs c)
    | [], c => simp [ckTs] at c
    | x :: y :: xs, c => simp [ckTs] at c
  | .cons t r, G, n, N, k, X, sc, xs, p, g, gd, hN, hs, c => by
    match xs, c with
    | [x], c => simp [ckTs] at c
    | [], c => simp [ckTs] at c
    | x :: y :: xs, c =>
      simp only [ckTs, Bool.and_eq_true] at c
      simp only [evTs]
      exact jpw_cons (okT t gd hN hs c.1) fun g1 => okTs r gd hN hs c.2
theorem okI : ∀ (it : It') {G : Sg} {n : Nat} {N : List Str} {X : Cx} {sc : Scope} {tg e : Expr} {g : Fm}, Gd G con call T n X → X.N = N → X.env.scope = sc → (noEnu it = true ∨ ∃ ts m tp, tg = .Tuple ts m tp) → ckI G N sc it e = true → JI X T it tg e g (evI con call it g)
  | .dat a, G, n, N, X, sc, tg, e, g, gd, hN, hs, ht, c => by
    simp only [ckI, Bool.and_eq_true] at c
    simp only [evI]
    exact ji_dat (okE a gd hN hs c.1)
  | .rng1 a, G, n, N, X, sc, tg, e, g, gd, hN, hs, ht, c => by
    simp only [evI]
    simp only [ckI] at c
    split at c
    · next x y hx =>
      obtain ⟨q, p, rfl⟩ := vCall_eq hx
      simp only [Bool.and_eq_true, decide_eq_true_eq] at c
      obtain ⟨⟨⟨rfl, c1⟩, c2⟩, c3⟩ := c
      exact ji_rng1 gd hs c1 c3 (okE a gd hN hs c2)
    · cases c
  | .rng2 a b, G, n, N, X, sc, tg, e, g, gd, hN, hs, ht, c => by
    simp only [evI]
    simp only [ckI] at c
    split at c
    · next x y z hx =>
      obtain ⟨q, p, rfl⟩ := vCall_eq hx
      simp only [Bool.and_eq_true, decide_eq_true_eq] at c
      obtain ⟨⟨⟨⟨⟨rfl, c1⟩, c2⟩, c3⟩, c4⟩, c5⟩ := c
      exact ji_rng2 gd hs c1 c3 c5 (okE a gd hN hs c2) fun g1 => okE b gd hN hs c4
    · cases c
  | .rng3 a b d, G, n, N, X, sc, tg, e, g, gd, hN, hs, ht, c => by simp [ckI] at c
  | .enu a, G, n, N, X, sc, tg, e, g, gd, hN, hs, ht, c => by
    simp only [evI]
    simp only [ckI] at c
    split at c
    · next x y hx =>
      obtain ⟨q, p, rfl⟩ := vCall_eq hx
      simp only [Bool.and_eq_true, decide_eq_true_eq] at c
      obtain ⟨⟨⟨rfl, c1⟩, c2⟩, c3⟩ := c
      rcases ht with z | ⟨ts, m, tp, rfl⟩
      · cases z
      · exact ji_enu gd hs c1 c3 (okE a gd hN hs c2)
    · cases c
  | .own i, G, n, N, X, sc, tg, e, g, gd, hN, hs, ht, c => by
    simp only [evI]
    simp only [ckI] at c
    exact ji_own hN hs c
end
theorem okIfs {G : Sg} {n : Nat} {N : List Str} {t : Te} {X : Cx} {sc : Scope} {xs : List Expr} {g : Fm} (gd : Gd G con call T n X) (hN : X.N = N) (hs : X.env.scope = sc) (c : ckIfs G N sc t xs = true) : JIf X T xs g (evT con call t g) := by
  unfold ckIfs at c
  split at c
  · rw [isTT_eq c]; simp only [evT, evE, blD, Res.bind, opt]; exact jif_nil
  · exact jif_one (okT t gd hN hs c)
  · cases c
end
end DL

set_option Elab.async false
set_option linter.all false
set_option autoImplicit false
set_option maxRecDepth 100000
set_option maxHeartbeats 4000000
/-! DLn: what checked statements do the machine does. -/
namespace DL
open PySem L2

/-- the slots that are to stand do so -/
def Fx (br : Nat → Bool) (σ σ' : St) : Prop := ∀ i, br i = true → σ'[i]? = σ[i]?
theorem Fx.same {br : Nat → Bool} {σ : St} : Fx br σ σ := fun _ _ => rfl
theorem Fx.trans {br : Nat → Bool} {σ σ1 σ2 : St} (a : Fx br σ σ1) (b : Fx br σ1 σ2) : Fx br σ σ2 := fun i h => (b i h).trans (a i h)
theorem Fx.set {br : Nat → Bool} {σ : St} {i : Nat} {x : Option V} (h : br i = false) : Fx br σ (σ.set i x) := fun j hj => List.getElem?_set_ne fun e => by subst e; rw [h] at hj; cases hj
theorem Fx.less {br : Nat → Bool} {k : Option Nat} {σ σ' : St} (h : Fx (brK br k) σ σ') : Fx br σ σ' := fun i hi => h i (by unfold brK; rw [hi]; rfl)
theorem Fx.at {br : Nat → Bool} {i : Nat} {σ σ' : St} (h : Fx (brK br (some i)) σ σ') : σ'[i]? = σ[i]? := h i (by unfold brK; simp)
section
variable (K : PySem.W.Frag) (T : Tb) (Mo : List Addr)
def OC (F H : Hp) (σ : St) (W : WX) (br : Nat → Bool) (o : Out) (D : Ends) : Prop :=
  match o with
  | .nx g => ∀ σ' F' H', Fx br σ σ' → Nxt Mo F H F' H' → Rl K T Mo F' H' g σ' → D.nx σ' H'
  | .bk g => ∀ σ' F' H', Fx br σ σ' → Nxt Mo F H F' H' → Rl K T Mo F' H' g σ' → D.bk σ' H'
  | .ct g => ∀ σ' F' H', Fx br σ σ' → Nxt Mo F H F' H' → Rl K T Mo F' H' g σ' → D.ct σ' H'
  | .rt v g => ∀ σ' F' H' u, Fx br σ σ' → Nxt Mo F H F' H' → Rl K T Mo F' H' g σ' → RVis K T Mo F' H' g σ' v u → D.rt u H'
  | .exc x g => ∀ σ' F' H' C d, Fx br σ σ' → Nxt Mo F H F' H' → Rl K T Mo F' H' g σ' → T.cls x.c = some C → XAt K T F' H' d x → W (.ref C) (some d) σ' H'
  | .stuck => False
end
section
variable {K : PySem.W.Frag} {T : Tb} {Mo : List Addr} {F H F1 H1 : Hp} {σ σ1 : St} {W : WX} {br : Nat → Bool} {D : Ends} {α : Type}
theorem OC.step {o : Out} (f : Fx br σ σ1) (n : Nxt Mo F H F1 H1) (c : OC K T Mo F H σ W br o D) : OC K T Mo F1 H1 σ1 W br o D := by
  cases o with
  | nx g => exact fun σ' F' H' f' m => c σ' F' H' (f.trans f') (n.trans m)
  | bk g => exact fun σ' F' H' f' m => c σ' F' H' (f.trans f') (n.trans m)
  | ct g => exact fun σ' F' H' f' m => c σ' F' H' (f.trans f') (n.trans m)
  | rt v g => exact fun σ' F' H' u f' m => c σ' F' H' u (f.trans f') (n.trans m)
  | exc x g => exact fun σ' F' H' C d f' m => c σ' F' H' C d (f.trans f') (n.trans m)
  | stuck => exact c
theorem OC.out {r : Res α} {k : α → Fm → Out} (c : OC K T Mo F H σ W br (r.out k) D) : Cont K T Mo F H σ W r (fun a g F' H' => OC K T Mo F' H' σ W br (k a g) D) := by
  cases r with
  | ok a g => exact fun F' H' n _ => OC.step Fx.same n c
  | exc x g => exact fun F' H' C d n r hC hx => c σ F' H' C d Fx.same n r hC hx
  | stuck => exact c
theorem OC.seq {o : Out} {k : Fm → Out} {P : St → Hp → Prop} (c : OC K T Mo F H σ W br (o.seq k) D)
    (h : ∀ g σ' F' H', o = .nx g → Fx br σ σ' → Nxt Mo F H F' H' → Rl K T Mo F' H' g σ' → OC K T Mo F' H' σ' W br (k g) D → P σ' H') : OC K T Mo F H σ W br o { D with nx := P } := by
  cases o with
  | nx g => exact fun σ' F' H' f n r => h g σ' F' H' rfl f n r (OC.step f n c)
  | bk g => exact c
  | ct g => exact c
  | rt v g => exact c
  | exc x g => exact c
  | stuck => exact c
theorem OC.none {α : Type} {k : α → Fm → Out} (c : OC K T Mo F H σ W br (Res.out (.stuck : Res α) k) D) : False := c
end
section
variable (X : Cx) (T : Tb)
def JEt (t : TE) (g : Fm) (r : Res D) : Prop := ∀ Mo F H σ Q W, Rl X.K T Mo F H g σ → L2.Takes X W → Cont X.K T Mo F H σ W r (fun d _ F' H' => ∀ v, Is X.K T F' v d → Q v H') → t σ H Q
def JFt (t : TE) (g : Fm) (r : Res D) : Prop := ∀ Mo F H σ Q W, Rl X.K T Mo F H g σ → L2.Takes X W →
  Cont X.K T Mo F H σ W r (fun d g' F' H' => ∀ p vs ds, d = .lst ds → F' p = none → p ∉ Mo → (∀ i, ¬ OwnAt g' σ i p) → H' p = some (.lst vs) → IsL X.K T F' vs ds → Q (.ref p) H') → t σ H Q
def JS (br : Nat → Bool) (s : Stmt) (g : Fm) (o : Out) : Prop := ∀ Mo F H σ D W, Rl X.K T Mo F H g σ → L2.Takes X W → OC X.K T Mo F H σ W br o D → wS X s D σ H
def JSs (br : Nat → Bool) (ss : List Stmt) (g : Fm) (o : Out) : Prop := ∀ Mo F H σ D W, Rl X.K T Mo F H g σ → L2.Takes X W → OC X.K T Mo F H σ W br o D → wSs X ss D σ H
/-- within a def's body -/
structure Bd : Prop where
  fn : ∀ x, X.fn x = true
  bk : X.env.blockKind = .function
end
section
variable {X : Cx} {T : Tb} {g : Fm} {br : Nat → Bool}
theorem JFt.je {t : TE} {r : Res D} (h : JFt X T t g r) : JEt X T t g r := by
  intro Mo F H σ Q W r0 tk k
  refine h Mo F H σ Q W r0 tk ?_
  cases r with
  | stuck => exact k
  | exc x g1 => exact k
  | ok d g1 =>
    intro F1 H1 n1 r1 p vs ds e1 hF hM hn hp hv
    subst e1
    obtain ⟨F2, r2, n2, is⟩ := r1.settleNew (o := .lst ds) ⟨vs, hp, hv⟩ rfl hF hM hn
    exact k F2 H1 (n1.trans n2) r2 _ is
theorem js_asg {i : Nat} {s : Stmt} {t : TE} {re : Res D} (hps : PS X s (tAsg t (gName i))) (h : JEt X T t g re) : JS X T br s g (re.out fun x g1 => if br i then .stuck else .nx (g1.set i (.dat x))) := by
  intro Mo F H σ D W r tk c
  refine toS hps ?_
  show t σ H fun x H1 => D.nx (σ.set i (some x)) H1
  refine h Mo F H σ _ W r tk (Cont.imp c.out fun x g1 F1 H1 _ n1 r1 c => fun v hv => ?_)
  split at c
  · exact c.elim
  · next hb => exact c (σ.set i (some v)) F1 H1 (Fx.set (by simpa using hb)) Nxt.same (r1.setD hv)
theorem js_asgO {i : Nat} {s : Stmt} {t : TE} {re : Res D} (hps : PS X s (tAsg t (gName i))) (h : JFt X T t g re) : JS X T br s g (re.out fun x g1 => if br i then .stuck else match x with
    | .lst xs => .nx (g1.set i (.own (.lst xs)))
    | _ => .stuck) := by
  intro Mo F H σ D W r tk c
  refine toS hps ?_
  show t σ H fun x H1 => D.nx (σ.set i (some x)) H1
  refine h Mo F H σ _ W r tk (Cont.imp c.out fun x g1 F1 H1 _ n1 r1 c => fun p vs ds e1 hF hM hn hp hv => ?_)
  subst e1
  split at c
  · exact c.elim
  · next hb => exact c _ F1 H1 (Fx.set (by simpa using hb)) Nxt.same (r1.setO ⟨vs, hp, hv⟩ hF hM fun j _ => hn j)
/-- the ways of a store -/
theorem swaps_lc {x : Str} {px q : Pos} {el : Expr} {gs : List Comprehension} {s : Scope} {line : Nat} {env : Env} (hk : env.blockKind = .function) : swapsWith (.ListComp el gs s q) (some (.Name x px)) line env = pure (lcWay env.scope (.Name x px) (.ListComp el gs s q)) := by
  show (pure (env.blockKind == .function && env.kindOf x == some .local && px.line == q.line && !(s.names.any fun (n, k) => n == x && (k == .local || k == .cell))) : Sem Bool) = _
  unfold lcWay
  rw [hk]
  have e : (env.kindOf x == some NameKind.local) = decide (env.scope.names.lookup x = some .local) := by
    show (env.scope.names.lookup x == some NameKind.local) = _
    cases env.scope.names.lookup x with
    | none => rfl
    | some k => cases k <;> rfl
  rw [e]
  rfl
theorem swaps_no {x : Str} {px : Pos} {v : Expr} {sc : Scope} {line : Nat} (hk : X.env.blockKind = .function) (hs : X.env.scope = sc) (hx : plainX v = true) (hl : lcWay sc (.Name x px) v = false) : swapsWith v (some (.Name x px)) line X.env = pure false := by
  cases v <;> first | rfl | (cases hx; done) | skip
  rw [swaps_lc hk, hs, hl]
theorem loc_of {sc : Scope} {x : Str} (hs : X.env.scope = sc) (h : isLoc sc x = true) : Loc X.env.scope x := by
  subst hs
  exact (of_decide_eq_true h : X.env.scope.names.lookup x = some .local ∨ X.env.scope.names.lookup x = some .cell)
theorem lcw_no {sc : Scope} {t v : Expr} (h : noLC v = true) : lcWay sc t v = false := by
  unfold lcWay
  split
  · cases h
  · rfl
theorem set_ps {N : List Str} {sc : Scope} {i : Nat} {t v : Expr} {p : Pos} (nd : X.N.Nodup) (bd : Bd X) (hN : X.N = N) (hs : X.env.scope = sc) (c : ckTg N sc i t = true) (hx : plainX v = true) (hl : lcWay sc t v = false) : PS X (.Assign [t] v p) (tAsg (wE X v) (gName i)) := by
  unfold ckTg at c
  split at c
  · next x hv =>
    obtain ⟨px, rfl⟩ := vName_eq hv
    simp only [Bool.and_eq_true, decide_eq_true_eq] at c
    refine ps_set nd (by rw [hN]; exact c.1) ?_ pe_w (swaps_no bd.bk hs hx hl) (.inl (bd.fn x))
    exact loc_of hs c.2
  · cases c
theorem gn_ps {N : List Str} {sc : Scope} {i : Nat} {t : Expr} (nd : X.N.Nodup) (bd : Bd X) (hN : X.N = N) (hs : X.env.scope = sc) (c : ckTg N sc i t = true) : PG X t (gName i) := by
  unfold ckTg at c
  split at c
  · next x hv =>
    obtain ⟨px, rfl⟩ := vName_eq hv
    simp only [Bool.and_eq_true, decide_eq_true_eq] at c
    refine pg_name nd (by rw [hN]; exact c.1) ?_ (.inl (bd.fn x))
    exact loc_of hs c.2
  · cases c
def gNames : List Nat → TGs
  | [] => gNil
  | j :: js => gCons (gName j) (gNames js)
theorem pgs_all {N : List Str} {sc : Scope} (nd : X.N.Nodup) (bd : Bd X) (hN : X.N = N) (hs : X.env.scope = sc) : ∀ {js : List Nat} {ts : List Expr}, ckTgs N sc js ts = true → PGs X ts (gNames js) ∧ (assignEach ts X.env).length = js.length ∧ (assignEach ts X.env).findIdx? (·.1) = none
  | [], [], _ => ⟨pgs_nil, rfl, rfl⟩
  | [], _ :: _, c => by simp [ckTgs] at c
  | _ :: _, [], c => by simp [ckTgs] at c
  | j :: js, t :: ts, c => by
    simp only [ckTgs, Bool.and_eq_true] at c
    obtain ⟨i1, i2, i3⟩ := pgs_all nd bd hN hs c.2
    have pg := gn_ps nd bd hN hs c.1
    have c1 := c.1
    unfold ckTg at c1
    split at c1
    · next x hv =>
      obtain ⟨px, rfl⟩ := vName_eq hv
      refine ⟨pgs_cons pg i1 rfl, ?_, ?_⟩
      · show (assignEach ts X.env).length + 1 = _
        rw [i2]; rfl
      · show ((false, assign (.Name x px) X.env) :: assignEach ts X.env).findIdx? (·.1) = none
        rw [List.findIdx?_cons, i3]; rfl
    · cases c1
theorem gnames_ok {K : PySem.W.Frag} {Mo : List Addr} {F H : Hp} {Q : St → Hp → Prop} : ∀ {js : List Nat} {vs : List V} {xs : List D} {σ : St} {g : Fm}, Rl K T Mo F H g σ → IsL K T F vs xs → xs.length = js.length → (∀ j ∈ js, br j = false) → (∀ σ', Rl K T Mo F H (setAll g js xs) σ' → Fx br σ σ' → Q σ' H) → gNames js vs σ H Q
  | [], _, _, σ, g, r, .nil, _, _, q => ⟨rfl, q σ (by simpa only [setAll] using r) Fx.same⟩
  | [], _, _, σ, g, r, .cons _ _, h, _, q => by simp at h
  | j :: js, _, _, σ, g, r, .nil, h, _, q => by simp at h
  | j :: js, _, _, σ, g, r, .cons hv ht, h, hb, q => by
    have bj := hb j List.mem_cons_self
    refine ⟨_, _, rfl, ?_⟩
    show gNames js _ (σ.set j (some _)) H Q
    refine gnames_ok (r.setD hv) ht (by simpa using h) (fun k hk => hb k (List.mem_cons_of_mem _ hk)) fun σ' r' f' => q σ' ?_ ((Fx.set bj).trans f')
    simpa only [setAll] using r'
theorem any_no {js : List Nat} (h : ¬ js.any br = true) : ∀ j ∈ js, br j = false := fun j hj => by
  cases e : br j with
  | false => rfl
  | true => exact absurd (List.any_eq_true.mpr ⟨j, hj, e⟩) h
theorem js_asgT {N : List Str} {sc : Scope} {js : List Nat} {ts : List Expr} {k : Nat} {p tp : Pos} {v : Expr} {re : Res D} (gd : X.calm = true) (nd : X.N.Nodup) (bd : Bd X) (hN : X.N = N) (hs : X.env.scope = sc) (c : ckTgs N sc js ts = true) (hx : plainX v = true) (hf : fewTup ts v = true)
    (h : JE X T v g re) : JS X T br (.Assign [.Tuple ts k tp] v p) g (re.out fun x g1 => if js.any br then .stuck else match x with
      | .tup xs => if xs.length = js.length then .nx (setAll g1 js xs) else .stuck
      | _ => .stuck) := by
  obtain ⟨p1, p2, p3⟩ := pgs_all nd bd hN hs c
  have hw : swappedStores [.Tuple ts k tp] v X.env = pure none := by
    cases v <;> first | rfl | skip
    rename_i vs _ _
    have l3 : 3 < ts.length := of_decide_eq_true hf
    unfold swappedStores
    dsimp only
    rw [if_pos]
    simp only [Bool.or_eq_true, Bool.not_eq_true', beq_eq_false_iff_ne]
    left; left
    simp only [Bool.or_eq_false_iff, beq_eq_false_iff_ne]
    omega
  have hs' : swapsWithSole [.Tuple ts k tp] v p.line X.env = pure false := by
    cases v <;> first | rfl | (cases hx; done)
  intro Mo F H σ D W r tk c
  refine toS (ps_asg pe_w (pg_tup gd p1 p2 p3) hs' hw rfl) ?_
  show wE X v σ H fun x H1 => gTup X.K js.length (gNames js) x σ H1 D.nx
  refine h Mo F H σ _ W r tk (Cont.imp c.out fun x g1 F1 H1 _ n1 r1 c => fun u hu => ?_)
  split at c
  · exact c.elim
  · next hb =>
    split at c
    · next xs =>
      split at c
      · next hl =>
        cases hu with
        | tup h1 l => exact ⟨_, _, rfl, r1.sub.sqT h1, by rw [l.length]; exact hl, gnames_ok r1 l hl (any_no hb) fun σ' r' f' => c σ' F1 H1 f' Nxt.same r'⟩
      · exact c.elim
    · exact c.elim
theorem js_asgC {G : Sg} {con : Nat → Option D} {call : Nat → List Slot → CRes} {n k i : Nat} {N : List Str} {sc : Scope} {x : Str} {es : List Expr} {q p p2 : Pos} {t : Expr} {rs : Res (List Ar)} (gd : Gd G con call T n X) (bd : Bd X) (hN : X.N = N) (hs : X.env.scope = sc) (c : ckTg N sc i t = true) (hg : isGl sc x = true) (hk : G.fns k = some x) (hp : plainXs es = true) (hnil : es = [] → rs = .ok [] g)
    (h : JA X T es g rs) : JS X T br (.Assign [t] (.Call (.Name x q) es [] p) p2) g (rs.out fun ar g1 => (callR call k ar g1).out fun v g2 => if br i then .stuck else match v with
      | .own o => .nx (g2.set i (.own o))
      | _ => .stuck) := by
  intro Mo F H σ D W r tk cc
  refine toS (set_ps gd.nd bd hN hs c rfl (lcw_no rfl)) ?_
  show wE X _ σ H fun x H1 => D.nx (σ.set i (some x)) H1
  have e : OC X.K T Mo F H σ W br ((rs.bind fun ar g1 => callR call k ar g1).out fun v g2 => if br i then .stuck else match v with
      | .own o => .nx (g2.set i (.own o))
      | _ => .stuck) D := by
    cases rs with
    | ok a g1 => exact cc
    | exc x g1 => exact cc
    | stuck => exact cc
  refine call_core gd hs hg hk hp hnil h r tk (Cont.imp e.out fun rv g1 F1 H1 _ n1 r1 c => fun v hv => ?_)
  split at c
  · exact c.elim
  · next hb =>
    cases rv with
    | dat d => exact c.elim
    | own o =>
      obtain ⟨p, rfl, a1, a2, a3, a4⟩ := hv
      exact c _ F1 H1 (Fx.set (by simpa using hb)) Nxt.same (r1.setO a2 a1 a3 fun j _ => a4 j)
theorem js_aug {N : List Str} {sc : Scope} {i : Nat} {t e : Expr} {o : Bo} {p : Pos} {re : Res D} (nd : X.N.Nodup) (bd : Bd X) (hN : X.N = N) (hs : X.env.scope = sc) (c : ckTg N sc i t = true) (ho : o.op = .Add ∨ o.op = .Sub) (h : JE X T e g re) :
    JS X T br (.AugAssign t o.op e p) g (match getD g i with
      | some (.int a) => re.out fun y g1 => if br i then .stuck else match augD o a y with
        | some d => .nx (g1.set i (.dat d))
        | none => .stuck
      | _ => .stuck) := by
  intro Mo F H σ D W r tk k
  cases e0 : getD g i with
  | none => rw [e0] at k; exact k.elim
  | some d =>
    rw [e0] at k
    cases d with
    | int a =>
      obtain ⟨v, hv, his⟩ := r.dat (getD_eq e0)
      cases his
      have k1 := OC.out (r := re) k
      clear k
      unfold ckTg at c
      split at c
      · next x hx =>
        obtain ⟨px, rfl⟩ := vName_eq hx
        simp only [Bool.and_eq_true, decide_eq_true_eq] at c
        have hl : Loc X.env.scope x := loc_of hs c.2
        have hi : X.N[i]? = some x := by rw [hN]; exact c.1
        have core : ∀ {ti : TIp}, PIp X o.op ti → (∀ b H1 Q, (∀ d, augD o a (.int b) = some d → ∃ z, d = .int z ∧ Q (V.int z) H1) → (∃ d, augD o a (.int b) = some d) → ti (.int a) (.int b) H1 Q) → wS X (.AugAssign (.Name x px) o.op e p) D σ H := by
          intro ti hp ht
          refine toS (ps_aug nd hi hl pe_w hp (.inl (bd.fn x))) ⟨_, hv, h Mo F H σ _ W r tk (Cont.imp k1 fun y g1 F1 H1 _ n1 r1 k => fun u hu => ?_)⟩
          split at k
          · exact k.elim
          · next hb =>
            cases e1 : augD o a y with
            | none => rw [e1] at k; exact k.elim
            | some d =>
              rw [e1] at k
              cases hu with
              | int b =>
                refine ht b H1 _ (fun d' hd' => ?_) ⟨d, e1⟩
                rw [e1] at hd'; cases hd'
                cases o <;> simp only [augD] at e1 <;> first | (cases e1; done) | skip
                all_goals
                  cases e1
                  exact ⟨_, rfl, k _ F1 H1 (Fx.set (by simpa using hb)) Nxt.same (r1.setD (.int _))⟩
              | _ => cases o <;> cases e1
        cases o with
        | add => exact core ip_add fun b H1 Q q _ => by obtain ⟨z, e, q⟩ := q _ rfl; cases e; exact ⟨a, b, rfl, rfl, q⟩
        | sub => exact core ip_sub fun b H1 Q q _ => by obtain ⟨z, e, q⟩ := q _ rfl; cases e; exact ⟨a, b, rfl, rfl, q⟩
        | _ => rcases ho with z | z <;> cases z
      · cases c
    | _ => exact k.elim
end
end DL

set_option Elab.async false
set_option linter.all false
set_option autoImplicit false
set_option maxRecDepth 100000
set_option maxHeartbeats 4000000
/-! DLo: what checked statements do the machine does, the rest. -/
namespace DL
open PySem L2
theorem OC.withL {α : Type} {K : PySem.W.Frag} {T : Tb} {Mo : List Addr} {F H : Hp} {σ : St} {W : WX} {br : Nat → Bool} {D : Ends} {g : Fm} {i : Nat} {r : Res α} {k : α → Fm → Out} (rl : Rl K T Mo F H g σ) (c : OC K T Mo F H σ W br ((DL.withL g i r).out k) D) :
    OC K T Mo F H σ W br (r.out k) D ∧ ∃ p, σ[i]? = some (some (.ref p)) ∧ ∃ vs, H p = some (.lst vs) := by
  unfold DL.withL at c
  cases e : getL g i with
  | none => rw [e] at c; exact c.elim
  | some xs =>
    rw [e] at c
    obtain ⟨p, vs, h1, _, h3, _⟩ := rl.ownL e
    exact ⟨c, p, h1, vs, h3⟩
section
variable {X : Cx} {T : Tb} {g : Fm} {br : Nat → Bool}
theorem js_setI {N : List Str} {sc : Scope} {i : Nat} {a b w : Expr} {p p2 : Pos} {rw : Res D} {rk : Fm → Res D} (hN : X.N = N) (hs : X.env.scope = sc) (c : ckVar N sc i a = true) (hb : plainX b = true) (hw : plainX w = true) (hw2 : noLC w = true)
    (h : JE X T w g rw) (hk : ∀ g1, JE X T b g1 (rk g1)) :
    JS X T br (.Assign [.Subscript a b p2] w p) g (rw.out fun x g1 => (withL g1 i (rk g1)).out fun y g2 => match getL g2 i, y with
      | some xs, .int n => match ixN xs.length n with
        | some m => .nx (g2.set i (.own (.lst (xs.set m x))))
        | none => .stuck
      | _, _ => .stuck) := by
  intro Mo F H σ D W r tk k
  have hs' : swapsWithSole [.Subscript a b p2] w p.line X.env = pure false := by
    cases w <;> first | rfl | (cases hw; done) | (cases hw2; done)
  refine toS (ps_asg pe_w (pg_sub pe_w pe_w set_list (fun v => by cases b <;> first | rfl | cases hb)) hs' rfl rfl) ?_
  show wE X w σ H fun v H1 => wE X a σ H1 fun o H2 => wE X b σ H2 fun y H3 => rSetL o y v H3 fun H4 => D.nx σ H4
  refine h Mo F H σ _ W r tk (Cont.imp k.out fun x g1 F1 H1 _ n1 r1 k => fun v hv => ?_)
  obtain ⟨k, q, hq, vs0, hvs0⟩ := OC.withL r1 k
  refine j_var hN hs c hq ?_
  refine hk g1 Mo F1 H1 σ _ W r1 tk (Cont.imp k.out fun y g2 F2 H2 _ n2 r2 k => fun u hu => ?_)
  cases e : getL g2 i with
  | none => rw [e] at k; exact k.elim
  | some xs =>
    rw [e] at k
    obtain ⟨q', vs, e1, e2, e3, e4⟩ := r2.ownL e
    rw [hq] at e1; cases e1
    cases hu with
    | int m =>
      cases e5 : ixN xs.length m with
      | none => simp only [e5] at k; exact k.elim
      | some j =>
        simp only [e5] at k
        refine ⟨_, vs, m, j, rfl, rfl, e3, by rw [e4.length]; exact e5, ?_⟩
        have hh := r2.wr (o' := .lst (xs.set j x)) (u := .lst (vs.set j v)) (getL_eq e) hq ⟨_, upd_same, e4.set j (hv.mono n2.sub)⟩
        exact k σ F2 _ Fx.same (Nxt.wr r2 (getL_eq e) hq) hh
    | _ => exact k.elim
theorem js_app {N : List Str} {sc : Scope} {i : Nat} {a b : Expr} {ap p p2 : Pos} {re : Res D} (bd : Bd X) (hN : X.N = N) (hs : X.env.scope = sc) (c : ckVar N sc i a = true) (hb : plainX b = true) (hl : (ap.endLine == p.line) = true) (h : JE X T b g re) :
    JS X T br (.Expr (.Call (.Attribute a "append" ap) [b] [] p) p2) g ((withL g i re).out fun x g1 => match getL g1 i with
      | some xs => if xs.length < sizeLine then .nx (g1.set i (.own (.lst (xs ++ [x])))) else .stuck
      | none => .stuck) := by
  intro Mo F H σ D W r tk k
  obtain ⟨k, q, hq, vs0, hvs0⟩ := OC.withL r k
  refine toS (ps_expr (pe_bm PySem.F.plainAttrs_list PySem.F.slot_list_append PySem.F.type_list_append mt_append pe_w (pa_cons pe_w pa_nil (star_cons hb)) (base_plain (plain_var c).2) (by rw [star_cons hb]; rfl) hl (star_cons hb) (by rfl)) rfl) ?_
  refine j_var hN hs c hq ⟨.inl ⟨rfl, vs0, SqL.of hvs0⟩, ?_⟩
  refine h Mo F H σ _ W r tk (Cont.imp k.out fun x g1 F1 H1 _ n1 r1 k => fun v hv => ?_)
  cases e : getL g1 i with
  | none => rw [e] at k; exact k.elim
  | some xs =>
    rw [e] at k
    obtain ⟨q', vs, e1, e2, e3, e4⟩ := r1.ownL e
    rw [hq] at e1; cases e1
    simp only at k
    split at k
    · next hlt =>
      refine ⟨_, vs, v, rfl, rfl, e3, by rw [e4.length]; exact hlt, ?_⟩
      have hh := r1.wr (o' := .lst (xs ++ [x])) (u := .lst (vs ++ [v])) (getL_eq e) hq ⟨_, upd_same, e4.append (.cons hv .nil)⟩
      exact k σ F1 _ Fx.same (Nxt.wr r1 (getL_eq e) hq) hh
    · exact k.elim
theorem js_ins {N : List Str} {sc : Scope} {i : Nat} {a b b2 : Expr} {ap p p2 : Pos} {rk : Res D} {re : Fm → Res D} (bd : Bd X) (hN : X.N = N) (hs : X.env.scope = sc) (c : ckVar N sc i a = true) (hb : plainX b = true) (hb2 : plainX b2 = true) (hl : (ap.endLine == p.line) = true) (hk : JE X T b g rk) (h : ∀ g1, JE X T b2 g1 (re g1)) :
    JS X T br (.Expr (.Call (.Attribute a "insert" ap) [b, b2] [] p) p2) g ((withL g i rk).out fun y g1 => (re g1).out fun x g2 => match getL g2 i, y with
      | some xs, .int n => if xs.length < sizeLine ∧ 0 ≤ n ∧ n < 2 ^ 63 then .nx (g2.set i (.own (.lst (xs.take n.toNat ++ [x] ++ xs.drop n.toNat)))) else .stuck
      | _, _ => .stuck) := by
  intro Mo F H σ D W r tk k
  obtain ⟨k, q, hq, vs0, hvs0⟩ := OC.withL r k
  refine toS (ps_expr (pe_bm PySem.F.plainAttrs_list PySem.F.slot_list_insert PySem.F.type_list_insert mt_insert pe_w (pa_cons pe_w (pa_cons pe_w pa_nil (star_cons hb2)) (star_cons hb)) (base_plain (plain_var c).2) (by rw [star_cons hb, star_cons hb2]; rfl) hl (star_cons hb) (by rw [star_cons hb2]; rfl)) rfl) ?_
  refine j_var hN hs c hq ⟨.inl ⟨rfl, vs0, SqL.of hvs0⟩, ?_⟩
  refine hk Mo F H σ _ W r tk (Cont.imp k.out fun y g1 F1 H1 _ n1 r1 k => fun u hu => ?_)
  refine h g1 Mo F1 H1 σ _ W r1 tk (Cont.imp k.out fun x g2 F2 H2 _ n2 r2 k => fun v hv => ?_)
  cases e : getL g2 i with
  | none => rw [e] at k; exact k.elim
  | some xs =>
    rw [e] at k
    obtain ⟨q', vs, e1, e2, e3, e4⟩ := r2.ownL e
    rw [hq] at e1; cases e1
    cases hu with
    | int m =>
      simp only at k
      split at k
      · next hc =>
        refine ⟨_, vs, m, v, rfl, rfl, e3, by rw [e4.length]; exact hc.1, hc.2.1, hc.2.2, ?_⟩
        have hh := r2.wr (o' := .lst (xs.take m.toNat ++ [x] ++ xs.drop m.toNat)) (u := .lst (vs.take m.toNat ++ [v] ++ vs.drop m.toNat)) (getL_eq e) hq ⟨_, upd_same, ((e4.take _).append (.cons hv .nil)).append (e4.drop _)⟩
        exact k σ F2 _ Fx.same (Nxt.wr r2 (getL_eq e) hq) hh
      · exact k.elim
    | _ => exact k.elim
theorem js_drp {e : Expr} {p : Pos} {re : Res D} (hx : plainX e = true) (h2 : noLC e = true) (h : JE X T e g re) : JS X T br (.Expr e p) g (re.out fun _ g1 => .nx g1) := by
  intro Mo F H σ D W r tk k
  refine toS (ps_expr pe_w (swap_plain hx h2)) ?_
  exact h Mo F H σ _ W r tk (Cont.imp k.out fun x g1 F1 H1 _ n1 r1 k => fun v hv => k σ F1 H1 Fx.same Nxt.same r1)
theorem js_ret {e : Expr} {p : Pos} {re : Res D} (h : JE X T e g re) : JS X T br (.Return (some e) p) g (re.out fun x g1 => .rt (.dat x) g1) := by
  intro Mo F H σ D W r tk k
  refine toS (ps_ret pe_w) ?_
  exact h Mo F H σ _ W r tk (Cont.imp k.out fun x g1 F1 H1 _ n1 r1 k => fun v hv => k σ F1 H1 v Fx.same Nxt.same r1 hv)
theorem js_retN {p : Pos} : JS X T br (.Return none p) g (.rt (.dat .non) g) := by
  intro Mo F H σ D W r tk k
  exact toS ps_retN (k σ F H _ Fx.same Nxt.same r .non)
theorem js_retF {e : Expr} {p : Pos} {re : Res D} (h : JF X T e g re) : JS X T br (.Return (some e) p) g (re.out fun x g1 => match x with
    | .lst xs => .rt (.own (.lst xs)) g1
    | _ => .stuck) := by
  intro Mo F H σ D W r tk k
  refine toS (ps_ret pe_w) ?_
  refine h Mo F H σ _ W r tk (Cont.imp k.out fun x g1 F1 H1 _ n1 r1 k => fun p vs ds e1 hF hM hn hp hv => ?_)
  subst e1
  exact k σ F1 H1 (.ref p) Fx.same Nxt.same r1 ⟨p, rfl, hF, ⟨vs, hp, hv⟩, hM, hn⟩
theorem js_retO {N : List Str} {sc : Scope} {i : Nat} {e : Expr} {p : Pos} (hN : X.N = N) (hs : X.env.scope = sc) (c : ckVar N sc i e = true) : JS X T br (.Return (some e) p) g (if br i then .stuck else match getO g i with
    | some o => .rt (.own o) (g.set i .un)
    | none => .stuck) := by
  intro Mo F H σ D W r tk k
  split at k
  · exact k.elim
  · cases eo : getO g i with
    | none => rw [eo] at k; exact k.elim
    | some o =>
      rw [eo] at k
      have hg := getO_eq eo
      obtain ⟨q, e1, e2, e3⟩ := r.own hg
      refine toS (ps_ret pe_w) (j_var hN hs c e1 ?_)
      have me : OwnAt g σ i q := ⟨⟨o, hg⟩, e1⟩
      refine k σ F H (.ref q) Fx.same Nxt.same r.drop ⟨q, rfl, e2, e3, r.out i q me, fun j ⟨⟨o', h1⟩, h2⟩ => ?_⟩
      by_cases e : i = j
      · subst e
        rw [List.getElem?_set_self (List.getElem?_eq_some_iff.mp hg).1] at h1
        cases h1
      · rw [List.getElem?_set_ne e] at h1
        exact e (r.sep i j q me ⟨⟨o', h1⟩, h2⟩)
theorem js_if {t : Expr} {a b : List Stmt} {p : Pos} {rt : Res Bool} {oa ob : Fm → Out} (h : JT X T t g rt) (ha : ∀ g1, JSs X T br a g1 (oa g1)) (hb : ∀ g1, JSs X T br b g1 (ob g1)) : JS X T br (.If t a b p) g (rt.out fun c g1 => if c then oa g1 else ob g1) := by
  intro Mo F H σ D W r tk k
  refine toS (ps_if pt_w pss_w pss_w) ?_
  refine h Mo F H σ _ W r tk (Cont.imp k.out fun c g1 F1 H1 _ n1 r1 k => ?_)
  cases c with
  | true => rw [if_pos rfl]; exact ha g1 Mo F1 H1 σ D W r1 tk k
  | false => rw [if_neg (by decide)]; exact hb g1 Mo F1 H1 σ D W r1 tk k
theorem js_nil : JSs X T br [] g (.nx g) := by
  intro Mo F H σ D W r tk k
  exact toSs pss_nil (k σ F H Fx.same Nxt.same r)
theorem js_cons {s : Stmt} {ss : List Stmt} {o : Out} {os : Fm → Out} (h : JS X T br s g o) (hr : ∀ g1, JSs X T br ss g1 (os g1)) : JSs X T br (s :: ss) g (o.seq os) := by
  intro Mo F H σ D W r tk k
  refine toSs (pss_cons ps_w pss_w) ?_
  exact h Mo F H σ _ W r tk (OC.seq k fun g1 σ1 F1 H1 _ f1 n1 r1 k => hr g1 Mo F1 H1 σ1 D W r1 tk k)
/-! ### loops -/
theorem forD_cons {step : D → Fm → Out} {kp : Option Nat} {x : D} {xs : List D} {g : Fm} {K : PySem.W.Frag} {Mo : List Addr} {F H : Hp} {σ : St} {W : WX} {D : Ends} (k : OC K T Mo F H σ W br (forD step kp (x :: xs) g) D) {D' : Ends} (hr : D'.rt = D.rt) (hb : D'.bk = D.nx)
    (h : ∀ g' σ' F' H', (∀ i, kp = some i → g'[i]? = g[i]?) → Fx (brK br kp) σ σ' → Nxt Mo F H F' H' → Rl K T Mo F' H' g' σ' → OC K T Mo F' H' σ' W br (forD step kp xs g') D → D'.nx σ' H' ∧ D'.ct σ' H') : OC K T Mo F H σ W (brK br kp) (step x g) D' := by
  rw [forD] at k
  cases e : step x g with
  | nx g' =>
    rw [e] at k
    simp only at k
    split at k
    · next c => exact fun σ' F' H' f n r => (h g' σ' F' H' c f n r (OC.step f.less n k)).1
    · exact k.elim
  | ct g' =>
    rw [e] at k
    simp only at k
    split at k
    · next c => exact fun σ' F' H' f n r => (h g' σ' F' H' c f n r (OC.step f.less n k)).2
    · exact k.elim
  | bk g' =>
    rw [e] at k
    intro σ' F' H' f n r
    rw [hb]
    exact k σ' F' H' f.less n r
  | rt v g' =>
    rw [e] at k
    intro σ' F' H' u f n r hv
    rw [hr]
    exact k σ' F' H' u f.less n r hv
  | exc x g' =>
    rw [e] at k
    exact fun σ' F' H' C d f n r hC hx => k σ' F' H' C d f.less n r hC hx
  | stuck => rw [e] at k; exact k.elim
end
end DL

set_option Elab.async false
set_option linter.all false
set_option autoImplicit false
set_option maxRecDepth 100000
set_option maxHeartbeats 4000000
/-! DLp: loops; all checked statements. -/
namespace DL
open PySem L2
section
variable {X : Cx} {T : Tb} {g : Fm} {br : Nat → Bool}
theorem for_core {it : It'} {tg iter : Expr} {body : List Stmt} {p : Pos} {ri : Res (List D)} {step : D → Fm → Out} {G : TG} (calm : X.calm = true) (own : PassesOwn (model X.prog X.w) X.A X.env X.xe) (hx : plainX iter = true) (pg : PG X tg G)
    (hi : JI X T it tg iter g ri) (b0 : Bool)
    (hstep : ∀ Mo F H σ D W x v h, Rl X.K T Mo F H h σ → L2.Takes X W → Is X.K T F v x → OC X.K T Mo F H σ W (brK br it.keep) (step x h) D → G v σ H (fun σ2 H2 => wSs X body D σ2 H2)) :
    JS X T br (.For tg iter body [] p) g (ri.out fun ds g1 => forD step it.keep ds g1) := by
  intro Mo F H σ D W r tk k
  refine toS (ps_for own calm pi_w pg pss_w (fold_plain hx)) ?_
  refine hi Mo F H σ _ W r tk (Cont.imp k.out fun ds g1 F1 H1 _ n1 r1 k => fun J wk hlen hkp => ?_)
  refine ⟨fun i m σ' H' => m = ds.length - i ∧ i ≤ ds.length ∧ ∃ F' g', Rl X.K T Mo F' H' g' σ' ∧ Fx (brK br it.keep) σ σ' ∧ Nxt Mo F1 H1 F' H' ∧ (∀ i, it.keep = some i → g'[i]? = g1[i]?) ∧ OC X.K T Mo F' H' σ' W br (forD step it.keep (ds.drop i) g') D,
    ⟨ds.length, by simp, Nat.zero_le _, F1, g1, r1, Fx.same, Nxt.same, fun _ _ => rfl, by rw [List.drop_zero]; exact k⟩, ?_⟩
  rintro i m σ' H' ⟨rfl, hil, F', g', r', f', n', hk', k'⟩
  have ok' : OkI X.K T it σ F1 ds F' H' := by
    cases it with
    | own i' =>
      have h1 : g'[i']? = some (.own (.lst ds)) := (hk' i' rfl).trans (hkp i' rfl)
      obtain ⟨p, e1, _, e3⟩ := r'.own h1
      have e0 : σ'[i']? = σ[i']? := Fx.at f'
      exact ⟨p, by rw [← e0]; exact e1, e3⟩
    | _ => exact n'.sub
  obtain ⟨w1, w2⟩ := wk i F' H' ok' r'.sub
  by_cases hlt : i < ds.length
  · right
    have hx : ds[i]? = some ds[i] := List.getElem?_eq_getElem hlt
    obtain ⟨go, yl⟩ := w1 _ hx
    refine ⟨go, fun σ5 H5 => i + 1 ≤ ds.length ∧ ∃ F' g', Rl X.K T Mo F' H5 g' σ5 ∧ Fx (brK br it.keep) σ σ5 ∧ Nxt Mo F1 H1 F' H5 ∧ (∀ i, it.keep = some i → g'[i]? = g1[i]?) ∧ OC X.K T Mo F' H5 σ5 W br (forD step it.keep (ds.drop (i + 1)) g') D,
      fun σ5 H5 q => ⟨ds.length - (i + 1), by omega, rfl, q⟩, fun v H2 hy => ?_⟩
    obtain ⟨F2, al, hv⟩ := yl v H2 hy
    obtain ⟨r2, n2⟩ := al.rl r'
    rw [List.drop_eq_getElem_cons hlt] at k'
    refine hstep Mo F2 H2 σ' _ W ds[i] v g' r2 tk hv ?_
    refine forD_cons (OC.step Fx.same n2 k') rfl rfl fun g5 σ5 F5 H5 c5 f5 n5 r5 k5 => ?_
    have z : i + 1 ≤ ds.length ∧ ∃ F' g', Rl X.K T Mo F' H5 g' σ5 ∧ Fx (brK br it.keep) σ σ5 ∧ Nxt Mo F1 H1 F' H5 ∧ (∀ i, it.keep = some i → g'[i]? = g1[i]?) ∧ OC X.K T Mo F' H5 σ5 W br (forD step it.keep (ds.drop (i + 1)) g') D :=
      ⟨hlt, F5, g5, r5, f'.trans f5, (n'.trans n2).trans n5, fun i hi => (c5 i hi).trans (hk' i hi), k5⟩
    exact ⟨z, z⟩
  · left
    have ei : i = ds.length := by omega
    subst ei
    refine ⟨w2 (Nat.le_refl _), ?_⟩
    rw [List.drop_length] at k'
    exact k' σ' F' H' Fx.same Nxt.same r'
theorem js_whl {c : Expr} {body : List Stmt} {p : Pos} {test : Fm → Res Bool} {bd : Fm → Out} {wf : Nat} (own : PassesOwn (model X.prog X.w) X.A X.env X.xe) (ht : ∀ g1, JT X T c g1 (test g1)) (hb : ∀ g1, JSs X T br body g1 (bd g1)) :
    JS X T br (.While c body [] p) g (whlD test bd wf g) := by
  intro Mo F H σ D W r tk k
  refine toS (ps_while own pt_w pss_w) ?_
  refine ⟨fun m σ' H' => ∃ F' g', Rl X.K T Mo F' H' g' σ' ∧ OC X.K T Mo F' H' σ' W br (whlD test bd m g') D, ⟨wf, F, g, r, k⟩, ?_⟩
  rintro m σ' H' ⟨F', g', r', k'⟩
  cases m with
  | zero => exact k'.elim
  | succ m =>
    rw [whlD] at k'
    refine ht g' Mo F' H' σ' _ W r' tk (Cont.imp k'.out fun b g1 F1 H1 _ n1 r1 k1 => ?_)
    cases b with
    | false => rw [if_neg (by decide)]; exact k1 σ' F1 H1 Fx.same Nxt.same r1
    | true =>
      rw [if_pos rfl]
      simp only [if_true] at k1
      refine ⟨fun σ5 H5 => ∃ F' g', Rl X.K T Mo F' H5 g' σ5 ∧ OC X.K T Mo F' H5 σ5 W br (whlD test bd m g') D, fun σ5 H5 q => ⟨m, Nat.lt_succ_self m, q⟩, ?_⟩
      refine hb g1 Mo F1 H1 σ' _ W r1 tk ?_
      cases e : bd g1 with
      | nx g2 => rw [e] at k1; exact fun σ5 F5 H5 f n r => ⟨F5, g2, r, OC.step f n k1⟩
      | ct g2 => rw [e] at k1; exact fun σ5 F5 H5 f n r => ⟨F5, g2, r, OC.step f n k1⟩
      | bk g2 => rw [e] at k1; exact k1
      | rt v g2 => rw [e] at k1; exact k1
      | exc x g2 => rw [e] at k1; exact k1
      | stuck => rw [e] at k1; exact k1.elim
theorem out_if {K : PySem.W.Frag} {Mo : List Addr} {F H : Hp} {σ : St} {W : WX} {D : Ends} {α : Type} {ri : Res α} {b : Bool} {k : α → Fm → Out} (c : OC K T Mo F H σ W br (ri.out fun ds g1 => if b then .stuck else k ds g1) D) : (∃ x g, ri = .exc x g) ∨ b = false ∧ OC K T Mo F H σ W br (ri.out k) D := by
  cases ri with
  | ok a g => cases b with
    | false => exact .inr ⟨rfl, c⟩
    | true => exact c.elim
  | exc x g => exact .inl ⟨x, g, rfl⟩
  | stuck => exact c.elim
end
section
variable {G : Sg} {con : Nat → Option D} {call : Nat → List Slot → CRes} {wf : Nat} {T : Tb} {n : Nat} {N : List Str}
theorem js_fors {X : Cx} {g : Fm} {br : Nat → Bool} {it : It'} {j : Nat} {tg iter : Expr} {body : List Stmt} {p : Pos} {ri : Res (List D)} {bd : Fm → Out} (gd : Gd G con call T n X) (hx : plainX iter = true) (pg : PG X tg (gName j))
    (hi : JI X T it tg iter g ri) (hb : ∀ g1, JSs X T (brK br it.keep) body g1 (bd g1)) :
    JS X T br (.For tg iter body [] p) g (ri.out fun ds g1 => if brK br it.keep j then .stuck else forD (fun x h => bd (h.set j (.dat x))) it.keep ds g1) := by
  have core : ∀ (b : brK br it.keep j = false ∨ ∃ x g, ri = .exc x g), JS X T br (.For tg iter body [] p) g (ri.out fun ds g1 => forD (fun x h => match brK br it.keep j with
    | true => .stuck
    | false => bd (h.set j (.dat x))) it.keep ds g1) := fun b => by
    refine for_core gd.calm gd.own hx pg hi true fun Mo F H σ D W x v h r tk hv c => ?_
    show wSs X body D (σ.set j (some v)) H
    cases e : brK br it.keep j with
    | true => rw [e] at c; exact c.elim
    | false => rw [e] at c; exact hb _ Mo F H _ D W (r.setD hv) tk (OC.step (Fx.set e) Nxt.same c)
  intro Mo F H σ D W r tk k
  rcases out_if k with ⟨x, g', rfl⟩ | ⟨e, k⟩
  · exact core (.inr ⟨x, g', rfl⟩) Mo F H σ D W r tk k
  · exact core (.inl e) Mo F H σ D W r tk (by simp only [e]; exact k)
theorem js_fort {X : Cx} {g : Fm} {br : Nat → Bool} {it : It'} {js : List Nat} {ts : List Expr} {kk : Nat} {iter : Expr} {body : List Stmt} {p tp : Pos} {sc : Scope} {ri : Res (List D)} {bd : Fm → Out} (gd : Gd G con call T n X) (bX : Bd X) (hN : X.N = N) (hs : X.env.scope = sc) (hx : plainX iter = true) (hc : ckTgs N sc js ts = true)
    (hi : JI X T it (.Tuple ts kk tp) iter g ri) (hb : ∀ g1, JSs X T (brK br it.keep) body g1 (bd g1)) :
    JS X T br (.For (.Tuple ts kk tp) iter body [] p) g (ri.out fun ds g1 => if js.any (brK br it.keep) then .stuck else forD (fun x h => match x with
      | .tup xs => if xs.length = js.length then bd (setAll h js xs) else .stuck
      | _ => .stuck) it.keep ds g1) := by
  obtain ⟨p1, p2, p3⟩ := pgs_all gd.nd bX hN hs hc
  have core : JS X T br (.For (.Tuple ts kk tp) iter body [] p) g (ri.out fun ds g1 => forD (fun x h => match js.any (brK br it.keep) with
    | true => .stuck
    | false => match x with
      | .tup xs => if xs.length = js.length then bd (setAll h js xs) else .stuck
      | _ => .stuck) it.keep ds g1) := by
    refine for_core gd.calm gd.own hx (pg_tup gd.calm p1 p2 p3) hi true fun Mo F H σ D W x v h r tk hv c => ?_
    cases e : js.any (brK br it.keep) with
    | true => rw [e] at c; exact c.elim
    | false =>
      rw [e] at c
      cases hv with
      | tup h1 l =>
        simp only at c
        split at c
        · next hl => exact ⟨_, _, rfl, r.sub.sqT h1, by rw [l.length]; exact hl, gnames_ok r l hl (any_no (by rw [e]; decide)) fun σ' r' f' => hb _ Mo F H σ' D W r' tk (OC.step f' Nxt.same c)⟩
        · exact c.elim
      | _ => exact c.elim
  intro Mo F H σ D W r tk k
  rcases out_if k with ⟨x, g', rfl⟩ | ⟨e, k⟩
  · exact core Mo F H σ D W r tk k
  · exact core Mo F H σ D W r tk (by simp only [e]; exact k)
theorem lc_ps {X : Cx} {sc sc' : Scope} {j i : Nat} {y : Str} {el it t : Expr} {py pos p : Pos} {ifs : List Expr} (gd : Gd G con call T n X) (bX : Bd X) (hN : X.N = N) (hs : X.env.scope = sc) (hb : blkC N sc sc' [(y, j)] = true) (hl : isLoc (relS sc' sc) y = true) (hf : (decide (sc'.names.lookup y = some .cell) || decide ((relS sc' sc).names.lookup y = some .local)) = true) (hx : plainX it = true)
    (c : ckTg N sc i t = true) (hw : lcWay sc t (.ListComp el [⟨.Name y py, it, ifs, 0⟩] sc' pos) = true) :
    PS X (.Assign [t] (.ListComp el [⟨.Name y py, it, ifs, 0⟩] sc' pos) p) (tAsg (tLc (wI X (.Name y py) it) (gName j) (ttB X sc' ifs) (teB X sc' el) [j]) (gName i)) := by
  have ok : BlkOk X.N X.env.scope sc' [(y, j)] := by rw [hN, hs]; exact blkOk_by hb
  have pg : ∀ (s : Shared) (H : Hp) (C : Addr) (cl : List (Str × Addr)) (fp : List Addr), PG (X.blk s H sc' (compEnvC sc' cl C X.env) fp) (.Name y py) (gName j) := fun s H C cl fp => by
    have sB : (X.blk s H sc' (compEnvC sc' cl C X.env) fp).env.scope = relS sc' sc := by rw [← hs]; rfl
    refine pg_name gd.nd (ok.ix (y, j) (by simp)) ?_ ?_
    · show (X.blk s H sc' (compEnvC sc' cl C X.env) fp).env.scope.names.lookup y = some .local ∨ (X.blk s H sc' (compEnvC sc' cl C X.env) fp).env.scope.names.lookup y = some .cell
      rw [sB]; exact of_decide_eq_true hl
    · rw [sB]
      simp only [Bool.or_eq_true, decide_eq_true_eq] at hf
      rcases hf with z | z
      · exact .inl (by show (sc'.names.lookup y == some .cell) = true; rw [z]; rfl)
      · exact .inr z
  unfold ckTg at c
  split at c
  · next x hv =>
    obtain ⟨px, rfl⟩ := vName_eq hv
    simp only [Bool.and_eq_true, decide_eq_true_eq] at c
    have hloc : X.env.scope.names.lookup x = some .local := by
      simp only [lcWay, Bool.and_eq_true, decide_eq_true_eq] at hw
      rw [hs]; exact hw.1.1
    exact ps_setLc (own := [(y, j)]) gd.calm gd.nd (by rw [hN]; exact c.1) hloc (by rw [swaps_lc bX.bk, hs, hw]) pi_w ok pg pt_ttB pe_teB (fold_plain hx)
  · cases c
/-- how a value is stored -/
theorem okSet {X : Cx} {sc : Scope} {i : Nat} {e : E} {t v : Expr} {p : Pos} {g : Fm} (gd : Gd G con call T n X) (bX : Bd X) (hN : X.N = N) (hs : X.env.scope = sc) (c1 : ckTg N sc i t = true) (c2 : ckE G N sc e v = true) (c3 : plainX v = true) (c4 : (!lcWay sc t v || isLc e) = true) :
    ∃ te, PS X (.Assign [t] v p) (tAsg te (gName i)) ∧ JEt X T te g (evE con call e g) ∧ (fresh e = true → JFt X T te g (evE con call e g)) := by
  cases hw : lcWay sc t v with
  | false => exact ⟨_, set_ps gd.nd bX hN hs c1 c3 hw, okE e gd hN hs c2, fun f => okF e gd hN hs f c2⟩
  | true =>
    rw [hw] at c4
    cases e <;> simp [isLc] at c4
    rename_i j it te el
    simp only [ckE] at c2
    split at c2
    · next x t' i' ifs sc' hx =>
      obtain ⟨pp, rfl⟩ := vLC_eq hx
      split at c2
      · next y hy =>
        obtain ⟨py, rfl⟩ := vName_eq hy
        simp only [Bool.and_eq_true] at c2
        obtain ⟨⟨⟨⟨⟨⟨d1, d2⟩, d3⟩, d4⟩, d5⟩, d6⟩, d7⟩ := c2
        have hj : JFt X T (tLc (wI X (.Name y py) i') (gName j) (ttB X sc' ifs) (teB X sc' x) [j]) g (evE con call (.lc j it te el) g) := by
          intro Mo F H σ Q W r tk k
          simp only [evE] at k
          exact lc_read (ri := evI con call it g) (rt := fun h => evT con call te h) (re := fun h => evE con call el h) gd hN hs (okI it gd hN hs (.inl d7) d4) (fun X' gd' hN' hs' g1 => okIfs gd' hN' hs' d5) (fun X' gd' hN' hs' g1 => okE el gd' hN' hs' d6) r tk k
        exact ⟨_, lc_ps gd bX hN hs d1 d2 d3 (itx it d4) c1 hw, hj.je, fun _ => hj⟩
      · cases c2
    · cases c2
mutual
theorem okS : ∀ (s : S) {X : Cx} {sc : Scope} {st : Stmt} {br : Nat → Bool} {g : Fm}, Gd G con call T n X → Bd X → X.N = N → X.env.scope = sc → ckS G N sc s st = true → JS X T br st g (evS con call wf s br g)
  | .asg i e, X, sc, st, br, g, gd, bX, hN, hs, c => by
    simp only [evS]
    simp only [ckS] at c
    split at c
    · next t v p hv =>
      have := vAsg_eq hv
      subst this
      simp only [Bool.and_eq_true] at c
      obtain ⟨te, h1, h2, _⟩ := okSet (con := con) (g := g) (p := p) gd bX hN hs c.1.1.1 c.1.1.2 c.1.2 c.2
      exact js_asg h1 h2
    · cases c
  | .asgO i e, X, sc, st, br, g, gd, bX, hN, hs, c => by
    simp only [evS]
    simp only [ckS] at c
    split at c
    · next t v p hv =>
      have := vAsg_eq hv
      subst this
      simp only [Bool.and_eq_true] at c
      obtain ⟨te, h1, _, h3⟩ := okSet (con := con) (g := g) (p := p) gd bX hN hs c.1.1.1.1 c.1.1.1.2 c.1.1.2 c.2
      exact js_asgO h1 (h3 c.1.2)
    · cases c
  | .asgC i k as, X, sc, st, br, g, gd, bX, hN, hs, c => by
    simp only [evS]
    simp only [ckS] at c
    split at c
    · next t v p hv =>
      have := vAsg_eq hv
      subst this
      simp only [Bool.and_eq_true] at c
      obtain ⟨c0, c⟩ := c
      split at c
      · next x xs hx =>
        obtain ⟨q, p', rfl⟩ := vCall_eq hx
        simp only [Bool.and_eq_true, decide_eq_true_eq] at c
        obtain ⟨⟨c1, c2⟩, c3⟩ := c
        exact js_asgC gd bX hN hs c0 c2 c1 (as_plain c3) (fun e => by subst e; exact as_nil c3) (okA as gd hN hs c3)
      · cases c
    · cases c
  | .asgT js e, X, sc, st, br, g, gd, bX, hN, hs, c => by
    simp only [evS]
    simp only [ckS] at c
    split at c
    · next t v p hv =>
      have := vAsg_eq hv
      subst this
      split at c
      · next ts ht =>
        obtain ⟨k, tp, rfl⟩ := vTup_eq ht
        simp only [Bool.and_eq_true] at c
        exact js_asgT gd.calm gd.nd bX hN hs c.1.1.1 c.1.2 c.2 (okE e gd hN hs c.1.1.2)
      · cases c
    · cases c
  | .aug i o e, X, sc, st, br, g, gd, bX, hN, hs, c => by
    simp only [evS]
    simp only [ckS] at c
    split at c
    · next t p v q =>
      simp only [Bool.and_eq_true, Bool.or_eq_true, decide_eq_true_eq] at c
      obtain ⟨⟨⟨c1, rfl⟩, c3⟩, c4⟩ := c
      exact js_aug gd.nd bX hN hs c1 c4 (okE e gd hN hs c3)
    · cases c
  | .setI i k v, X, sc, st, br, g, gd, bX, hN, hs, c => by
    simp only [evS]
    simp only [ckS] at c
    split at c
    · next t w p hv =>
      have := vAsg_eq hv
      subst this
      split at c
      · next x y hx =>
        obtain ⟨q, rfl⟩ := vSub_eq hx
        simp only [Bool.and_eq_true] at c
        obtain ⟨⟨⟨⟨⟨c1, c2⟩, c3⟩, c4⟩, c5⟩, c6⟩ := c
        exact js_setI (rk := fun h => evE con call k h) hN hs c1 c3 c5 c6 (okE v gd hN hs c4) fun g1 => okE k gd hN hs c2
      · cases c
    · cases c
  | .app i e, X, sc, st, br, g, gd, bX, hN, hs, c => by
    simp only [evS]
    simp only [ckS] at c
    split at c
    · next v p hv =>
      have := vExp_eq hv
      subst this
      split at c
      · next o nm y hx =>
        obtain ⟨ap, q, rfl, hl⟩ := vMet_eq hx
        simp only [Bool.and_eq_true, decide_eq_true_eq] at c
        obtain ⟨⟨⟨rfl, c1⟩, c2⟩, c3⟩ := c
        exact js_app bX hN hs c1 c3 hl (okE e gd hN hs c2)
      · cases c
    · cases c
  | .ins i k e, X, sc, st, br, g, gd, bX, hN, hs, c => by
    simp only [evS]
    simp only [ckS] at c
    split at c
    · next v p hv =>
      have := vExp_eq hv
      subst this
      split at c
      · next o nm y z hx =>
        obtain ⟨ap, q, rfl, hl⟩ := vMet_eq hx
        simp only [Bool.and_eq_true, decide_eq_true_eq] at c
        obtain ⟨⟨⟨⟨⟨rfl, c1⟩, c2⟩, c3⟩, c4⟩, c5⟩ := c
        exact js_ins (re := fun h => evE con call e h) bX hN hs c1 c3 c5 hl (okE k gd hN hs c2) fun g1 => okE e gd hN hs c4
      · cases c
    · cases c
  | .drp e, X, sc, st, br, g, gd, bX, hN, hs, c => by
    simp only [evS]
    simp only [ckS] at c
    split at c
    · next v p hv =>
      have := vExp_eq hv
      subst this
      simp only [Bool.and_eq_true] at c
      exact js_drp c.1.2 c.2 (okE e gd hN hs c.1.1)
    · cases c
  | .ret e, X, sc, st, br, g, gd, bX, hN, hs, c => by
    simp only [evS]
    simp only [ckS] at c
    split at c
    · next v p => exact js_ret (okE e gd hN hs c)
    · cases c
  | .retN, X, sc, st, br, g, gd, bX, hN, hs, c => by
    simp only [evS]
    simp only [ckS] at c
    split at c
    · next p => exact js_retN
    · cases c
  | .retO i, X, sc, st, br, g, gd, bX, hN, hs, c => by
    simp only [evS]
    simp only [ckS] at c
    split at c
    · next v p => exact js_retO hN hs c
    · cases c
  | .retF e, X, sc, st, br, g, gd, bX, hN, hs, c => by
    simp only [evS]
    simp only [ckS] at c
    split at c
    · next v p =>
      simp only [Bool.and_eq_true] at c
      exact js_retF (okF e gd hN hs c.2 c.1)
    · cases c
  | .ifs t a b, X, sc, st, br, g, gd, bX, hN, hs, c => by
    simp only [evS]
    simp only [ckS] at c
    split at c
    · next x y z p =>
      simp only [Bool.and_eq_true] at c
      exact js_if (okT t gd hN hs c.1.1) (fun g1 => okSs a gd bX hN hs c.1.2) fun g1 => okSs b gd bX hN hs c.2
    · cases c
  | .fors j it b, X, sc, st, br, g, gd, bX, hN, hs, c => by
    simp only [evS]
    simp only [ckS] at c
    split at c
    · next t i x p =>
      simp only [Bool.and_eq_true] at c
      obtain ⟨⟨⟨c1, c2⟩, c3⟩, c4⟩ := c
      exact js_fors (bd := fun h => evSs con call wf b (brK br it.keep) h) gd (itx it c2) (gn_ps gd.nd bX hN hs c1) (okI it gd hN hs (.inl c3) c2) fun g1 => okSs b gd bX hN hs c4
    · cases c
  | .fort js it b, X, sc, st, br, g, gd, bX, hN, hs, c => by
    simp only [evS]
    simp only [ckS] at c
    split at c
    · next t i x p =>
      simp only [Bool.and_eq_true] at c
      obtain ⟨⟨c1, c2⟩, c4⟩ := c
      split at c1
      · next ts ht =>
        obtain ⟨k, tp, rfl⟩ := vTup_eq ht
        exact js_fort (bd := fun h => evSs con call wf b (brK br it.keep) h) gd bX hN hs (itx it c2) c1 (okI it gd hN hs (.inr ⟨_, _, _, rfl⟩) c2) fun g1 => okSs b gd bX hN hs c4
      · cases c1
    · cases c
  | .whl t b, X, sc, st, br, g, gd, bX, hN, hs, c => by
    simp only [evS]
    simp only [ckS] at c
    split at c
    · next x y p =>
      simp only [Bool.and_eq_true] at c
      exact js_whl gd.own (fun g1 => okT t gd hN hs c.1) fun g1 => okSs b gd bX hN hs c.2
    · cases c
  | .brk, X, sc, st, br, g, gd, bX, hN, hs, c => by
    simp only [evS]
    simp only [ckS] at c
    split at c
    · intro Mo F H σ D W r tk k; exact toS ps_break (k σ F H Fx.same Nxt.same r)
    · cases c
  | .cnt, X, sc, st, br, g, gd, bX, hN, hs, c => by
    simp only [evS]
    simp only [ckS] at c
    split at c
    · intro Mo F H σ D W r tk k; exact toS ps_continue (k σ F H Fx.same Nxt.same r)
    · cases c
  | .pas, X, sc, st, br, g, gd, bX, hN, hs, c => by
    simp only [evS]
    simp only [ckS] at c
    split at c
    · intro Mo F H σ D W r tk k; exact toS ps_pass (k σ F H Fx.same Nxt.same r)
    · cases c
  | .nev, X, sc, st, br, g, gd, bX, hN, hs, c => by
    intro Mo F H σ D W r tk k
    simp only [evS] at k
    exact k.elim
theorem okSs : ∀ (ss : Ss) {X : Cx} {sc : Scope} {sts : List Stmt} {br : Nat → Bool} {g : Fm}, Gd G con call T n X → Bd X → X.N = N → X.env.scope = sc → ckSs G N sc ss sts = true → JSs X T br sts g (evSs con call wf ss br g)
  | .nil, X, sc, sts, br, g, gd, bX, hN, hs, c => by
    cases sts with
    | nil => simp only [evSs]; exact js_nil
    | cons x xs => simp [ckSs] at c
  | .cons s r, X, sc, sts, br, g, gd, bX, hN, hs, c => by
    cases sts with
    | nil => simp [ckSs] at c
    | cons x xs =>
      simp only [ckSs, Bool.and_eq_true] at c
      simp only [evSs]
      exact js_cons (okS s gd bX hN hs c.1) fun g1 => okSs r gd bX hN hs c.2
end
end
end DL

set_option Elab.async false
set_option linter.all false
set_option autoImplicit false
set_option maxRecDepth 100000
set_option maxHeartbeats 4000000
/-! DLq: defs. -/
namespace DL
open PySem L2
section
variable {K : PySem.W.Frag} {T : Tb} {Mo : List Addr} {F H : Hp} {g : Fm} {σ : St}
/-- more slots, of which nothing is known -/
theorem Rl.pad (r : Rl K T Mo F H g σ) (n : Nat) : Rl K T Mo F H (g ++ List.replicate n .un) (σ ++ List.replicate n none) := by
  have hl := r.len
  have low : ∀ {i : Nat} {s : Slot}, (g ++ List.replicate n Slot.un)[i]? = some s → s ≠ .un → g[i]? = some s ∧ (σ ++ List.replicate n (none : Option V))[i]? = σ[i]? := fun {i s} h hs => by
    by_cases lt : i < g.length
    · rw [List.getElem?_append_left lt] at h
      exact ⟨h, List.getElem?_append_left (by rw [← hl]; exact lt)⟩
    · rw [List.getElem?_append_right (Nat.le_of_not_lt lt)] at h
      obtain ⟨h1, h2⟩ := List.getElem?_eq_some_iff.mp h
      rw [List.getElem_replicate] at h2
      exact absurd h2.symm hs
  have back : ∀ c q, OwnAt (g ++ List.replicate n .un) (σ ++ List.replicate n none) c q → OwnAt g σ c q := fun c q ⟨⟨o, h1⟩, h2⟩ => by
    obtain ⟨a, b⟩ := low h1 (fun z => nomatch z)
    exact ⟨⟨o, a⟩, by rw [← b]; exact h2⟩
  refine ⟨r.sub, r.mo, by simp [hl], fun i s h => ?_, fun a b q ha hb => r.sep a b q (back a q ha) (back b q hb), fun c q hc => r.out c q (back c q hc), r.tab⟩
  cases s with
  | un => trivial
  | dat d => obtain ⟨a, b⟩ := low h (fun z => nomatch z); rw [b]; exact r.sl i _ a
  | own o => obtain ⟨a, b⟩ := low h (fun z => nomatch z); rw [b]; exact r.sl i _ a
theorem back_at : ∀ {br : List Bool} {g : Fm} {i : Nat} {s : Slot}, (back br g)[i]? = some s → s ≠ .un → br.getD i false = true ∧ g[i]? = some s
  | [], g, i, s, h, _ => by simp [back] at h
  | b :: br, [], 0, s, h, hs => by simp only [back] at h; simp at h; exact absurd h.symm hs
  | b :: br, [], i + 1, s, h, hs => by
    simp only [back] at h
    obtain ⟨_, z⟩ := back_at (br := br) (g := []) (i := i) (by simpa using h) hs
    simp at z
  | true :: br, x :: g, 0, s, h, _ => by simp only [back] at h; simp at h; subst h; exact ⟨rfl, rfl⟩
  | true :: br, x :: g, i + 1, s, h, hs => by
    simp only [back] at h
    simpa using back_at (br := br) (g := g) (i := i) (by simpa using h) hs
  | false :: br, x :: g, 0, s, h, hs => by simp only [back] at h; simp at h; exact absurd h.symm hs
  | false :: br, x :: g, i + 1, s, h, hs => by
    simp only [back] at h
    simpa using back_at (br := br) (g := g) (i := i) (by simpa using h) hs
theorem back_len : ∀ {br : List Bool} {g : Fm}, (back br g).length = br.length
  | [], g => rfl
  | b :: br, [] => by simp only [back, List.length_cons]; rw [back_len]
  | true :: br, x :: g => by simp only [back, List.length_cons]; rw [back_len]
  | false :: br, x :: g => by simp only [back, List.length_cons]; rw [back_len]
theorem own_back {br : List Bool} {vs : List V} {rest : St} (f : Fx (fun i => br.getD i false) (vs.map some ++ rest) σ) {i : Nat} {p : Addr} (h : OwnAt (back br g) (vs.map some) i p) : OwnAt g σ i p := by
  obtain ⟨⟨o, h1⟩, h2⟩ := h
  obtain ⟨b, h3⟩ := back_at h1 (fun z => nomatch z)
  refine ⟨⟨o, h3⟩, ?_⟩
  rw [f i b, List.getElem?_append_left (List.getElem?_eq_some_iff.mp h2).1]
  exact h2
/-- what the caller gets back -/
theorem Rl.back {br : List Bool} {vs : List V} {rest : St} (r : Rl K T Mo F H g σ) (f : Fx (fun i => br.getD i false) (vs.map some ++ rest) σ) (hb : br.length = vs.length) : Rl K T Mo F H (DL.back br g) (vs.map some) := by
  refine ⟨r.sub, r.mo, by rw [back_len, List.length_map]; exact hb, fun i s h => ?_, fun a b q ha hb => r.sep a b q (own_back f ha) (own_back f hb), fun c q hc => r.out c q (own_back f hc), r.tab⟩
  have go : s ≠ .un → SlR K T F H s (vs.map some)[i]? := fun hs => by
    obtain ⟨b, h1⟩ := back_at h hs
    have lt : i < br.length := by
      rw [← back_len]
      exact (List.getElem?_eq_some_iff.mp h).1
    have z := r.sl i s h1
    rw [f i b, List.getElem?_append_left (by rw [List.length_map]; omega)] at z
    exact z
  cases s with
  | un => trivial
  | dat d => exact go (fun z => nomatch z)
  | own o => exact go (fun z => nomatch z)
end
/-- a def of the text -/
structure DI where
  x : Str
  st : Stmt
  ps : List Str
  N : List Str
  fd : Fd
  /-- it holds lambdas -/
  lam : Bool := false
def ckD (G : Sg) (d : DI) : Bool :=
  ckScope d.N d.ps (defScope d.st) && decide (d.fd.np = d.ps.length) && decide (d.fd.nl = d.N.length - d.ps.length) && decide (d.ps.length ≤ d.N.length) && ckSs { G with lam := d.lam } d.N (defScope d.st) d.fd.body (defBody d.st)
/-- the full name of its lambdas -/
def lamName (x : Str) : Str := x ++ ".<locals>." ++ "<lambda>"
/-- a def as the top has made it -/
structure DOk (K : PySem.W.Frag) (mg : Str → Option Value) (base : Heap) (T : Tb) (k : Nat) (d : DI) : Prop where
  ex : ∃ (f : Addr) (oc : Value) (od an : Option Addr) (osl : Array (Option Value)) (kV doc pm cdv ct : Value), T.fn k = some f ∧ mg d.x = some (.ref f) ∧
    K.lookup f = some ⟨oc, od, .func (PySem.W.fnOf d.x d.x (defArgs d.st) (defBody d.st) (defScope d.st) .none kV doc pm an cdv ct), osl⟩ ∧ PySem.W.codeIn K cdv d.x = true ∧ PySem.W.keepIn K (.ref f) = true ∧
    (∀ us : List Value, us.length = d.ps.length → bindArgs (PySem.W.fnOf d.x d.x (defArgs d.st) (defBody d.st) (defScope d.st) .none kV doc pm an cdv ct) ⟨us, []⟩ = pure (d.ps.zip us)) ∧
    (d.lam = true → ∃ c P, cdv = .ref c ∧ LamX.TabB base mg c P ∧ (P, lamName d.x) ∈ T.tabs ∧ ∀ p ∈ T.tabs, p.1 = P → p.2 = lamName d.x)
section
variable {P : Program} {w : World} {K : PySem.W.Frag} {mg : Str → Option Value} {base : Heap} {T : Tb}
/-- what is asked of the names of the top -/
structure Top (K : PySem.W.Frag) (mg : Str → Option Value) (base : Heap) (T : Tb) (G : Sg) (con : Nat → Option D) (ds : Nat → Option DI) : Prop where
  con : ∀ (k : Nat) (x : Str) (d : D), G.cons[k]? = some x → con k = some d → ∃ v u, mg x = some u ∧ RelV v u ∧ ∀ F, Is K T F v d
  bi : ∀ b : Bf, mg b.name = none
  ty : ∀ t : Ty, mg t.key = none
  lib : mg "range" = none ∧ mg "enumerate" = none ∧ mg "isinstance" = none ∧ mg "sorted" = none ∧ mg "set" = none
  fns : ∀ k, G.fns k = (ds k).map (·.x)
  ok : ∀ (k : Nat) (d : DI), ds k = some d → DOk K mg base T k d ∧ ckD G d = true
theorem fits_len : ∀ {bs : List Bool} {ss : List Slot}, fits bs ss = true → ss.length = bs.length
  | [], [], _ => rfl
  | [], _ :: _, h => by simp [fits] at h
  | true :: bs, [], h => by simp [fits] at h
  | false :: bs, [], h => by simp [fits] at h
  | true :: bs, .own _ :: ss, h => by simp only [fits] at h; simp [fits_len h]
  | true :: bs, .dat _ :: ss, h => by simp [fits] at h
  | true :: bs, .un :: ss, h => by simp [fits] at h
  | false :: bs, .dat _ :: ss, h => by simp only [fits] at h; simp [fits_len h]
  | false :: bs, .own _ :: ss, h => by simp [fits] at h
  | false :: bs, .un :: ss, h => by simp [fits] at h
def fdOf (ds : Nat → Option DI) (k : Nat) : Option Fd := (ds k).map (·.fd)
theorem fn_ok {G : Sg} {con : Nat → Option D} {wf : Nat} {ds : Nat → Option DI} (A : Top K mg base T G con ds) : ∀ (n k : Nat) (d : DI), ds k = some d →
    ∃ f fdt, mg d.x = some (.ref f) ∧ PySem.W.keepIn K (.ref f) = true ∧ L2.Binds K fdt d.ps [] ∧ (∃ oc od osl, K.lookup f = some ⟨oc, od, .func fdt, osl⟩) ∧ T.fn k = some f ∧ FnOk P w K mg base (L2.CX P w) (7 * n) f fdt d.ps (spOf K T (runF con wf (fdOf ds) n k)) := by
  intro n
  induction n with
  | zero =>
    intro k d hd
    obtain ⟨f, oc, od, an, osl, kV, doc, pm, cdv, ct, h1, h2, h3, h4, h5, h6, h7⟩ := (A.ok k d hd).1
    refine ⟨f, _, h2, h5, .all h6, ⟨_, _, _, h3⟩, h1, ⟨fun vs H Q E h => ?_, fun A outer s H args us vs Q E hr he hb hv hs => ?_⟩⟩
    · obtain ⟨Mo, F, ss, _, c⟩ := h; exact c.elim
    · obtain ⟨Mo, F, ss, _, c⟩ := hs; exact c.elim
  | succ n ih =>
    intro k d hd
    obtain ⟨f, oc, od, an, osl, kV, doc, pm, cdv, ct, h1, h2, h3, h4, h5, h6, h7⟩ := (A.ok k d hd).1
    have ck := (A.ok k d hd).2
    simp only [ckD, Bool.and_eq_true, decide_eq_true_eq] at ck
    obtain ⟨⟨⟨⟨c1, c2⟩, c3⟩, c4⟩, c5⟩ := ck
    have S := scope_by c1
    -- a call's run
    have run : ∀ {ss : List Slot} {vs : List V} {Mo : List Addr} {F H : Hp} {Q : VK} {E : XK}, CCont K T Mo F H vs (runF con wf (fdOf ds) (n + 1) k ss) Q E → ss.length = vs.length →
        vs.length = d.ps.length ∧ d.fd.br.length = d.fd.np ∧ CCont K T Mo F H vs (match evSs con (runF con wf (fdOf ds) n) wf d.fd.body d.fd.isBr (ss ++ List.replicate d.fd.nl .un) with
          | .nx g => .ok (.dat .non) (DL.back d.fd.br g)
          | .rt v g => .ok v (DL.back d.fd.br g)
          | .exc x g => .exc x (DL.back d.fd.br g)
          | _ => .stuck) Q E := by
      intro ss vs Mo F H Q E c hl
      have hfd : fdOf ds k = some d.fd := by unfold fdOf; rw [hd]; rfl
      simp only [runF, hfd] at c
      split at c
      · next cc => exact ⟨by rw [← hl, fits_len cc.2, cc.1, c2], cc.1, c⟩
      · exact c.elim
    refine ⟨f, _, h2, h5, .all h6, ⟨_, _, _, h3⟩, h1, fn_of (k := 7 * n + 6) h3 h4 S (fun vs H Q E h => ?_) fun Ar outer s H vs Q E hr h => ?_⟩
    · obtain ⟨Mo, F, ss, r, c⟩ := h
      exact (run c (by have := r.len; rwa [List.length_map] at this)).1
    · obtain ⟨Mo, F, ss, r, c⟩ := h
      have hl : ss.length = vs.length := by have := r.len; rwa [List.length_map] at this
      obtain ⟨e1, e2, c⟩ := run c hl
      refine ⟨_, pss_w, ?_⟩
      -- the context
      have gd : Gd { G with lam := d.lam } con (runF con wf (fdOf ds) n) T (7 * n + 6) (cxOf (L2.CX P w) P w K mg base d.N d.x (defScope d.st) f cdv Ar outer s H E) := by
        refine ⟨S.nd, rfl, hr, passes_of rfl, A.con, fun k' x hx => ?_, A.bi, A.ty, A.lib, fun hl => ?_⟩
        · have hx : G.fns k' = some x := hx
          rw [A.fns] at hx
          cases e : ds k' with
          | none => rw [e] at hx; cases hx
          | some d' =>
            rw [e] at hx
            cases hx
            obtain ⟨f', fdt', q1, q2, q3, _, q4, q5⟩ := ih k' d' e
            exact ⟨f', fdt', d'.ps, q1, q2, q3, q4, by omega, q5⟩
        · obtain ⟨c0, P0, z1, z2, z3, z4⟩ := h7 hl
          exact ⟨by omega, c0, P0, z1, z2, z3, z4⟩
      have bX : Bd (cxOf (L2.CX P w) P w K mg base d.N d.x (defScope d.st) f cdv Ar outer s H E) := ⟨fun _ => rfl, by
        show (if (defScope d.st).kind.isAnnotationScope then ScopeKind.function else (defScope d.st).kind) = .function
        rw [S.kind]; rfl⟩
      have tk : L2.Takes (cxOf (L2.CX P w) P w K mg base d.N d.x (defScope d.st) f cdv Ar outer s H E) (fun cls dd _ H => E cls dd H) := takes_of rfl rfl rfl rfl
      have r0 : Rl K T Mo F H (ss ++ List.replicate d.fd.nl .un) (L2.start d.N vs) := by
        have := r.pad d.fd.nl
        unfold L2.start
        rw [e1, ← c3]
        exact this
      refine okSs (con := con) (wf := wf) (br := d.fd.isBr) d.fd.body gd bX rfl rfl c5 Mo F H _ _ _ r0 tk ?_
      have hbr : d.fd.br.length = vs.length := by rw [e2, c2, e1]
      have hgl : ∀ {g : Fm} {σ' : St} {F' H' : Hp}, Rl K T Mo F' H' g σ' → Fx d.fd.isBr (L2.start d.N vs) σ' → Rl K T Mo F' H' (DL.back d.fd.br g) (vs.map some) := fun {g σ' F' H'} r' f' => r'.back f' hbr
      show OC K T Mo F H (L2.start d.N vs) _ d.fd.isBr (evSs con (runF con wf (fdOf ds) n) wf d.fd.body d.fd.isBr (ss ++ List.replicate d.fd.nl .un)) _
      cases e : evSs con (runF con wf (fdOf ds) n) wf d.fd.body d.fd.isBr (ss ++ List.replicate d.fd.nl .un) with
      | nx g =>
        rw [e] at c
        exact fun σ' F' H' f' n' r' => c F' H' .non n' (hgl r' f') .non
      | rt v g =>
        rw [e] at c
        intro σ' F' H' u f' n' r' hv
        refine c F' H' u n' (hgl r' f') ?_
        cases v with
        | dat x => exact hv
        | own o =>
          obtain ⟨p, a1, a2, a3, a4, a5⟩ := hv
          exact ⟨p, a1, a2, a3, a4, fun i hi => a5 i (own_back f' hi)⟩
      | exc x g =>
        rw [e] at c
        exact fun σ' F' H' C dd f' n' r' hC hx => c F' H' C dd n' (hgl r' f') hC hx
      | bk g => rw [e] at c; exact c.elim
      | ct g => rw [e] at c; exact c.elim
      | stuck => rw [e] at c; exact c.elim
/-! ### the law -/
/-- a list of at most n whole numbers is handed in, True comes out; the tables are empty -/
def spLaw (K : PySem.W.Frag) (T : Tb) (m : Nat) : Sp := fun vs H Q _ => ∃ (a : Addr) (ns : List Int), vs = [.ref a] ∧ SqL K H a (ns.map V.int) ∧ ns.length ≤ m ∧ (∀ p ∈ T.tabs, H p.1 = some (.tbl #[])) ∧ ∀ H', Q (.bl true) H'
open Classical in
theorem law_fn {G : Sg} {con : Nat → Option D} {wf : Nat} {ds : Nat → Option DI} (A : Top K mg base T G con ds) (n k m : Nat) (d : DI) (hd : ds k = some d)
    (math : ∀ ns : List Int, ns.length ≤ m → ∃ ss, runF con wf (fdOf ds) n k [.dat (.scr ns)] = .ok (.dat (.bl true)) ss) :
    ∃ f fdt, mg d.x = some (.ref f) ∧ (∃ oc od osl, K.lookup f = some ⟨oc, od, .func fdt, osl⟩) ∧ FnOk P w K mg base (L2.CX P w) (7 * n) f fdt d.ps (spLaw K T m) := by
  obtain ⟨f, fdt, h1, _, h3, hL, _, h5⟩ := fn_ok (P := P) (w := w) (wf := wf) A n k d hd
  refine ⟨f, fdt, h1, hL, h5.imp fun vs H Q E ⟨a, ns, e1, e2, e3, e4, q⟩ => ?_⟩
  subst e1
  obtain ⟨ss, hrun⟩ := math ns e3
  -- all but the tables is settled
  let F : Hp := fun b => if ∃ p ∈ T.tabs, p.1 = b then none else H b
  have sub : Sub F H := fun b o e => by
    show H b = some o
    simp only [F] at e
    split at e
    · cases e
    · exact e
  have nT : ∀ {b : Addr} {o : HO}, H b = some o → o ≠ .tbl #[] → F b = some o := fun {b o} e ne => by
    simp only [F]
    rw [if_neg fun ⟨p, hp, z⟩ => ne (by rw [← z, e4 p hp] at e; exact (Option.some.inj e).symm)]
    exact e
  have hS : SqL K F a (ns.map V.int) := by
    rcases e2 with (z | ⟨o, z⟩) | z
    · exact .inl (.inl (nT z (fun e => nomatch e)))
    · exact .inl (.inr ⟨o, nT z (fun e => nomatch e)⟩)
    · exact .inr z
  refine ⟨[], F, [.dat (.scr ns)], ⟨sub, fun b hb => absurd hb (by simp), rfl, fun i s hs => ?_, fun i j p ⟨⟨o, h⟩, _⟩ _ => ?_, fun i p _ hm => absurd hm (by simp), fun p hp => ⟨by simp, ?_, #[], e4 p hp, True.intro, fun pos cv hc => ?_⟩⟩, ?_⟩
  · cases i with
    | zero => simp at hs; subst hs; exact ⟨_, rfl, .scr hS⟩
    | succ i => simp at hs
  · cases i with
    | zero => simp at h
    | succ i => simp at h
  · simp only [F]
    rw [if_pos ⟨p, hp, rfl⟩]
  · have z : codeAmong pos [] = some cv := hc
    simp [codeAmong] at z
  · rw [hrun]
    intro F' H' v n' r' hv
    cases hv
    exact q H'
end
end DL

set_option Elab.async false
set_option linter.all false
set_option autoImplicit false
set_option maxRecDepth 100000
set_option maxHeartbeats 4000000
/-! DLw: the end of a law's row. -/
namespace DL
open PySem PySem.Spec PyProof.Rows L2
/-- what the head tells of a def -/
def DFact (K : PySem.W.Frag) (d : DI) (f : Addr) (cdv : Value) : Prop := ∃ (oc : Value) (od an : Option Addr) (osl : Array (Option Value)) (kV doc pm ct : Value), PySem.W.nsIn K mainGlobals d.x = some (some (.ref f)) ∧
  K.lookup f = some ⟨oc, od, .func (PySem.W.fnOf d.x d.x (defArgs d.st) (defBody d.st) (defScope d.st) .none kV doc pm an cdv ct), osl⟩ ∧ PySem.W.codeIn K cdv d.x = true ∧ PySem.W.keepIn K (.ref f) = true
def BindsOk (d : DI) : Prop := ∀ (kV doc pm : Value) (an : Option Addr) (cdv ct : Value) (us : List Value), us.length = d.ps.length → bindArgs (PySem.W.fnOf d.x d.x (defArgs d.st) (defBody d.st) (defScope d.st) .none kV doc pm an cdv ct) ⟨us, []⟩ = pure (d.ps.zip us)
/-- a table of code objects, empty at the start -/
structure TabFact (K : PySem.W.Frag) (h : Heap) (c P : Addr) : Prop where
  at_ : h.get? P = some { cls := .none, data := .fields #[] }
  code : PySem.W.CodeHd h c P
  no : K.lookup P = none
/-- the defs by their numbers: the numbers, the defs in the same order -/
def dsOf {α : Type} (ks : List Nat) (ds : List α) (k : Nat) : Option α := (ks.findIdx? (fun x => x == k)).bind fun i => ds[i]?
theorem dsOf_mem {α : Type} {ks : List Nat} {ds : List α} {k : Nat} {d : α} (h : dsOf ks ds k = some d) : ∃ i, ks.findIdx? (fun x => x == k) = some i ∧ ds[i]? = some d := by
  unfold dsOf at h
  cases e : ks.findIdx? (fun x => x == k) with
  | none => rw [e] at h; cases h
  | some i => rw [e] at h; exact ⟨i, rfl, h⟩
theorem law_at {l : PySem.W.OpenLaw} {w : World} {K : PySem.W.Frag} {mg : Str → Option Value} {fa : Addr} {h : Heap} (ks : List Nat) (ds : List DI) (cons : List Str) (con : Nat → Option D) (wf n k : Nat) (dl : DI) (hd : dsOf ks ds k = some dl) (hps : dl.ps = [("script" : Str)])
    (KX : K.In h) (hG : h.Ns mainGlobals mg) (hfa : mg dl.x = some (.ref fa)) (fs : List (Addr × Value)) (facts : ∀ (k : Nat) (d : DI), ds[k]? = some d → ∃ f cdv, fs[k]? = some (f, cdv) ∧ DFact K d f cdv) (binds : ∀ d ∈ ds, BindsOk d)
    (ts : List (Str × Addr × Addr)) (tabs : ∀ t ∈ ts, TabFact K h t.2.1 t.2.2) (tabOf : ∀ (k : Nat) (d : DI), ds[k]? = some d → d.lam = true → ∃ f c P, fs[k]? = some (f, .ref c) ∧ (d.x, c, P) ∈ ts) (tabU : ∀ t ∈ ts, ∀ t' ∈ ts, t.2.2 = t'.2.2 → t.1 = t'.1)
    (hcon : ∀ T : Tb, (∀ k, T.fn k = (dsOf ks fs k).map (·.1)) → ∀ (k : Nat) (x : Str) (d : D), cons[k]? = some x → con k = some d → ∃ v u, mg x = some u ∧ RelV v u ∧ ∀ F, Is K T F v d)
    (bi : ∀ b : Bf, mg b.name = none) (ty : ∀ t : Ty, mg t.key = none) (lib : mg "range" = none ∧ mg "enumerate" = none ∧ mg "isinstance" = none ∧ mg "sorted" = none ∧ mg "set" = none)
    (ck : ds.all (ckD { cons := cons, fns := fun k => (dsOf ks ds k).map (·.x), lam := false }) = true)
    (math : ∀ ns : List Int, ns.length ≤ 63 → ∃ ss, runF con wf (fdOf (dsOf ks ds)) n k [.dat (.scr ns)] = .ok (.dat (.bl true)) ss) :
    LamX.LawAtS l w K (L2.CX l.prog w) (7 * n) 63 "script" mg fa h := by
  let T : Tb := { cls := fun _ => none, fn := fun k => (dsOf ks fs k).map (·.1), tabs := ts.map fun t => (t.2.2, lamName t.1) }
  obtain ⟨i0, hi0, hd0⟩ := dsOf_mem hd
  obtain ⟨f, cdv, _, oc, od, an, osl, kV, doc, pm, ct, e1, e2, e3, e4⟩ := facts i0 dl hd0
  refine ⟨PySem.W.fnOf dl.x dl.x (defArgs dl.st) (defBody dl.st) (defScope dl.st) .none kV doc pm an cdv ct, ts.map fun t => (t.2.1, t.2.2), spLaw K T 63, fun p hp => ?_, fun p hp => ?_, fun p hp => ?_, fun s u => .of_eq ?_, fun H a ns hl _ hT hS => ?_, fun base KB GB hTB => ?_⟩
  · obtain ⟨t, ht, rfl⟩ := List.mem_map.mp hp
    exact (tabs t ht).at_
  · obtain ⟨t, ht, rfl⟩ := List.mem_map.mp hp
    exact (tabs t ht).no
  · obtain ⟨t, ht, rfl⟩ := List.mem_map.mp hp
    exact (tabs t ht).code
  · have z := binds dl (List.mem_of_getElem? hd0) kV doc pm an cdv ct [u] (by rw [hps]; rfl)
    rw [hps] at z
    exact z
  · refine ⟨a, ns, rfl, hS, hl, fun p hp => ?_, fun _ => rfl⟩
    obtain ⟨t, ht, rfl⟩ := List.mem_map.mp hp
    exact hT (t.2.1, t.2.2) (List.mem_map.mpr ⟨t, ht, rfl⟩)
  · have A : Top K mg base T { cons := cons, fns := fun k => (dsOf ks ds k).map (·.x), lam := false } con (dsOf ks ds) := by
      refine ⟨hcon T (fun _ => rfl), bi, ty, lib, fun _ => rfl, fun k0' d' hd0' => ?_⟩
      obtain ⟨k', hk', hd'⟩ := dsOf_mem hd0'
      refine ⟨⟨?_⟩, (List.all_eq_true.mp ck) d' (List.mem_of_getElem? hd')⟩
      obtain ⟨f', cdv', q0, oc', od', an', osl', kV', doc', pm', ct', q1, q2, q3, q4⟩ := facts k' d' hd'
      refine ⟨f', oc', od', an', osl', kV', doc', pm', cdv', ct', ?_, PySem.W.mg_of KX hG q1, q2, q3, q4, binds d' (List.mem_of_getElem? hd') _ _ _ _ _ _, fun hl => ?_⟩
      · show (dsOf ks fs k0').map (·.1) = some f'
        unfold dsOf
        rw [hk', Option.bind_some, q0]; rfl
      · obtain ⟨f2, c, P, z1, z2⟩ := tabOf k' d' hd' hl
        rw [q0] at z1
        cases z1
        refine ⟨c, P, rfl, hTB (c, P) (List.mem_map.mpr ⟨_, z2, rfl⟩), List.mem_map.mpr ⟨_, z2, rfl⟩, fun p hp e => ?_⟩
        obtain ⟨t, ht, rfl⟩ := List.mem_map.mp hp
        show lamName t.1 = lamName d'.x
        rw [tabU t ht _ z2 e]
    have hf : f = fa := by
      have z := PySem.W.mg_of KX hG e1
      rw [hfa] at z
      cases z
      rfl
    obtain ⟨f3, fdt, v1, ⟨oc2, od2, osl2, v2⟩, v3⟩ := law_fn (P := l.prog) (w := w) A n k 63 dl hd math
    rw [hfa] at v1
    cases v1
    rw [← hf, e2] at v2
    cases v2
    rw [hps] at v3
    exact v3
theorem walk_D {l : PySem.W.OpenLaw} {q : Program} {loose : List Str} {XP : (Str → Option Value) → Heap → Prop} {YP : World → Heap → Prop} {d : DefRec} {K : Params → PySem.W.Frag} (n : Nat) (hn : l.most = some 63) (hdf : d.params.defaults = []) (hr : Room (7 * n) callerA)
    (hY : ∀ (w : World) (h : Heap), YP w h → (K w.params).In h)
    (F : ∀ (w : World) (mg : Str → Option Value) (fa : Addr) (h : Heap), (K w.params).In h → h.Ns mainGlobals mg → mg d.name = some (.ref fa) →
      (∀ (x : Str) (c P : Addr), ((recsOf q).find? fun e => e.name == x).isSome = true → PySem.W.tabIn (K w.params) x = some (c, P) → PySem.W.CodeHd h c P ∧ h.get? P = some { cls := .none, data := .fields #[] }) →
      LamX.LawAtS l w (K w.params) (L2.CX l.prog w) (7 * n) 63 "script" mg fa h) :
    PySem.W.WalkO q loose XP YP l.row.toRowW d [] (fun f vs => PySem.call f vs) := by
  refine Att.attach_callB hn hdf fun w s₀ s₁ mg mb fa o pm cd doc a vs ns G Y ho hd hcd hmg hobj hints hlen hbits hg => ?_
  have KX := hY w _ Y
  obtain ⟨fd, cs, sp, hT, nT, C, hb, hsp, hF⟩ := F w mg fa _ KX G.T.g hmg fun x c P hx ht => by
    obtain ⟨e, he⟩ := Option.isSome_iff_exists.mp hx
    exact PySem.W.tab_of G.T KX he ht
  exact LamX.law_callTs KX G.T.g G.T.b G.T.builtins G.T.nolimit hg hT nT C G.T.bmain hobj hints (Nat.le_trans hlen (by decide)) hr hF hb (fun H hH hS => hsp H a ns hlen hbits hH hS) fun H e s' hc => by
    obtain ⟨_, _, _, _, _, _, _, _, _, _, _, _, z⟩ := hc
    exact z
/-- what the head tells of all defs -/
inductive AllF (K : PySem.W.Frag) : List DI → List (Addr × Value) → Prop where
  | nil : AllF K [] []
  | cons {d : DI} {f : Addr} {cdv : Value} {ds : List DI} {fs : List (Addr × Value)} : DFact K d f cdv → AllF K ds fs → AllF K (d :: ds) ((f, cdv) :: fs)
theorem AllF.facts {K : PySem.W.Frag} {ds : List DI} {fs : List (Addr × Value)} (A : AllF K ds fs) : ∀ (k : Nat) (d : DI), ds[k]? = some d → ∃ f cdv, fs[k]? = some (f, cdv) ∧ DFact K d f cdv := by
  induction A with
  | nil => intro k d h; simp at h
  | cons D _ ih =>
    intro k d h
    cases k with
    | zero => simp at h; subst h; exact ⟨_, _, rfl, D⟩
    | succ k => exact ih k d (by simpa using h)
theorem dfact {K : PySem.W.Frag} {d : DI} {f : Addr} {cdv oc kV doc pm ct : Value} {od an : Option Addr} {osl : Array (Option Value)} (a : PySem.W.nsIn K mainGlobals d.x = some (some (.ref f)))
    (l : K.lookup f = some ⟨oc, od, .func (PySem.W.fnOf d.x d.x (defArgs d.st) (defBody d.st) (defScope d.st) .none kV doc pm an cdv ct), osl⟩) (c : PySem.W.codeIn K cdv d.x = true) (k : PySem.W.keepIn K (.ref f) = true) : DFact K d f cdv :=
  ⟨oc, od, an, osl, kV, doc, pm, ct, a, l, c, k⟩
theorem tabU_of (ts : List (Str × Addr × Addr)) (h : (ts.map (·.2.2)).Nodup) : ∀ t ∈ ts, ∀ t' ∈ ts, t.2.2 = t'.2.2 → t.1 = t'.1 := by
  intro t ht t' ht' e
  induction ts with
  | nil => cases ht
  | cons a ts ih =>
    rw [List.map_cons, List.nodup_cons] at h
    rcases List.mem_cons.mp ht with z | z <;> rcases List.mem_cons.mp ht' with y | y
    · rw [z, y]
    · exact absurd (List.mem_map.mpr ⟨t', y, by rw [← e, z]⟩) h.1
    · exact absurd (List.mem_map.mpr ⟨t, z, by rw [e, y]⟩) h.1
    · exact ih h.2 z y
theorem some_of_any {α : Type} {p : Str → Option α} {xs : List Str} (h : (xs.all fun y => (p y).isSome) = true) (x : Str) (hx : (xs.any fun y => decide (y = x)) = true) : (p x).isSome = true := by
  obtain ⟨y, hy, e⟩ := List.any_eq_true.mp hx
  rw [← of_decide_eq_true e]
  exact List.all_eq_true.mp h y hy
theorem tabIn_mk {K : PySem.W.Frag} {x : Str} {f cc P : Addr} {oc kc : Value} {od kd : Option Addr} {osl ks : Array (Option Value)} {fd : FuncData} {vs : Array Value} (a : PySem.W.nsIn K mainGlobals x = some (some (.ref f))) (l : K.lookup f = some ⟨oc, od, .func fd, osl⟩) (e : fd.code = .ref cc) (t : K.lookup cc = some ⟨kc, kd, .fields vs, ks⟩) (u : (vs[11]? : Option Value) = some (.ref P)) : PySem.W.tabIn K x = some (cc, P) := by
  unfold PySem.W.tabIn
  rw [a]
  simp only [l, e, t, u]
end DL

set_option Elab.async false
set_option linter.all false
set_option autoImplicit false
set_option maxRecDepth 100000
set_option maxHeartbeats 2000000
/-! DLx: how terms over data are worked out. -/
namespace DL
open PySem L2
/-! ### frames -/
theorem back_f (bs : List Bool) (g : Fm) : back (false :: bs) g = .un :: back bs g.tail := by cases g <;> rfl
theorem back_t (bs : List Bool) (s : DL.Slot) (g : Fm) : back (true :: bs) (s :: g) = s :: back bs g := rfl
theorem back_n (g : Fm) : back [] g = [] := rfl
theorem keepR_none {α : Type} (g : Fm) (r : Res α) : keepR none g r = r := by
  cases r <;> simp [keepR]
theorem keepR_ok {α : Type} {k : Option Nat} {g g' : Fm} {a : α} (h : ∀ i, k = some i → g'[i]? = g[i]?) : keepR k g (.ok a g') = .ok a g' := by
  simp only [keepR]
  rw [if_pos h]
theorem bind_ok {α β : Type} (a : α) (g : Fm) (k : α → Fm → Res β) : (Res.ok a g).bind k = k a g := rfl
theorem out_ok {α : Type} (a : α) (g : Fm) (k : α → Fm → Out) : (Res.ok a g).out k = k a g := rfl
theorem opt_some {α : Type} (g : Fm) (a : α) : opt g (some a) = .ok a g := rfl
/-! ### what an outcome gives -/
def Out.wq (o : Out) (N B C : Fm → Prop) (R : RV → Fm → Prop) : Prop := match o with
  | .nx g => N g
  | .rt v g => R v g
  | .bk g => B g
  | .ct g => C g
  | _ => False
structure Out.wp (o : Out) (N B C : Fm → Prop) (R : RV → Fm → Prop) : Prop where
  h : o.wq N B C R
def no1 : Fm → Prop := fun _ => False
theorem Out.wp_mono {o : Out} {N B C N' B' C' : Fm → Prop} {R R' : RV → Fm → Prop} (h : o.wp N B C R) (n : ∀ g, N g → N' g) (b : ∀ g, B g → B' g) (c : ∀ g, C g → C' g) (r : ∀ v g, R v g → R' v g) : o.wp N' B' C' R' := by
  cases o <;> first | exact ⟨n _ h.h⟩ | exact ⟨r _ _ h.h⟩ | exact ⟨b _ h.h⟩ | exact ⟨c _ h.h⟩ | exact ⟨h.h⟩
theorem seq_wp {o : Out} {k : Fm → Out} {N M B C : Fm → Prop} {R : RV → Fm → Prop} (h : o.wp M B C R) (n : ∀ g, M g → (k g).wp N B C R) : (o.seq k).wp N B C R := by
  cases o <;> first | exact n _ h.h | exact ⟨h.h⟩
theorem forD_wp {step : D → Fm → Out} {k : Option Nat} {N : Fm → Prop} {R : RV → Fm → Prop} (I : List D → Fm → Prop) (hs : ∀ x xs g, I (x :: xs) g → (step x g).wp (fun g' => (∀ i, k = some i → g'[i]? = g[i]?) ∧ I xs g') N (fun g' => (∀ i, k = some i → g'[i]? = g[i]?) ∧ I xs g') R) (hn : ∀ g, I [] g → N g) :
    ∀ (ds : List D) (g : Fm), I ds g → (forD step k ds g).wp N no1 no1 R
  | [], g, h => ⟨hn g h⟩
  | x :: xs, g, h => by
    have z := hs x xs g h
    simp only [forD]
    cases e : step x g with
    | nx g' => rw [e] at z; show (@ite Out _ (Classical.propDecidable _) _ _).wp _ _ _ _; rw [if_pos z.h.1]; exact forD_wp I hs hn xs g' z.h.2
    | ct g' => rw [e] at z; show (@ite Out _ (Classical.propDecidable _) _ _).wp _ _ _ _; rw [if_pos z.h.1]; exact forD_wp I hs hn xs g' z.h.2
    | bk g' => rw [e] at z; exact ⟨z.h⟩
    | rt v g' => rw [e] at z; exact ⟨z.h⟩
    | exc x g' => rw [e] at z; exact z.h.elim
    | stuck => rw [e] at z; exact z.h.elim
/-- with no slot walked -/
theorem for_wp {step : D → Fm → Out} {N : Fm → Prop} {R : RV → Fm → Prop} (I : List D → Fm → Prop) (hs : ∀ x xs g, I (x :: xs) g → (step x g).wp (I xs) N (I xs) R) (hn : ∀ g, I [] g → N g) (ds : List D) (g : Fm) (h : I ds g) : (forD step none ds g).wp N no1 no1 R :=
  forD_wp (k := none) I (fun x xs g h => Out.wp_mono (hs x xs g h) (fun g h => ⟨fun i e => (nomatch e), h⟩) (fun _ h => h) (fun g h => ⟨fun i e => (nomatch e), h⟩) (fun _ _ h => h)) hn ds g h
/-! ### calls -/
theorem run_wp {con : Nat → Option D} {wf n k : Nat} {Γ : Nat → Option Fd} {as : List DL.Slot} {f : Fd} {P : RV → List DL.Slot → Prop} (hf : Γ k = some f) (hb : f.br.length = f.np ∧ fits f.br as = true)
    (h : (evSs con (runF con wf Γ n) wf f.body f.isBr (as ++ List.replicate f.nl .un)).wp (fun g => P (.dat .non) (back f.br g)) no1 no1 (fun v g => P v (back f.br g))) : ∃ v ss, runF con wf Γ (n + 1) k as = .ok v ss ∧ P v ss := by
  simp only [runF, hf]
  rw [if_pos hb]
  cases e : evSs con (runF con wf Γ n) wf f.body f.isBr (as ++ List.replicate f.nl .un) with
  | nx g => rw [e] at h; exact ⟨_, _, rfl, h.h⟩
  | rt v g => rw [e] at h; exact ⟨_, _, rfl, h.h⟩
  | bk g => rw [e] at h; exact h.h.elim
  | ct g => rw [e] at h; exact h.h.elim
  | exc x g => rw [e] at h; exact h.h.elim
  | stuck => rw [e] at h; exact h.h.elim
theorem run_eq {con : Nat → Option D} {wf n k : Nat} {Γ : Nat → Option Fd} {as ss : List DL.Slot} {f : Fd} {v : RV} (hf : Γ k = some f) (hb : f.br.length = f.np ∧ fits f.br as = true)
    (h : (evSs con (runF con wf Γ n) wf f.body f.isBr (as ++ List.replicate f.nl .un)).wp (fun g => RV.dat .non = v ∧ back f.br g = ss) no1 no1 (fun u g => u = v ∧ back f.br g = ss)) : runF con wf Γ (n + 1) k as = .ok v ss := by
  obtain ⟨u, ts, e, h1, h2⟩ := run_wp (P := fun u ts => u = v ∧ ts = ss) hf hb h
  rw [e, h1, h2]
/-! ### comprehensions -/
theorem lcD_pure {step : D → Fm → Res (Option D)} {g : Fm} {v : D → Option D} : ∀ (ds : List D), (∀ x ∈ ds, step x g = .ok (v x) g) → lcD step ds g = .ok (ds.filterMap v) g
  | [], _ => rfl
  | x :: xs, h => by
    simp only [lcD]
    rw [h x List.mem_cons_self]
    simp only [Res.bind]
    rw [lcD_pure xs fun y hy => h y (List.mem_cons_of_mem _ hy)]
    simp only [List.filterMap_cons]
    cases v x <;> rfl
theorem lc_gen {con : Nat → Option D} {call : Nat → List DL.Slot → CRes} {j : Nat} {it : It'} {c : Te} {e : E} {g : Fm} {ds : List D} {s : DL.Slot} (p : D → Bool) (v : D → D) (hi : evI con call it g = .ok ds g) (hk : it.keep ≠ some j) (hs : g[j]? = some s) (hn : ∀ o, s ≠ .own o)
    (hp : ∀ x ∈ ds, evT con call c (g.set j (.dat x)) = .ok (p x) (g.set j (.dat x))) (hv : ∀ x ∈ ds, p x = true → evE con call e (g.set j (.dat x)) = .ok (v x) (g.set j (.dat x))) : evE con call (.lc j it c e) g = .ok (.lst ((ds.filter p).map v)) g := by
  have hj : j < g.length := (List.getElem?_eq_some_iff.mp hs).1
  have hg : (g.set j .un).set j s = g := by
    rw [List.set_set]
    have z := (List.getElem?_eq_some_iff.mp hs).2
    rw [← z, List.set_getElem_self]
  simp only [evE, hi, bind_ok]
  rw [if_neg hk, hs]
  have st : ∀ x ∈ ds, keepR it.keep (g.set j .un) (((evT con call c ((g.set j .un).set j (.dat x))).bind fun b h1 => if b then (evE con call e h1).bind fun y h2 => .ok (some y) (h2.set j .un) else .ok none (h1.set j .un))) = .ok (if p x then some (v x) else none) (g.set j .un) := fun x hx => by
    rw [List.set_set, hp x hx]
    simp only [bind_ok]
    cases q : p x with
    | true =>
      rw [if_pos rfl, hv x hx q]
      simp only [bind_ok]
      rw [List.set_set, keepR_ok fun _ _ => rfl]
      rfl
    | false =>
      rw [if_neg (by simp), List.set_set, keepR_ok fun _ _ => rfl]
      rfl
  have fin : lcD (fun x h => keepR it.keep h ((evT con call c (h.set j (.dat x))).bind fun b h1 => if b then (evE con call e h1).bind fun y h2 => .ok (some y) (h2.set j .un) else .ok none (h1.set j .un))) ds (g.set j .un) = .ok ((ds.filter p).map v) (g.set j .un) := by
    rw [lcD_pure (v := fun x => if p x then some (v x) else none) ds st]
    congr 1
    clear st hp hv hi
    induction ds with
    | nil => rfl
    | cons x xs ih => cases q : p x <;> simp [q, ih]
  cases s with
  | own o => exact absurd rfl (hn o)
  | un =>
    show (noExc (lcD _ ds (g.set j .un))).bind _ = _
    rw [fin]
    simp only [noExc, bind_ok]
    rw [hg]
  | dat d =>
    show (noExc (lcD _ ds (g.set j .un))).bind _ = _
    rw [fin]
    simp only [noExc, bind_ok]
    rw [hg]
/-- with no condition -/
theorem lc_all {con : Nat → Option D} {call : Nat → List DL.Slot → CRes} {j : Nat} {it : It'} {e : E} {g : Fm} {ds : List D} {s : DL.Slot} (v : D → D) (hi : evI con call it g = .ok ds g) (hk : it.keep ≠ some j) (hs : g[j]? = some s) (hn : ∀ o, s ≠ .own o)
    (hv : ∀ x ∈ ds, evE con call e (g.set j (.dat x)) = .ok (v x) (g.set j (.dat x))) : evE con call (.lc j it (.is (.cst (.bl true))) e) g = .ok (.lst (ds.map v)) g := by
  rw [lc_gen (fun _ => true) v hi hk hs hn (fun x hx => rfl) fun x hx _ => hv x hx]
  rw [List.filter_eq_self.mpr fun _ _ => rfl]
/-- with turns that change the frame -/
theorem lc_st {con : Nat → Option D} {call : Nat → List DL.Slot → CRes} {j : Nat} {it : It'} {e : E} {g : Fm} {ds : List D} {s : DL.Slot} (I : Fm → Prop) (R : D → D → Prop) (hi : evI con call it g = .ok ds g) (hk : it.keep = none) (hs : g[j]? = some s) (hn : ∀ o, s ≠ .own o) (h0 : I (g.set j .un))
    (hv : ∀ x ∈ ds, ∀ h, I h → ∃ y h', evE con call e (h.set j (.dat x)) = .ok y h' ∧ I (h'.set j .un) ∧ R x y) : ∃ ys h, evE con call (.lc j it (.is (.cst (.bl true))) e) g = .ok (.lst ys) (h.set j s) ∧ I h ∧ Paired R ds ys := by
  have key : ∀ (xs : List D) (h : Fm), (∀ x ∈ xs, x ∈ ds) → I h → ∃ ys h', lcD (fun x h => keepR it.keep h ((evT con call (.is (.cst (.bl true))) (h.set j (.dat x))).bind fun b h1 => if b then (evE con call e h1).bind fun y h2 => .ok (some y) (h2.set j .un) else .ok none (h1.set j .un))) xs h = .ok ys h' ∧ I h' ∧ Paired R xs ys := by
    intro xs
    induction xs with
    | nil => intro h _ k; exact ⟨_, _, rfl, k, .nil⟩
    | cons x xs ih =>
      intro h m k
      obtain ⟨y, h', e1, k', r⟩ := hv x (m x List.mem_cons_self) h k
      obtain ⟨ys, h'', e2, k'', r'⟩ := ih _ (fun z hz => m z (List.mem_cons_of_mem _ hz)) k'
      refine ⟨y :: ys, h'', ?_, k'', .cons r r'⟩
      have ht : evT con call (.is (.cst (.bl true))) (h.set j (.dat x)) = .ok true (h.set j (.dat x)) := rfl
      simp only [lcD, ht, bind_ok, if_true, e1, hk, keepR_none]
      rw [hk] at e2
      simp only [keepR_none] at e2
      rw [e2]
      rfl
  obtain ⟨ys, h', e1, k, r⟩ := key ds _ (fun _ h => h) h0
  refine ⟨ys, h', ?_, k, r⟩
  simp only [evE, hi, bind_ok]
  rw [if_neg (by rw [hk]; exact fun z => nomatch z), hs]
  cases s with
  | own o => exact absurd rfl (hn o)
  | un =>
    show (noExc (lcD _ ds (g.set j .un))).bind _ = _
    rw [e1]; rfl
  | dat d =>
    show (noExc (lcD _ ds (g.set j .un))).bind _ = _
    rw [e1]; rfl
/-! ### words of data -/
theorem pureL_strs (xs : List Str) : pureL (xs.map D.str) = true := by
  induction xs with
  | nil => rfl
  | cons x xs ih => simp [pureL, D.pure, ih]
theorem depL_strs (xs : List Str) : depL (xs.map D.str) = 0 := by
  induction xs with
  | nil => rfl
  | cons x xs ih => simp [depL, D.dep, ih]
theorem eqvL_strs : ∀ xs ys : List Str, eqvL (xs.map D.str) (ys.map D.str) = decide (xs = ys)
  | [], [] => rfl
  | [], y :: ys => by simp [eqvL]
  | x :: xs, [] => by simp [eqvL]
  | x :: xs, y :: ys => by
    simp only [List.map_cons, eqvL, D.eqv, eqvL_strs xs ys, List.cons.injEq]
    by_cases h : x = y <;> simp [h]
theorem any_eqv_strs (x : Str) (ys : List Str) : (ys.map D.str).any (fun y => y.eqv (.str x)) = decide (x ∈ ys) := by
  induction ys with
  | nil => simp
  | cons y ys ih =>
    rw [List.map_cons, List.any_cons, ih]
    simp only [D.eqv, List.mem_cons]
    by_cases h : y = x
    · simp [h]
    · have h' : ¬ x = y := fun q => h q.symm
      simp [h, h']
theorem in_tup (x : Str) (ys : List Str) : inD (.str x) (.tup (ys.map .str)) = some (decide (x ∈ ys)) := by
  simp only [inD, D.pure, pureL_strs, depL_strs]
  rw [any_eqv_strs]; rfl
theorem in_lst (x : Str) (ys : List Str) : inD (.str x) (.lst (ys.map .str)) = some (decide (x ∈ ys)) := by
  simp only [inD, D.pure, pureL_strs, depL_strs]
  rw [any_eqv_strs]; rfl
/-- a row of texts, as a list or a tuple; a row of rows -/
def tS (xs : List Str) : D := .tup (xs.map .str)
inductive Rw : D → List D → Prop where
  | lst (ds : List D) : Rw (.lst ds) ds
  | tup (ds : List D) : Rw (.tup ds) ds
theorem Rw.walk {d : D} {ds : List D} (r : Rw d ds) : walkD d = some ds := by cases r <;> rfl
theorem Rw.len {d : D} {ds : List D} (r : Rw d ds) : bifD .len [d] = some (.int ds.length) := by cases r <;> rfl
theorem Rw.list {d : D} {ds : List D} (r : Rw d ds) : bifD .lst [d] = some (.lst ds) := by cases r <;> rfl
theorem Rw.tuple {d : D} {ds : List D} (r : Rw d ds) : bifD .tup [d] = some (.tup ds) := by cases r <;> rfl
theorem Rw.idx {d : D} {ds : List D} (r : Rw d ds) (i : Int) : idxD d (.int i) = atI ds i := by cases r <;> rfl
theorem Rw.set {d : D} {xs : List Str} (r : Rw d (xs.map .str)) (h : xs.length + 1 < 4096) : srtD .set d = some (.lst ((setS xs).map .str)) := by
  generalize e : xs.map D.str = ds at r
  cases r <;> subst e <;> simp [srtD, strsD_map, h]
theorem Rw.inn {d : D} {xs : List Str} (r : Rw d (xs.map .str)) (x : Str) : inD (.str x) d = some (decide (x ∈ xs)) := by
  generalize e : xs.map D.str = ds at r
  cases r <;> subst e
  · exact in_lst x xs
  · exact in_tup x xs
theorem bools_any (xs : List Bool) : bifD .any [.lst (xs.map D.bl)] = some (.bl (xs.any id)) := by simp [bifD, boolsD_map]
theorem bools_all (xs : List Bool) : bifD .all [.lst (xs.map D.bl)] = some (.bl (xs.all id)) := by simp [bifD, boolsD_map]
/-! ### calls in terms -/
theorem slotsOf_d (g : Fm) : ∀ ds : List D, slotsOf g (ds.map .d) = some (ds.map .dat)
  | [] => rfl
  | d :: ds => by simp [slotsOf, slotsOf_d g ds]
theorem refsOf_d : ∀ ds : List D, refsOf (ds.map .d) = []
  | [] => rfl
  | d :: ds => by simp [refsOf, refsOf_d ds]
theorem putBack_ds (g : Fm) : ∀ (ds : List D) (ss : List DL.Slot), putBack g (ds.map .d) ss = g
  | [], _ => by cases ‹List DL.Slot› <;> rfl
  | d :: ds, [] => rfl
  | d :: ds, s :: ss => by simp [putBack, putBack_ds g ds ss]
theorem callR_d {call : Nat → List DL.Slot → CRes} {k : Nat} {g : Fm} (ds : List D) {v : RV} {ss : List DL.Slot} (h : call k (ds.map .dat) = .ok v ss) : callR call k (ds.map .d) g = .ok v g := by
  simp only [callR, slotsOf_d, refsOf_d, h, putBack_ds]
  rw [if_pos List.nodup_nil]
theorem callR_r {call : Nat → List DL.Slot → CRes} {k i : Nat} {g : Fm} {o : O} (ds : List D) {v : RV} {s : DL.Slot} {ss : List DL.Slot} (ho : getO g i = some o) (h : call k (.own o :: ds.map .dat) = .ok v (s :: ss)) : callR call k (.r i :: ds.map .d) g = .ok v (g.set i s) := by
  simp only [callR, slotsOf, ho, slotsOf_d, Option.map_some, refsOf, refsOf_d, h, putBack, putBack_ds]
  rw [if_pos (by simp)]
theorem call1 {call : Nat → List DL.Slot → CRes} {k : Nat} {g : Fm} {a : D} {v : RV} {ss : List DL.Slot} (h : call k [.dat a] = .ok v ss) : callR call k [.d a] g = .ok v g := callR_d [a] h
theorem call2 {call : Nat → List DL.Slot → CRes} {k : Nat} {g : Fm} {a b : D} {v : RV} {ss : List DL.Slot} (h : call k [.dat a, .dat b] = .ok v ss) : callR call k [.d a, .d b] g = .ok v g := callR_d [a, b] h
theorem call3 {call : Nat → List DL.Slot → CRes} {k : Nat} {g : Fm} {a b c : D} {v : RV} {ss : List DL.Slot} (h : call k [.dat a, .dat b, .dat c] = .ok v ss) : callR call k [.d a, .d b, .d c] g = .ok v g := callR_d [a, b, c] h
theorem frz_dat (g : Fm) (d : D) : frzV g (.dat d) = .ok d g := rfl
theorem frz_lst (g : Fm) (xs : List D) : frzV g (.own (.lst xs)) = .ok (.lst xs) g := rfl
/-! ### loops in terms -/
theorem brK_none (br : Nat → Bool) : brK br none = br := by
  funext i
  show (br i || decide (none = some i)) = br i
  simp
theorem fors_wp {con : Nat → Option D} {call : Nat → List DL.Slot → CRes} {wf j : Nat} {it : It'} {b : Ss} {br : Nat → Bool} {g g1 : Fm} {ds : List D} {N : Fm → Prop} {R : RV → Fm → Prop} (hi : evI con call it g = .ok ds g1) (hk : it.keep = none) (hj : br j = false) (I : List D → Fm → Prop) (h0 : I ds g1)
    (hs : ∀ x xs g, I (x :: xs) g → (evSs con call wf b br (g.set j (.dat x))).wp (I xs) N (I xs) R) (hn : ∀ g, I [] g → N g) : (evS con call wf (.fors j it b) br g).wp N no1 no1 R := by
  simp only [evS, hi, out_ok]
  rw [hk, brK_none, hj]
  exact for_wp I hs hn ds g1 h0
/-- several names for each turn -/
theorem fort_wp {con : Nat → Option D} {call : Nat → List DL.Slot → CRes} {wf : Nat} {js : List Nat} {it : It'} {b : Ss} {br : Nat → Bool} {g g1 : Fm} {ds : List D} {N : Fm → Prop} {R : RV → Fm → Prop} (hi : evI con call it g = .ok ds g1) (hj : js.any (brK br it.keep) = false) (I : List D → Fm → Prop) (h0 : I ds g1)
    (hs : ∀ x xs g, I (x :: xs) g → ∃ ys, x = .tup ys ∧ ys.length = js.length ∧ (evSs con call wf b (brK br it.keep) (setAll g js ys)).wp (fun g' => (∀ i, it.keep = some i → g'[i]? = g[i]?) ∧ I xs g') N (fun g' => (∀ i, it.keep = some i → g'[i]? = g[i]?) ∧ I xs g') R) (hn : ∀ g, I [] g → N g) : (evS con call wf (.fort js it b) br g).wp N no1 no1 R := by
  simp only [evS, hi, out_ok]
  rw [hj]
  refine forD_wp I (fun x xs g h => ?_) hn ds g1 h0
  obtain ⟨ys, rfl, e, h'⟩ := hs x xs g h
  show Out.wp (if ys.length = js.length then _ else _) _ _ _ _
  rw [if_pos e]
  exact h'
theorem wp_cons {con : Nat → Option D} {call : Nat → List DL.Slot → CRes} {wf : Nat} {s : S} {r : Ss} {br : Nat → Bool} {g : Fm} {N B C : Fm → Prop} {R : RV → Fm → Prop} (M : Fm → Prop) (h : (evS con call wf s br g).wp M B C R) (n : ∀ g, M g → (evSs con call wf r br g).wp N B C R) : (evSs con call wf (.cons s r) br g).wp N B C R := by
  simp only [evSs]
  exact seq_wp h n
theorem wp_nil {con : Nat → Option D} {call : Nat → List DL.Slot → CRes} {wf : Nat} {br : Nat → Bool} {g : Fm} {N B C : Fm → Prop} {R : RV → Fm → Prop} (h : N g) : (evSs con call wf .nil br g).wp N B C R := by
  simp only [evSs]; exact ⟨h⟩
theorem wp_asg {con : Nat → Option D} {call : Nat → List DL.Slot → CRes} {wf i : Nat} {e : E} {br : Nat → Bool} {g g1 : Fm} {d : D} {r : Ss} {N B C : Fm → Prop} {R : RV → Fm → Prop} (h : evE con call e g = .ok d g1) (hb : br i = false) (k : (evSs con call wf r br (g1.set i (.dat d))).wp N B C R) : (evSs con call wf (.cons (.asg i e) r) br g).wp N B C R := by
  simp only [evSs, evS, h, out_ok, hb]
  exact k
theorem wp_if {con : Nat → Option D} {call : Nat → List DL.Slot → CRes} {wf : Nat} {t : Te} {a b r : Ss} {br : Nat → Bool} {g g1 : Fm} {c : Bool} {N B C : Fm → Prop} {R : RV → Fm → Prop} (M : Fm → Prop) (h : evT con call t g = .ok c g1) (k : ((if c then evSs con call wf a br g1 else evSs con call wf b br g1)).wp M B C R) (n : ∀ g, M g → (evSs con call wf r br g).wp N B C R) : (evSs con call wf (.cons (.ifs t a b) r) br g).wp N B C R := by
  refine wp_cons M ?_ n
  simp only [evS, h, out_ok]
  exact k
theorem wp_ret {con : Nat → Option D} {call : Nat → List DL.Slot → CRes} {wf : Nat} {e : E} {r : Ss} {br : Nat → Bool} {g g1 : Fm} {d : D} {N B C : Fm → Prop} {R : RV → Fm → Prop} (h : evE con call e g = .ok d g1) (k : R (.dat d) g1) : (evSs con call wf (.cons (.ret e) r) br g).wp N B C R := by
  simp only [evSs, evS, h, out_ok, Out.seq]
  exact ⟨k⟩
section
variable {con : Nat → Option D} {call : Nat → List DL.Slot → CRes} {wf : Nat} {br : Nat → Bool} {g g1 : Fm} {r : Ss} {N B C : Fm → Prop} {R : RV → Fm → Prop}
theorem wp_ifc {t : Te} {a b : Ss} {c : Bool} (h : evT con call t g = .ok c g1) (kt : c = true → (evSs con call wf a br g1).wp (fun g => (evSs con call wf r br g).wp N B C R) B C R) (kf : c = false → (evSs con call wf b br g1).wp (fun g => (evSs con call wf r br g).wp N B C R) B C R) : (evSs con call wf (.cons (.ifs t a b) r) br g).wp N B C R := by
  refine wp_if (fun g => (evSs con call wf r br g).wp N B C R) h ?_ fun _ h => h
  cases c with
  | true => exact kt rfl
  | false => exact kf rfl
theorem wp_if0 {t : Te} {a : Ss} {c : Bool} (h : evT con call t g = .ok c g1) (kt : c = true → (evSs con call wf a br g1).wp (fun g => (evSs con call wf r br g).wp N B C R) B C R) (kf : c = false → (evSs con call wf r br g1).wp N B C R) : (evSs con call wf (.cons (.ifs t a .nil) r) br g).wp N B C R :=
  wp_ifc h kt fun e => wp_nil (kf e)
theorem wp_app {i : Nat} {e : E} {d : D} {xs xs' : List D} (h0 : getL g i = some xs') (h : evE con call e g = .ok d g1) (hl : getL g1 i = some xs) (hm : xs.length < sizeLine) (k : (evSs con call wf r br (g1.set i (.own (.lst (xs ++ [d]))))).wp N B C R) : (evSs con call wf (.cons (.app i e) r) br g).wp N B C R := by
  simp only [evSs, evS, withL, h0, h, out_ok, hl]
  rw [if_pos hm]
  exact k
theorem wp_asgO {i : Nat} {e : E} {xs : List D} (h : evE con call e g = .ok (.lst xs) g1) (hb : br i = false) (k : (evSs con call wf r br (g1.set i (.own (.lst xs)))).wp N B C R) : (evSs con call wf (.cons (.asgO i e) r) br g).wp N B C R := by
  simp only [evSs, evS, h, out_ok, hb]
  exact k
theorem wp_retO {i : Nat} {o : O} (h : getO g i = some o) (hb : br i = false) (k : R (.own o) (g.set i .un)) : (evSs con call wf (.cons (.retO i) r) br g).wp N B C R := by
  simp only [evSs, evS, h, hb]
  exact ⟨k⟩
theorem wp_retF {e : E} {xs : List D} (h : evE con call e g = .ok (.lst xs) g1) (k : R (.own (.lst xs)) g1) : (evSs con call wf (.cons (.retF e) r) br g).wp N B C R := by
  simp only [evSs, evS, h, out_ok]
  exact ⟨k⟩
theorem wp_setI {i : Nat} {ke e : E} {d : D} {n : Int} {m : Nat} {g2 : Fm} {xs xs' : List D} (h : evE con call e g = .ok d g1) (h0 : getL g1 i = some xs') (hk : evE con call ke g1 = .ok (.int n) g2) (hl : getL g2 i = some xs) (hm : ixN xs.length n = some m) (k : (evSs con call wf r br (g2.set i (.own (.lst (xs.set m d))))).wp N B C R) : (evSs con call wf (.cons (.setI i ke e) r) br g).wp N B C R := by
  simp only [evSs, evS, withL, h, out_ok, h0, hk, hl, hm]
  exact k
theorem wp_brk (k : B g) : (evSs con call wf (.cons .brk r) br g).wp N B C R := by simp only [evSs, evS]; exact ⟨k⟩
theorem wp_cnt (k : C g) : (evSs con call wf (.cons .cnt r) br g).wp N B C R := by simp only [evSs, evS]; exact ⟨k⟩
end
end DL

set_option Elab.async false
set_option linter.all false
set_option autoImplicit false
set_option maxRecDepth 100000
set_option maxHeartbeats 2000000
/-! DLy: terms over data worked out by simp: each step an equation without a function in it. -/
namespace DL
open PySem L2
@[simp] theorem getD_z (d : D) (g : Fm) : getD (.dat d :: g) 0 = some d := rfl
@[simp] theorem getD_s (s : DL.Slot) (g : Fm) (i : Nat) : getD (s :: g) (i + 1) = getD g i := rfl
@[simp] theorem getL_z (d : List D) (g : Fm) : getL (.own (.lst d) :: g) 0 = some d := rfl
@[simp] theorem getL_s (s : DL.Slot) (g : Fm) (i : Nat) : getL (s :: g) (i + 1) = getL g i := rfl
@[simp] theorem getO_z (d : O) (g : Fm) : getO (.own d :: g) 0 = some d := rfl
@[simp] theorem getO_s (s : DL.Slot) (g : Fm) (i : Nat) : getO (s :: g) (i + 1) = getO g i := rfl
/-- how a def ends -/
def fin (br : List Bool) : Out → CRes
  | .nx g => .ok (.dat .non) (back br g)
  | .rt v g => .ok v (back br g)
  | .exc x g => .exc x (back br g)
  | _ => .stuck
theorem run_fin {con : Nat → Option D} {wf n k : Nat} {Γ : Nat → Option Fd} {as : List DL.Slot} {f : Fd} (hf : Γ k = some f) (hb : f.br.length = f.np ∧ fits f.br as = true) :
    runF con wf Γ (n + 1) k as = fin f.br (evSs con (runF con wf Γ n) wf f.body f.isBr (as ++ List.replicate f.nl .un)) := by
  simp only [runF, hf]
  rw [if_pos hb]
  cases evSs con (runF con wf Γ n) wf f.body f.isBr (as ++ List.replicate f.nl .un) <;> rfl
/-- which slots are parameters that the def may change -/
def brF (bs : List Bool) : Nat → Bool := fun i => bs.getD i false
@[simp] theorem brF_n (i : Nat) : brF [] i = false := rfl
@[simp] theorem brF_z (b : Bool) (bs : List Bool) : brF (b :: bs) 0 = b := rfl
@[simp] theorem brF_s (b : Bool) (bs : List Bool) (i : Nat) : brF (b :: bs) (i + 1) = brF bs i := rfl
/-- with the parts told -/
theorem run_of {con : Nat → Option D} {wf n k np nl : Nat} {br : List Bool} {b : Ss} {Γ : Nat → Option Fd} {as : List DL.Slot} (hf : Γ k = some { np := np, nl := nl, br := br, body := b }) (h1 : br.length = np) (h2 : fits br as = true) :
    runF con wf Γ (n + 1) k as = fin br (evSs con (runF con wf Γ n) wf b (brF br) (as ++ List.replicate nl .un)) := run_fin hf ⟨h1, h2⟩
@[simp] theorem fin_rt (br : List Bool) (v : RV) (g : Fm) : fin br (.rt v g) = .ok v (back br g) := rfl
@[simp] theorem fin_nx (br : List Bool) (g : Fm) : fin br (.nx g) = .ok (.dat .non) (back br g) := rfl
theorem fin_ite (br : List Bool) (p : Prop) [Decidable p] (a b : Out) : fin br (if p then a else b) = if p then fin br a else fin br b := by split <;> rfl
@[simp] theorem bk_t (bs : List Bool) (s : DL.Slot) (g : Fm) : back (true :: bs) (s :: g) = s :: back bs g := rfl
@[simp] theorem bk_f (bs : List Bool) (s : DL.Slot) (g : Fm) : back (false :: bs) (s :: g) = .un :: back bs g := rfl
@[simp] theorem bk_n (g : Fm) : back [] g = [] := rfl
@[simp] theorem fits_n : fits [] [] = true := rfl
@[simp] theorem fits_o (bs : List Bool) (o : O) (ss : List DL.Slot) : fits (true :: bs) (.own o :: ss) = fits bs ss := rfl
@[simp] theorem fits_d (bs : List Bool) (o : D) (ss : List DL.Slot) : fits (false :: bs) (.dat o :: ss) = fits bs ss := rfl
@[simp] theorem opt_s {α : Type} (g : Fm) (a : α) : opt g (some a) = .ok a g := Eq.trans rfl rfl
@[simp] theorem res_ite {α : Type} (p : Prop) [Decidable p] (a b : α) (g : Fm) : (if p then Res.ok a g else Res.ok b g) = Res.ok (if p then a else b) g := by split <;> rfl
@[simp] theorem bl_ite (p : Prop) [Decidable p] (a b : Bool) : (if p then D.bl a else D.bl b) = D.bl (if p then a else b) := by split <;> rfl
@[simp] theorem int_ite (p : Prop) [Decidable p] (a b : Int) : (if p then D.int a else D.int b) = D.int (if p then a else b) := by split <;> rfl
/-- a comparison that may be asked -/
def cmpO (o : Co) (x y : D) : Option Bool := if noDic o y then cmpD o x y else none
section
variable (con : Nat → Option D) (call : Nat → List DL.Slot → CRes) (wf : Nat)
noncomputable def kBin (o : Bo) (b : E) (r : Res D) : Res D := r.bind fun x g1 => (evE con call b g1).bind fun y g2 => opt g2 (binD o x y)
def kBin2 (o : Bo) (x : D) (r : Res D) : Res D := r.bind fun y g2 => opt g2 (binD o x y)
noncomputable def kCmp (o : Co) (b : E) (r : Res D) : Res D := r.bind fun x g1 => (evE con call b g1).bind fun y g2 => opt g2 ((cmpO o x y).map .bl)
def kCmp2 (o : Co) (x : D) (r : Res D) : Res D := r.bind fun y g2 => opt g2 ((cmpO o x y).map .bl)
noncomputable def kIdx (b : E) (r : Res D) : Res D := r.bind fun x g1 => (evE con call b g1).bind fun y g2 => opt g2 (idxD x y)
def kIdx2 (x : D) (r : Res D) : Res D := r.bind fun y g2 => opt g2 (idxD x y)
def kNt (r : Res D) : Res D := r.bind fun x g1 => opt g1 ((blD x).map fun b => .bl !b)
noncomputable def kIfe (a b : E) (r : Res Bool) : Res D := r.bind fun t g1 => if t then evE con call a g1 else evE con call b g1
def kTup (r : Res (List D)) : Res D := r.bind fun ds g1 => .ok (.tup ds) g1
def kLst (r : Res (List D)) : Res D := r.bind fun ds g1 => .ok (.lst ds) g1
noncomputable def kSlc (lo hi : Po) (r : Res D) : Res D := r.bind fun x g1 => (evP con call lo g1).bind fun l g2 => (evP con call hi g2).bind fun h g3 => opt g3 (slcD x l h)
noncomputable def kSlc2 (x : D) (hi : Po) (r : Res (Option Int)) : Res D := r.bind fun l g2 => (evP con call hi g2).bind fun h g3 => opt g3 (slcD x l h)
def kSlc3 (x : D) (l : Option Int) (r : Res (Option Int)) : Res D := r.bind fun h g3 => opt g3 (slcD x l h)
noncomputable def kCall (k : Nat) (r : Res (List Ar)) : Res D := r.bind fun ar g1 => (callR call k ar g1).bind fun v g2 => frzV g2 v
def kFrz (r : Res RV) : Res D := r.bind fun v g2 => frzV g2 v
def kBif (b : Bf) (r : Res (List D)) : Res D := r.bind fun ds g1 => opt g1 (bifD b ds)
noncomputable def kMet (m : Me) (b : E) (r : Res D) : Res D := r.bind fun x g1 => match x with
    | .str z => (evE con call b g1).bind fun y g2 => opt g2 (metD m z y)
    | _ => .stuck
def kMet2 (m : Me) (z : Str) (r : Res D) : Res D := r.bind fun y g2 => opt g2 (metD m z y)
def kIsi (ts : List Ty) (r : Res D) : Res D := r.bind fun x g1 => opt g1 ((isiD x ts).map .bl)
noncomputable def kBrw (e : E) (g : Fm) (o : Option Fm) : Res D := match o with
    | none => .stuck
    | some h => match evE con call e h with
      | .ok y _ => if flat y then .ok y g else .stuck
      | _ => .stuck
def kBrw2 (g : Fm) (r : Res D) : Res D := match r with
      | .ok y _ => if flat y then .ok y g else .stuck
      | _ => .stuck
noncomputable def kOix (i : Nat) (e : E) (g : Fm) (o : Option (List D)) : Res D := match o with
  | some _ => (evE con call e g).bind fun y g1 => match getL g1 i, y with
    | some xs, .int k => opt g1 (atI xs k)
    | _, _ => .stuck
  | none => .stuck
def kOix2 (i : Nat) (r : Res D) : Res D := r.bind fun y g1 => match getL g1 i, y with
    | some xs, .int k => opt g1 (atI xs k)
    | _, _ => .stuck
def kOix3 (k : Int) (g1 : Fm) (o : Option (List D)) : Res D := match o with
    | some xs => opt g1 (atI xs k)
    | _ => .stuck
noncomputable def kPop (i : Nat) (e : E) (g : Fm) (o : Option (List D)) : Res D := match o with
  | some _ => (evE con call e g).bind fun y g1 => match getL g1 i, y with
    | some xs, .int k => match ixN xs.length k with
      | some n => match xs[n]? with
        | some d => .ok d (g1.set i (.own (.lst (xs.eraseIdx n))))
        | none => .stuck
      | none => .stuck
    | _, _ => .stuck
  | none => .stuck
def kPop2 (i : Nat) (r : Res D) : Res D := r.bind fun y g1 => match getL g1 i, y with
    | some xs, .int k => match ixN xs.length k with
      | some n => match xs[n]? with
        | some d => .ok d (g1.set i (.own (.lst (xs.eraseIdx n))))
        | none => .stuck
      | none => .stuck
    | _, _ => .stuck
def popO (xs : List D) (k : Int) : Option (D × List D) := match ixN xs.length k with
      | some n => match xs[n]? with
        | some d => some (d, xs.eraseIdx n)
        | none => none
      | none => none
def kPop3 (i : Nat) (g1 : Fm) (o : Option (D × List D)) : Res D := match o with
  | some p => .ok p.1 (g1.set i (.own (.lst p.2)))
  | none => .stuck
def kPop4 (i : Nat) (k : Int) (g1 : Fm) (o : Option (List D)) : Res D := match o with
  | some xs => kPop3 i g1 (popO xs k)
  | none => .stuck
noncomputable def kSlo (i : Nat) (lo hi : Po) (g : Fm) (o : Option (List D)) : Res D := match o with
  | some _ => (evP con call lo g).bind fun l g1 => (evP con call hi g1).bind fun h g2 => match getL g2 i with
      | some xs => .ok (.lst (cut xs l h)) g2
      | none => .stuck
  | none => .stuck
noncomputable def kSlo2 (i : Nat) (hi : Po) (r : Res (Option Int)) : Res D := r.bind fun l g1 => (evP con call hi g1).bind fun h g2 => match getL g2 i with
      | some xs => .ok (.lst (cut xs l h)) g2
      | none => .stuck
def kSlo3 (i : Nat) (l : Option Int) (r : Res (Option Int)) : Res D := r.bind fun h g2 => match getL g2 i with
      | some xs => .ok (.lst (cut xs l h)) g2
      | none => .stuck
def kSlo4 (l h : Option Int) (g2 : Fm) (o : Option (List D)) : Res D := match o with
      | some xs => .ok (.lst (cut xs l h)) g2
      | none => .stuck
def kOcp (g : Fm) (o : Option (List D)) : Res D := match o with
    | some xs => .ok (.lst xs) g
    | none => .stuck
def kFrzI (i : Nat) (g : Fm) (o : Option O) : Res D := match o with
    | none => .stuck
    | some o => match o.frz with
      | none => .stuck
      | some d => .ok d (g.set i (.dat d))
def kSrt (s : Sk) (r : Res D) : Res D := r.bind fun x g1 => opt g1 (srtD s x)
noncomputable def kEs (es : Es) (r : Res D) : Res (List D) := r.bind fun x g1 => (evEs con call es g1).bind fun xs g2 => .ok (x :: xs) g2
def kEs2 (x : D) (r : Res (List D)) : Res (List D) := r.bind fun xs g2 => .ok (x :: xs) g2
noncomputable def kAs (as : As) (r : Res D) : Res (List Ar) := r.bind fun x g1 => (evAs con call as g1).bind fun xs g2 => .ok (.d x :: xs) g2
def kAs2 (x : Ar) (r : Res (List Ar)) : Res (List Ar) := r.bind fun xs g2 => .ok (x :: xs) g2
noncomputable def kAr (i : Nat) (as : As) (g : Fm) (o : Option O) : Res (List Ar) := match o with
  | some _ => (evAs con call as g).bind fun xs g2 => .ok (.r i :: xs) g2
  | none => .stuck
def kPo (r : Res D) : Res (Option Int) := r.bind fun x g1 => opt g1 ((intD x).map some)
def kB1 (r : Res D) : Res D := r.bind fun x g1 => opt g1 ((blD x).map .bl)
noncomputable def kB2 (k : Bool) (e : E) (es : Es) (r : Res D) : Res D := r.bind fun x g1 => match x with
    | .bl b => if b = k then evB con call k (.cons e es) g1 else .ok (.bl b) g1
    | _ => .stuck
def kIs (r : Res D) : Res Bool := r.bind fun x g1 => opt g1 (blD x)
def kTru (r : Res D) : Res Bool := r.bind fun x g1 => opt g1 (truD x)
noncomputable def kTc (o : Co) (b : E) (r : Res D) : Res Bool := r.bind fun x g1 => (evE con call b g1).bind fun y g2 => opt g2 (cmpO o x y)
def kTc2 (o : Co) (x : D) (r : Res D) : Res Bool := r.bind fun y g2 => opt g2 (cmpO o x y)
def kTn (r : Res Bool) : Res Bool := r.bind fun b g1 => .ok (!b) g1
noncomputable def kTs (k : Bool) (ts : Ts) (r : Res Bool) : Res Bool := r.bind fun b g1 => if b = k then evTs con call k ts g1 else .ok b g1
noncomputable def kTw (t : Te) (g : Fm) (o : Option Fm) : Res Bool := match o with
    | none => .stuck
    | some h => match evT con call t h with
      | .ok y _ => .ok y g
      | _ => .stuck
def kTw2 (g : Fm) (r : Res Bool) : Res Bool := match r with
      | .ok y _ => .ok y g
      | _ => .stuck
def kIt (r : Res D) : Res (List D) := r.bind fun x g1 => opt g1 (walkD x)
def kR1 (r : Res D) : Res (List D) := r.bind fun x g1 => opt g1 ((intD x).bind fun j => rngD 0 j)
noncomputable def kR2 (b : E) (r : Res D) : Res (List D) := r.bind fun x g1 => (evE con call b g1).bind fun y g2 => opt g2 ((intD x).bind fun i => (intD y).bind fun j => rngD i j)
def kR2b (x : D) (r : Res D) : Res (List D) := r.bind fun y g2 => opt g2 ((intD x).bind fun i => (intD y).bind fun j => rngD i j)
noncomputable def kR3 (b c : E) (r : Res D) : Res (List D) := r.bind fun x g1 => (evE con call b g1).bind fun y g2 => (evE con call c g2).bind fun z g3 => opt g3 ((intD x).bind fun i => (intD y).bind fun j => (intD z).bind fun k => rngC i j k)
noncomputable def kR3b (x : D) (c : E) (r : Res D) : Res (List D) := r.bind fun y g2 => (evE con call c g2).bind fun z g3 => opt g3 ((intD x).bind fun i => (intD y).bind fun j => (intD z).bind fun k => rngC i j k)
def kR3c (x y : D) (r : Res D) : Res (List D) := r.bind fun z g3 => opt g3 ((intD x).bind fun i => (intD y).bind fun j => (intD z).bind fun k => rngC i j k)
def kEnu (r : Res D) : Res (List D) := r.bind fun x g1 => match x with
    | .lst xs => .ok (enuD 0 xs) g1
    | _ => .stuck
-- expressions
@[simp] theorem xE_var (i : Nat) (g : Fm) : evE con call (.var i) g = opt g (getD g i) := by simp only [evE]
@[simp] theorem xE_cst (d : D) (g : Fm) : evE con call (.cst d) g = .ok d g := by simp only [evE]
@[simp] theorem xE_glb (i : Nat) (g : Fm) : evE con call (.glb i) g = opt g (con i) := by simp only [evE]
@[simp] theorem xE_fnv (i : Nat) (g : Fm) : evE con call (.fnv i) g = .ok (.fn i) g := by simp only [evE]
@[simp] theorem xE_bin (o : Bo) (a b : E) (g : Fm) : evE con call (.bin o a b) g = kBin con call o b (evE con call a g) := by simp only [evE, kBin]
@[simp] theorem xE_bin1 (o : Bo) (b : E) (x : D) (g : Fm) : kBin con call o b (.ok x g) = kBin2 o x (evE con call b g) := Eq.trans rfl rfl
@[simp] theorem xE_bin2 (o : Bo) (x y : D) (g : Fm) : kBin2 o x (.ok y g) = opt g (binD o x y) := Eq.trans rfl rfl
@[simp] theorem xE_cmp (o : Co) (a b : E) (g : Fm) : evE con call (.cmp o a b) g = kCmp con call o b (evE con call a g) := by
  simp only [evE, kCmp, cmpO]
  congr 1; funext x g1; congr 1; funext y g2; congr 1; split <;> rfl
@[simp] theorem xE_cmp1 (o : Co) (b : E) (x : D) (g : Fm) : kCmp con call o b (.ok x g) = kCmp2 o x (evE con call b g) := Eq.trans rfl rfl
@[simp] theorem xE_cmp2 (o : Co) (x y : D) (g : Fm) : kCmp2 o x (.ok y g) = opt g ((cmpO o x y).map .bl) := Eq.trans rfl rfl
@[simp] theorem xE_idx (a b : E) (g : Fm) : evE con call (.idx a b) g = kIdx con call b (evE con call a g) := by simp only [evE, kIdx]
@[simp] theorem xE_idx1 (b : E) (x : D) (g : Fm) : kIdx con call b (.ok x g) = kIdx2 x (evE con call b g) := Eq.trans rfl rfl
@[simp] theorem xE_idx2 (x y : D) (g : Fm) : kIdx2 x (.ok y g) = opt g (idxD x y) := Eq.trans rfl rfl
@[simp] theorem xE_nt (a : E) (g : Fm) : evE con call (.nt a) g = kNt (evE con call a g) := by simp only [evE, kNt]
@[simp] theorem xE_nt1 (b : Bool) (g : Fm) : kNt (.ok (.bl b) g) = .ok (.bl !b) g := Eq.trans rfl rfl
@[simp] theorem xE_ife (c : Te) (a b : E) (g : Fm) : evE con call (.ife c a b) g = kIfe con call a b (evT con call c g) := by simp only [evE, kIfe]
@[simp] theorem xE_ife1 (a b : E) (t : Bool) (g : Fm) : kIfe con call a b (.ok t g) = if t then evE con call a g else evE con call b g := Eq.trans rfl rfl
@[simp] theorem xE_tup (es : Es) (g : Fm) : evE con call (.tup es) g = kTup (evEs con call es g) := by simp only [evE, kTup]
@[simp] theorem xE_tup1 (ds : List D) (g : Fm) : kTup (.ok ds g) = .ok (.tup ds) g := Eq.trans rfl rfl
@[simp] theorem xE_lst (es : Es) (g : Fm) : evE con call (.lst es) g = kLst (evEs con call es g) := by simp only [evE, kLst]
@[simp] theorem xE_lst1 (ds : List D) (g : Fm) : kLst (.ok ds g) = .ok (.lst ds) g := Eq.trans rfl rfl
@[simp] theorem xE_slc (a : E) (lo hi : Po) (g : Fm) : evE con call (.slc a lo hi) g = kSlc con call lo hi (evE con call a g) := by simp only [evE, kSlc]
@[simp] theorem xE_slc1 (lo hi : Po) (x : D) (g : Fm) : kSlc con call lo hi (.ok x g) = kSlc2 con call x hi (evP con call lo g) := Eq.trans rfl rfl
@[simp] theorem xE_slc2 (hi : Po) (x : D) (l : Option Int) (g : Fm) : kSlc2 con call x hi (.ok l g) = kSlc3 x l (evP con call hi g) := Eq.trans rfl rfl
@[simp] theorem xE_slc3 (x : D) (l h : Option Int) (g : Fm) : kSlc3 x l (.ok h g) = opt g (slcD x l h) := Eq.trans rfl rfl
@[simp] theorem xE_call (k : Nat) (as : As) (g : Fm) : evE con call (.call k as) g = kCall call k (evAs con call as g) := by simp only [evE, kCall]
@[simp] theorem xE_call1 (k : Nat) (ar : List Ar) (g : Fm) : kCall call k (.ok ar g) = kFrz (callR call k ar g) := Eq.trans rfl rfl
@[simp] theorem xE_frz1 (d : D) (g : Fm) : kFrz (.ok (.dat d) g) = .ok d g := Eq.trans rfl rfl
@[simp] theorem xE_frz2 (xs : List D) (g : Fm) : kFrz (.ok (.own (.lst xs)) g) = .ok (.lst xs) g := Eq.trans rfl rfl
@[simp] theorem xE_bif (b : Bf) (es : Es) (g : Fm) : evE con call (.bif b es) g = kBif b (evEs con call es g) := by simp only [evE, kBif]
@[simp] theorem xE_bif1 (b : Bf) (ds : List D) (g : Fm) : kBif b (.ok ds g) = opt g (bifD b ds) := Eq.trans rfl rfl
@[simp] theorem xE_met (m : Me) (a b : E) (g : Fm) : evE con call (.met m a b) g = kMet con call m b (evE con call a g) := by simp only [evE, kMet] <;> rfl
@[simp] theorem xE_met1 (m : Me) (b : E) (z : Str) (g : Fm) : kMet con call m b (.ok (.str z) g) = kMet2 m z (evE con call b g) := Eq.trans rfl rfl
@[simp] theorem xE_met2 (m : Me) (z : Str) (y : D) (g : Fm) : kMet2 m z (.ok y g) = opt g (metD m z y) := Eq.trans rfl rfl
@[simp] theorem xE_isi (a : E) (ts : List Ty) (g : Fm) : evE con call (.isi a ts) g = kIsi ts (evE con call a g) := by simp only [evE, kIsi]
@[simp] theorem xE_isi1 (x : D) (ts : List Ty) (g : Fm) : kIsi ts (.ok x g) = opt g ((isiD x ts).map .bl) := Eq.trans rfl rfl
@[simp] theorem xE_brw (is : List Nat) (e : E) (g : Fm) : evE con call (.brw is e) g = kBrw con call e g (lend is 0 g) := by simp only [evE, kBrw] <;> rfl
@[simp] theorem xE_brw1 (e : E) (g h : Fm) : kBrw con call e g (some h) = kBrw2 g (evE con call e h) := Eq.trans rfl rfl
@[simp] theorem xE_brw2 (g h : Fm) (y : D) : kBrw2 g (.ok y h) = if flat y then .ok y g else .stuck := Eq.trans rfl rfl
@[simp] theorem xE_oix (i : Nat) (e : E) (g : Fm) : evE con call (.oix i e) g = kOix con call i e g (getL g i) := by simp only [evE, kOix, withL] <;> rfl
@[simp] theorem xE_oix1 (i : Nat) (e : E) (g : Fm) (xs : List D) : kOix con call i e g (some xs) = kOix2 i (evE con call e g) := Eq.trans rfl rfl
@[simp] theorem xE_oix2 (i : Nat) (k : Int) (g : Fm) : kOix2 i (.ok (.int k) g) = kOix3 k g (getL g i) := by
  simp only [kOix2, kOix3, Res.bind]
  cases getL g i <;> rfl
@[simp] theorem xE_oix3 (k : Int) (g : Fm) (xs : List D) : kOix3 k g (some xs) = opt g (atI xs k) := Eq.trans rfl rfl
@[simp] theorem xE_pop (i : Nat) (e : E) (g : Fm) : evE con call (.pop i e) g = kPop con call i e g (getL g i) := by simp only [evE, kPop, withL] <;> rfl
@[simp] theorem xE_pop1 (i : Nat) (e : E) (g : Fm) (xs : List D) : kPop con call i e g (some xs) = kPop2 i (evE con call e g) := Eq.trans rfl rfl
@[simp] theorem xE_pop2 (i : Nat) (k : Int) (g : Fm) : kPop2 i (.ok (.int k) g) = kPop4 i k g (getL g i) := by
  simp only [kPop2, kPop4, kPop3, popO, Res.bind]
  cases getL g i with
  | none => rfl
  | some xs =>
    cases e1 : ixN xs.length k with
    | none => simp [e1]
    | some n => cases e2 : xs[n]? <;> simp [e1, e2]
@[simp] theorem xE_pop4 (i : Nat) (k : Int) (g : Fm) (xs : List D) : kPop4 i k g (some xs) = kPop3 i g (popO xs k) := Eq.trans rfl rfl
@[simp] theorem xE_pop3 (i : Nat) (g : Fm) (p : D × List D) : kPop3 i g (some p) = .ok p.1 (g.set i (.own (.lst p.2))) := Eq.trans rfl rfl
@[simp] theorem xE_oslc (i : Nat) (lo hi : Po) (g : Fm) : evE con call (.oslc i lo hi) g = kSlo con call i lo hi g (getL g i) := by simp only [evE, kSlo, withL] <;> rfl
@[simp] theorem xE_oslc1 (i : Nat) (lo hi : Po) (g : Fm) (xs : List D) : kSlo con call i lo hi g (some xs) = kSlo2 con call i hi (evP con call lo g) := Eq.trans rfl rfl
@[simp] theorem xE_oslc2 (i : Nat) (hi : Po) (l : Option Int) (g : Fm) : kSlo2 con call i hi (.ok l g) = kSlo3 i l (evP con call hi g) := Eq.trans rfl rfl
@[simp] theorem xE_oslc3 (i : Nat) (l h : Option Int) (g : Fm) : kSlo3 i l (.ok h g) = kSlo4 l h g (getL g i) := by
  simp only [kSlo3, kSlo4, Res.bind]
@[simp] theorem xE_oslc4 (l h : Option Int) (g : Fm) (xs : List D) : kSlo4 l h g (some xs) = .ok (.lst (cut xs l h)) g := Eq.trans rfl rfl
@[simp] theorem xE_ocp (i : Nat) (g : Fm) : evE con call (.ocp i) g = kOcp g (getL g i) := by simp only [evE, kOcp] <;> rfl
@[simp] theorem xE_ocp1 (g : Fm) (xs : List D) : kOcp g (some xs) = .ok (.lst xs) g := Eq.trans rfl rfl
@[simp] theorem xE_frz (i : Nat) (g : Fm) : evE con call (.frz i) g = kFrzI i g (getO g i) := by simp only [evE, kFrzI] <;> rfl
@[simp] theorem xE_frzI (i : Nat) (g : Fm) (xs : List D) : kFrzI i g (some (.lst xs)) = .ok (.lst xs) (g.set i (.dat (.lst xs))) := Eq.trans rfl rfl
@[simp] theorem xE_srt (s : Sk) (a : E) (g : Fm) : evE con call (.srt s a) g = kSrt s (evE con call a g) := by simp only [evE, kSrt]
@[simp] theorem xE_srt1 (s : Sk) (x : D) (g : Fm) : kSrt s (.ok x g) = opt g (srtD s x) := Eq.trans rfl rfl
@[simp] theorem xE_bop (k : Bool) (es : Es) (g : Fm) : evE con call (.bop k es) g = evB con call k es g := by simp only [evE]
@[simp] theorem xB_one (k : Bool) (e : E) (g : Fm) : evB con call k (.cons e .nil) g = kB1 (evE con call e g) := by simp only [evB, kB1]
@[simp] theorem xB_1 (b : Bool) (g : Fm) : kB1 (.ok (.bl b) g) = .ok (.bl b) g := Eq.trans rfl rfl
@[simp] theorem xB_cons (k : Bool) (e e' : E) (r : Es) (g : Fm) : evB con call k (.cons e (.cons e' r)) g = kB2 con call k e' r (evE con call e g) := by simp only [evB, kB2] <;> rfl
@[simp] theorem xB_2 (k : Bool) (e : E) (es : Es) (b : Bool) (g : Fm) : kB2 con call k e es (.ok (.bl b) g) = if b = k then evB con call k (.cons e es) g else .ok (.bl b) g := Eq.trans rfl rfl
@[simp] theorem xEs_nil (g : Fm) : evEs con call .nil g = .ok [] g := by simp only [evEs]
@[simp] theorem xEs_cons (e : E) (r : Es) (g : Fm) : evEs con call (.cons e r) g = kEs con call r (evE con call e g) := by simp only [evEs, kEs]
@[simp] theorem xEs_1 (r : Es) (x : D) (g : Fm) : kEs con call r (.ok x g) = kEs2 x (evEs con call r g) := Eq.trans rfl rfl
@[simp] theorem xEs_2 (x : D) (xs : List D) (g : Fm) : kEs2 x (.ok xs g) = .ok (x :: xs) g := Eq.trans rfl rfl
@[simp] theorem xAs_nil (g : Fm) : evAs con call .nil g = .ok [] g := by simp only [evAs]
@[simp] theorem xAs_val (e : E) (r : As) (g : Fm) : evAs con call (.val e r) g = kAs con call r (evE con call e g) := by simp only [evAs, kAs]
@[simp] theorem xAs_1 (r : As) (x : D) (g : Fm) : kAs con call r (.ok x g) = kAs2 (.d x) (evAs con call r g) := Eq.trans rfl rfl
@[simp] theorem xAs_2 (x : Ar) (xs : List Ar) (g : Fm) : kAs2 x (.ok xs g) = .ok (x :: xs) g := Eq.trans rfl rfl
@[simp] theorem xAs_ref (i : Nat) (r : As) (g : Fm) : evAs con call (.ref i r) g = kAr con call i r g (getO g i) := by simp only [evAs, kAr] <;> rfl
@[simp] theorem xAs_r1 (i : Nat) (r : As) (g : Fm) (o : O) : kAr con call i r g (some o) = kAs2 (.r i) (evAs con call r g) := Eq.trans rfl rfl
@[simp] theorem xP_no (g : Fm) : evP con call .no g = .ok none g := by simp only [evP]
@[simp] theorem xP_at (e : E) (g : Fm) : evP con call (.at e) g = kPo (evE con call e g) := by simp only [evP, kPo]
@[simp] theorem xP_1 (i : Int) (g : Fm) : kPo (.ok (.int i) g) = .ok (some i) g := Eq.trans rfl rfl
-- tests
@[simp] theorem xT_is (e : E) (g : Fm) : evT con call (.is e) g = kIs (evE con call e g) := by simp only [evT, kIs]
@[simp] theorem xT_is1 (b : Bool) (g : Fm) : kIs (.ok (.bl b) g) = .ok b g := Eq.trans rfl rfl
@[simp] theorem xT_tru (e : E) (g : Fm) : evT con call (.tru e) g = kTru (evE con call e g) := by simp only [evT, kTru]
@[simp] theorem xT_tru1 (x : D) (g : Fm) : kTru (.ok x g) = opt g (truD x) := Eq.trans rfl rfl
@[simp] theorem xT_cmp (o : Co) (a b : E) (g : Fm) : evT con call (.cmp o a b) g = kTc con call o b (evE con call a g) := by simp only [evT, kTc, cmpO]
@[simp] theorem xT_cmp1 (o : Co) (b : E) (x : D) (g : Fm) : kTc con call o b (.ok x g) = kTc2 o x (evE con call b g) := Eq.trans rfl rfl
@[simp] theorem xT_cmp2 (o : Co) (x y : D) (g : Fm) : kTc2 o x (.ok y g) = opt g (cmpO o x y) := Eq.trans rfl rfl
@[simp] theorem xT_nt (t : Te) (g : Fm) : evT con call (.nt t) g = kTn (evT con call t g) := by simp only [evT, kTn]
@[simp] theorem xT_nt1 (b : Bool) (g : Fm) : kTn (.ok b g) = .ok (!b) g := Eq.trans rfl rfl
@[simp] theorem xT_bop (k : Bool) (ts : Ts) (g : Fm) : evT con call (.bop k ts) g = evTs con call k ts g := by simp only [evT]
@[simp] theorem xTs_one (k : Bool) (t : Te) (g : Fm) : evTs con call k (.one t) g = evT con call t g := by simp only [evTs]
@[simp] theorem xTs_cons (k : Bool) (t : Te) (r : Ts) (g : Fm) : evTs con call k (.cons t r) g = kTs con call k r (evT con call t g) := by simp only [evTs, kTs]
@[simp] theorem xTs_1 (k : Bool) (r : Ts) (b : Bool) (g : Fm) : kTs con call k r (.ok b g) = if b = k then evTs con call k r g else .ok b g := Eq.trans rfl rfl
@[simp] theorem xT_brw (is : List Nat) (t : Te) (g : Fm) : evT con call (.brw is t) g = kTw con call t g (lend is 0 g) := by simp only [evT, kTw] <;> rfl
@[simp] theorem xT_brw1 (t : Te) (g h : Fm) : kTw con call t g (some h) = kTw2 g (evT con call t h) := Eq.trans rfl rfl
@[simp] theorem xT_brw2 (g h : Fm) (y : Bool) : kTw2 g (.ok y h) = .ok y g := Eq.trans rfl rfl
-- what is walked
@[simp] theorem xI_dat (e : E) (g : Fm) : evI con call (.dat e) g = kIt (evE con call e g) := by simp only [evI, kIt]
@[simp] theorem xI_1 (x : D) (g : Fm) : kIt (.ok x g) = opt g (walkD x) := Eq.trans rfl rfl
@[simp] theorem xI_r1 (a : E) (g : Fm) : evI con call (.rng1 a) g = kR1 (evE con call a g) := by simp only [evI, kR1]
@[simp] theorem xI_r1a (j : Int) (g : Fm) : kR1 (.ok (.int j) g) = opt g (rngD 0 j) := Eq.trans rfl rfl
@[simp] theorem xI_r2 (a b : E) (g : Fm) : evI con call (.rng2 a b) g = kR2 con call b (evE con call a g) := by simp only [evI, kR2]
@[simp] theorem xI_r2a (b : E) (x : D) (g : Fm) : kR2 con call b (.ok x g) = kR2b x (evE con call b g) := Eq.trans rfl rfl
@[simp] theorem xI_r2b (i j : Int) (g : Fm) : kR2b (.int i) (.ok (.int j) g) = opt g (rngD i j) := Eq.trans rfl rfl
@[simp] theorem xI_r3 (a b c : E) (g : Fm) : evI con call (.rng3 a b c) g = kR3 con call b c (evE con call a g) := by simp only [evI, kR3]
@[simp] theorem xI_r3a (b c : E) (x : D) (g : Fm) : kR3 con call b c (.ok x g) = kR3b con call x c (evE con call b g) := Eq.trans rfl rfl
@[simp] theorem xI_r3b (c : E) (x y : D) (g : Fm) : kR3b con call x c (.ok y g) = kR3c x y (evE con call c g) := Eq.trans rfl rfl
@[simp] theorem xI_r3c (i j k : Int) (g : Fm) : kR3c (.int i) (.int j) (.ok (.int k) g) = opt g (rngC i j k) := Eq.trans rfl rfl
@[simp] theorem xI_enu (e : E) (g : Fm) : evI con call (.enu e) g = kEnu (evE con call e g) := by simp only [evI, kEnu] <;> rfl
@[simp] theorem xI_enu1 (xs : List D) (g : Fm) : kEnu (.ok (.lst xs) g) = .ok (enuD 0 xs) g := Eq.trans rfl rfl
@[simp] theorem xI_own (i : Nat) (g : Fm) : evI con call (.own i) g = opt g (getL g i) := by simp only [evI]
end
/-! ### calls with arguments -/
section
variable (call : Nat → List DL.Slot → CRes)
def kD (g : Fm) : CRes → Res RV
  | .ok v _ => .ok v g
  | .exc x _ => .exc x g
  | .stuck => .stuck
def kR (i : Nat) (g : Fm) : CRes → Res RV
  | .ok v (s :: _) => .ok v (g.set i s)
  | .ok v [] => .ok v g
  | .exc x (s :: _) => .exc x (g.set i s)
  | .exc x [] => .exc x g
  | .stuck => .stuck
def kR0 (k i : Nat) (as : List D) (g : Fm) : Option O → Res RV
  | some o => kR i g (call k (.own o :: as.map .dat))
  | none => .stuck
@[simp] theorem kD_ok (g : Fm) (v : RV) (ss : List DL.Slot) : kD g (.ok v ss) = .ok v g := Eq.trans rfl rfl
@[simp] theorem kR_ok (i : Nat) (g : Fm) (v : RV) (s : DL.Slot) (ss : List DL.Slot) : kR i g (.ok v (s :: ss)) = .ok v (g.set i s) := Eq.trans rfl rfl
@[simp] theorem kR0_ok (k i : Nat) (as : List D) (g : Fm) (o : O) : kR0 call k i as g (some o) = kR i g (call k (.own o :: as.map .dat)) := Eq.trans rfl rfl
theorem callR_ds (k : Nat) (g : Fm) (ds : List D) : callR call k (ds.map .d) g = kD g (call k (ds.map .dat)) := by
  simp only [callR, slotsOf_d, refsOf_d]
  rw [if_pos List.nodup_nil]
  cases call k (ds.map .dat) <;> simp only [putBack_ds, kD]
theorem callR_rs (k i : Nat) (g : Fm) (ds : List D) : callR call k (.r i :: ds.map .d) g = kR0 call k i ds g (getO g i) := by
  simp only [callR, slotsOf]
  cases getO g i with
  | none => rfl
  | some o =>
    simp only [slotsOf_d, Option.map_some, refsOf, refsOf_d, kR0]
    rw [if_pos (by simp)]
    cases call k (.own o :: ds.map .dat) with
    | stuck => rfl
    | ok v ss => cases ss <;> simp only [putBack, putBack_ds, kR]
    | exc v ss => cases ss <;> simp only [putBack, putBack_ds, kR]
@[simp] theorem callR_0 (k : Nat) (g : Fm) : callR call k [] g = kD g (call k []) := callR_ds call k g []
@[simp] theorem callR_1 (k : Nat) (g : Fm) (a : D) : callR call k [.d a] g = kD g (call k [.dat a]) := callR_ds call k g [a]
@[simp] theorem callR_2 (k : Nat) (g : Fm) (a b : D) : callR call k [.d a, .d b] g = kD g (call k [.dat a, .dat b]) := callR_ds call k g [a, b]
@[simp] theorem callR_3 (k : Nat) (g : Fm) (a b c : D) : callR call k [.d a, .d b, .d c] g = kD g (call k [.dat a, .dat b, .dat c]) := callR_ds call k g [a, b, c]
@[simp] theorem callR_4 (k : Nat) (g : Fm) (a b c d : D) : callR call k [.d a, .d b, .d c, .d d] g = kD g (call k [.dat a, .dat b, .dat c, .dat d]) := callR_ds call k g [a, b, c, d]
@[simp] theorem callR_r0 (k i : Nat) (g : Fm) : callR call k [.r i] g = kR0 call k i [] g (getO g i) := callR_rs call k i g []
@[simp] theorem callR_r1 (k i : Nat) (g : Fm) (a : D) : callR call k [.r i, .d a] g = kR0 call k i [a] g (getO g i) := callR_rs call k i g [a]
@[simp] theorem callR_r2 (k i : Nat) (g : Fm) (a b : D) : callR call k [.r i, .d a, .d b] g = kR0 call k i [a, b] g (getO g i) := callR_rs call k i g [a, b]
@[simp] theorem callR_r3 (k i : Nat) (g : Fm) (a b c : D) : callR call k [.r i, .d a, .d b, .d c] g = kR0 call k i [a, b, c] g (getO g i) := callR_rs call k i g [a, b, c]
end
/-! ### statements -/
section
variable (con : Nat → Option D) (call : Nat → List DL.Slot → CRes) (wf : Nat)
noncomputable def kS (r : Ss) (br : Nat → Bool) (o : Out) : Out := o.seq fun g => evSs con call wf r br g
def kAsg (i : Nat) (br : Nat → Bool) (r : Res D) : Out := r.out fun x g1 => if br i then .stuck else .nx (g1.set i (.dat x))
def kAsgO (i : Nat) (br : Nat → Bool) (r : Res D) : Out := r.out fun x g1 => if br i then .stuck else match x with
    | .lst xs => .nx (g1.set i (.own (.lst xs)))
    | _ => .stuck
def kAsgC (i k : Nat) (br : Nat → Bool) (r : Res (List Ar)) : Out := r.out fun ar g1 => (callR call k ar g1).out fun v g2 => if br i then .stuck else match v with
    | .own o => .nx (g2.set i (.own o))
    | _ => .stuck
def kAsgC2 (i : Nat) (br : Nat → Bool) (r : Res RV) : Out := r.out fun v g2 => if br i then .stuck else match v with
    | .own o => .nx (g2.set i (.own o))
    | _ => .stuck
def kAsgT (js : List Nat) (br : Nat → Bool) (r : Res D) : Out := r.out fun x g1 => if js.any br then .stuck else match x with
    | .tup xs => if xs.length = js.length then .nx (setAll g1 js xs) else .stuck
    | _ => .stuck
noncomputable def kAug (i : Nat) (o : Bo) (e : E) (br : Nat → Bool) (g : Fm) (d : Option D) : Out := match d with
    | some (.int a) => (evE con call e g).out fun y g1 => if br i then .stuck else match augD o a y with
      | some d => .nx (g1.set i (.dat d))
      | none => .stuck
    | _ => .stuck
def kAug2 (i : Nat) (o : Bo) (a : Int) (br : Nat → Bool) (r : Res D) : Out := r.out fun y g1 => if br i then .stuck else match augD o a y with
      | some d => .nx (g1.set i (.dat d))
      | none => .stuck
def kAug3 (i : Nat) (g : Fm) : Option D → Out
  | some d => .nx (g.set i (.dat d))
  | none => .stuck
noncomputable def kSet (i : Nat) (k : E) (r : Res D) : Out := r.out fun x g1 => (withL g1 i (evE con call k g1)).out fun y g2 => match getL g2 i, y with
    | some xs, .int n => match ixN xs.length n with
      | some m => .nx (g2.set i (.own (.lst (xs.set m x))))
      | none => .stuck
    | _, _ => .stuck
noncomputable def kSet2 (i : Nat) (k : E) (x : D) (g1 : Fm) : Option (List D) → Out
  | some _ => (evE con call k g1).out fun y g2 => match getL g2 i, y with
    | some xs, .int n => match ixN xs.length n with
      | some m => .nx (g2.set i (.own (.lst (xs.set m x))))
      | none => .stuck
    | _, _ => .stuck
  | none => .stuck
def kSet3 (i : Nat) (x : D) (r : Res D) : Out := r.out fun y g2 => match getL g2 i, y with
    | some xs, .int n => match ixN xs.length n with
      | some m => .nx (g2.set i (.own (.lst (xs.set m x))))
      | none => .stuck
    | _, _ => .stuck
def kSet4 (i : Nat) (x : D) (n : Int) (g2 : Fm) : Option (List D) → Out
  | some xs => match ixN xs.length n with
      | some m => .nx (g2.set i (.own (.lst (xs.set m x))))
      | none => .stuck
  | none => .stuck
def kSet5 (i : Nat) (x : D) (xs : List D) (g2 : Fm) : Option Nat → Out
  | some m => .nx (g2.set i (.own (.lst (xs.set m x))))
  | none => .stuck
noncomputable def kApp (i : Nat) (e : E) (g : Fm) : Option (List D) → Out
  | some _ => (evE con call e g).out fun x g1 => match getL g1 i with
    | some xs => if xs.length < sizeLine then .nx (g1.set i (.own (.lst (xs ++ [x])))) else .stuck
    | none => .stuck
  | none => .stuck
def kApp2 (i : Nat) (r : Res D) : Out := r.out fun x g1 => match getL g1 i with
    | some xs => if xs.length < sizeLine then .nx (g1.set i (.own (.lst (xs ++ [x])))) else .stuck
    | none => .stuck
def kApp3 (i : Nat) (x : D) (g1 : Fm) : Option (List D) → Out
  | some xs => if xs.length < sizeLine then .nx (g1.set i (.own (.lst (xs ++ [x])))) else .stuck
  | none => .stuck
noncomputable def kIns (i : Nat) (e : E) (r : Res D) : Out := r.out fun y g1 => (evE con call e g1).out fun x g2 => match getL g2 i, y with
    | some xs, .int n => if xs.length < sizeLine ∧ 0 ≤ n ∧ n < 2 ^ 63 then .nx (g2.set i (.own (.lst (xs.take n.toNat ++ [x] ++ xs.drop n.toNat)))) else .stuck
    | _, _ => .stuck
noncomputable def kInsO (i : Nat) (k e : E) (g : Fm) : Option (List D) → Out
  | some _ => kIns con call i e (evE con call k g)
  | none => .stuck
def kIns2 (i : Nat) (y : D) (r : Res D) : Out := r.out fun x g2 => match getL g2 i, y with
    | some xs, .int n => if xs.length < sizeLine ∧ 0 ≤ n ∧ n < 2 ^ 63 then .nx (g2.set i (.own (.lst (xs.take n.toNat ++ [x] ++ xs.drop n.toNat)))) else .stuck
    | _, _ => .stuck
def kIns3 (i : Nat) (n : Int) (x : D) (g2 : Fm) : Option (List D) → Out
  | some xs => if xs.length < sizeLine ∧ 0 ≤ n ∧ n < 2 ^ 63 then .nx (g2.set i (.own (.lst (xs.take n.toNat ++ [x] ++ xs.drop n.toNat)))) else .stuck
  | none => .stuck
def kDrp (r : Res D) : Out := r.out fun _ g1 => .nx g1
def kRet (r : Res D) : Out := r.out fun x g1 => .rt (.dat x) g1
def kRetF (r : Res D) : Out := r.out fun x g1 => match x with
    | .lst xs => .rt (.own (.lst xs)) g1
    | _ => .stuck
def kRetO (i : Nat) (g : Fm) : Option O → Out
  | some o => .rt (.own o) (g.set i .un)
  | none => .stuck
noncomputable def kIf (a b : Ss) (br : Nat → Bool) (r : Res Bool) : Out := r.out fun c g1 => if c then evSs con call wf a br g1 else evSs con call wf b br g1
/-- the turns of a for -/
noncomputable def forB (j : Nat) (keep : Option Nat) (br : Nat → Bool) (b : Ss) (ds : List D) (g : Fm) : Out := forD (fun x h => evSs con call wf b (brK br keep) (h.set j (.dat x))) keep ds g
noncomputable def forT (js : List Nat) (keep : Option Nat) (br : Nat → Bool) (b : Ss) (ds : List D) (g : Fm) : Out := forD (fun x h => match x with
    | .tup xs => if xs.length = js.length then evSs con call wf b (brK br keep) (setAll h js xs) else .stuck
    | _ => .stuck) keep ds g
noncomputable def kFor (j : Nat) (keep : Option Nat) (br : Nat → Bool) (b : Ss) (r : Res (List D)) : Out := r.out fun ds g1 => if brK br keep j then .stuck else forB con call wf j keep br b ds g1
noncomputable def kFort (js : List Nat) (keep : Option Nat) (br : Nat → Bool) (b : Ss) (r : Res (List D)) : Out := r.out fun ds g1 => if js.any (brK br keep) then .stuck else forT con call wf js keep br b ds g1
@[simp] theorem xSs_nil (br : Nat → Bool) (g : Fm) : evSs con call wf .nil br g = .nx g := by simp only [evSs]
@[simp] theorem xSs_cons (s : S) (r : Ss) (br : Nat → Bool) (g : Fm) : evSs con call wf (.cons s r) br g = kS con call wf r br (evS con call wf s br g) := by simp only [evSs, kS]
@[simp] theorem xS_nx (r : Ss) (br : Nat → Bool) (g : Fm) : kS con call wf r br (.nx g) = evSs con call wf r br g := Eq.trans rfl rfl
@[simp] theorem xS_rt (r : Ss) (br : Nat → Bool) (v : RV) (g : Fm) : kS con call wf r br (.rt v g) = .rt v g := Eq.trans rfl rfl
@[simp] theorem xS_bk (r : Ss) (br : Nat → Bool) (g : Fm) : kS con call wf r br (.bk g) = .bk g := Eq.trans rfl rfl
@[simp] theorem xS_ct (r : Ss) (br : Nat → Bool) (g : Fm) : kS con call wf r br (.ct g) = .ct g := Eq.trans rfl rfl
@[simp] theorem xS_ite (r : Ss) (br : Nat → Bool) (p : Prop) [Decidable p] (a b : Out) : kS con call wf r br (if p then a else b) = if p then kS con call wf r br a else kS con call wf r br b := by split <;> rfl
@[simp] theorem xS_asg (i : Nat) (e : E) (br : Nat → Bool) (g : Fm) : evS con call wf (.asg i e) br g = kAsg i br (evE con call e g) := by simp only [evS, kAsg]
@[simp] theorem xS_asg1 (i : Nat) (br : Nat → Bool) (x : D) (g : Fm) : kAsg i br (.ok x g) = if br i then .stuck else .nx (g.set i (.dat x)) := Eq.trans rfl rfl
@[simp] theorem xS_asgO (i : Nat) (e : E) (br : Nat → Bool) (g : Fm) : evS con call wf (.asgO i e) br g = kAsgO i br (evE con call e g) := by simp only [evS, kAsgO] <;> rfl
@[simp] theorem xS_asgO1 (i : Nat) (br : Nat → Bool) (xs : List D) (g : Fm) : kAsgO i br (.ok (.lst xs) g) = if br i then .stuck else .nx (g.set i (.own (.lst xs))) := Eq.trans rfl rfl
@[simp] theorem xS_asgC (i k : Nat) (as : As) (br : Nat → Bool) (g : Fm) : evS con call wf (.asgC i k as) br g = kAsgC call i k br (evAs con call as g) := by simp only [evS, kAsgC] <;> rfl
@[simp] theorem xS_asgC1 (i k : Nat) (br : Nat → Bool) (ar : List Ar) (g : Fm) : kAsgC call i k br (.ok ar g) = kAsgC2 i br (callR call k ar g) := Eq.trans rfl rfl
@[simp] theorem xS_asgC2 (i : Nat) (br : Nat → Bool) (o : O) (g : Fm) : kAsgC2 i br (.ok (.own o) g) = if br i then .stuck else .nx (g.set i (.own o)) := Eq.trans rfl rfl
@[simp] theorem xS_asgT (js : List Nat) (e : E) (br : Nat → Bool) (g : Fm) : evS con call wf (.asgT js e) br g = kAsgT js br (evE con call e g) := by simp only [evS, kAsgT] <;> rfl
@[simp] theorem xS_asgT1 (js : List Nat) (br : Nat → Bool) (xs : List D) (g : Fm) : kAsgT js br (.ok (.tup xs) g) = if js.any br then .stuck else if xs.length = js.length then .nx (setAll g js xs) else .stuck := Eq.trans rfl rfl
@[simp] theorem xS_aug (i : Nat) (o : Bo) (e : E) (br : Nat → Bool) (g : Fm) : evS con call wf (.aug i o e) br g = kAug con call i o e br g (getD g i) := by simp only [evS, kAug] <;> rfl
@[simp] theorem xS_aug1 (i : Nat) (o : Bo) (e : E) (br : Nat → Bool) (g : Fm) (a : Int) : kAug con call i o e br g (some (.int a)) = kAug2 i o a br (evE con call e g) := Eq.trans rfl rfl
@[simp] theorem xS_aug2 (i : Nat) (o : Bo) (a : Int) (br : Nat → Bool) (y : D) (g : Fm) : kAug2 i o a br (.ok y g) = if br i then .stuck else kAug3 i g (augD o a y) := Eq.trans rfl rfl
@[simp] theorem xS_aug3 (i : Nat) (g : Fm) (d : D) : kAug3 i g (some d) = .nx (g.set i (.dat d)) := Eq.trans rfl rfl
@[simp] theorem xS_set (i : Nat) (k v : E) (br : Nat → Bool) (g : Fm) : evS con call wf (.setI i k v) br g = kSet con call i k (evE con call v g) := by simp only [evS, kSet] <;> rfl
@[simp] theorem xS_set1 (i : Nat) (k : E) (x : D) (g : Fm) : kSet con call i k (.ok x g) = kSet2 con call i k x g (getL g i) := by
  simp only [kSet, Res.out, kSet2, withL]
  cases getL g i <;> rfl
@[simp] theorem xS_set2 (i : Nat) (k : E) (x : D) (g : Fm) (xs : List D) : kSet2 con call i k x g (some xs) = kSet3 i x (evE con call k g) := Eq.trans rfl rfl
@[simp] theorem xS_set3 (i : Nat) (x : D) (n : Int) (g : Fm) : kSet3 i x (.ok (.int n) g) = kSet4 i x n g (getL g i) := by
  simp only [kSet3, Res.out, kSet4]
  cases getL g i <;> rfl
@[simp] theorem xS_set4 (i : Nat) (x : D) (n : Int) (g : Fm) (xs : List D) : kSet4 i x n g (some xs) = kSet5 i x xs g (ixN xs.length n) := Eq.trans rfl rfl
@[simp] theorem xS_set5 (i m : Nat) (x : D) (g : Fm) (xs : List D) : kSet5 i x xs g (some m) = .nx (g.set i (.own (.lst (xs.set m x)))) := Eq.trans rfl rfl
@[simp] theorem xS_app (i : Nat) (e : E) (br : Nat → Bool) (g : Fm) : evS con call wf (.app i e) br g = kApp con call i e g (getL g i) := by
  simp only [evS, withL]
  cases getL g i <;> rfl
@[simp] theorem xS_app1 (i : Nat) (e : E) (g : Fm) (xs : List D) : kApp con call i e g (some xs) = kApp2 i (evE con call e g) := Eq.trans rfl rfl
@[simp] theorem xS_app2 (i : Nat) (x : D) (g : Fm) : kApp2 i (.ok x g) = kApp3 i x g (getL g i) := Eq.trans rfl rfl
@[simp] theorem xS_app3 (i : Nat) (x : D) (g : Fm) (xs : List D) : kApp3 i x g (some xs) = if xs.length < sizeLine then .nx (g.set i (.own (.lst (xs ++ [x])))) else .stuck := Eq.trans rfl rfl
@[simp] theorem xS_ins (i : Nat) (k e : E) (br : Nat → Bool) (g : Fm) : evS con call wf (.ins i k e) br g = kInsO con call i k e g (getL g i) := by
  simp only [evS, withL]
  cases getL g i <;> rfl
@[simp] theorem xS_ins0 (i : Nat) (k e : E) (g : Fm) (xs : List D) : kInsO con call i k e g (some xs) = kIns con call i e (evE con call k g) := Eq.trans rfl rfl
@[simp] theorem xS_ins1 (i : Nat) (e : E) (y : D) (g : Fm) : kIns con call i e (.ok y g) = kIns2 i y (evE con call e g) := Eq.trans rfl rfl
@[simp] theorem xS_ins2 (i : Nat) (n : Int) (x : D) (g : Fm) : kIns2 i (.int n) (.ok x g) = kIns3 i n x g (getL g i) := by
  simp only [kIns2, Res.out, kIns3]
  cases getL g i <;> rfl
@[simp] theorem xS_ins3 (i : Nat) (n : Int) (x : D) (g : Fm) (xs : List D) : kIns3 i n x g (some xs) = if xs.length < sizeLine ∧ 0 ≤ n ∧ n < 2 ^ 63 then .nx (g.set i (.own (.lst (xs.take n.toNat ++ [x] ++ xs.drop n.toNat)))) else .stuck := Eq.trans rfl rfl
@[simp] theorem xS_drp (e : E) (br : Nat → Bool) (g : Fm) : evS con call wf (.drp e) br g = kDrp (evE con call e g) := by simp only [evS, kDrp]
@[simp] theorem xS_drp1 (x : D) (g : Fm) : kDrp (.ok x g) = .nx g := Eq.trans rfl rfl
@[simp] theorem xS_ret (e : E) (br : Nat → Bool) (g : Fm) : evS con call wf (.ret e) br g = kRet (evE con call e g) := by simp only [evS, kRet]
@[simp] theorem xS_ret1 (x : D) (g : Fm) : kRet (.ok x g) = .rt (.dat x) g := Eq.trans rfl rfl
@[simp] theorem xS_retN (br : Nat → Bool) (g : Fm) : evS con call wf .retN br g = .rt (.dat .non) g := by simp only [evS]
@[simp] theorem xS_retO (i : Nat) (br : Nat → Bool) (g : Fm) : evS con call wf (.retO i) br g = if br i then .stuck else kRetO i g (getO g i) := by
  simp only [evS]
  cases getO g i <;> rfl
@[simp] theorem xS_retO1 (i : Nat) (g : Fm) (o : O) : kRetO i g (some o) = .rt (.own o) (g.set i .un) := Eq.trans rfl rfl
@[simp] theorem xS_retF (e : E) (br : Nat → Bool) (g : Fm) : evS con call wf (.retF e) br g = kRetF (evE con call e g) := by simp only [evS, kRetF] <;> rfl
@[simp] theorem xS_retF1 (xs : List D) (g : Fm) : kRetF (.ok (.lst xs) g) = .rt (.own (.lst xs)) g := Eq.trans rfl rfl
@[simp] theorem xS_ifs (t : Te) (a b : Ss) (br : Nat → Bool) (g : Fm) : evS con call wf (.ifs t a b) br g = kIf con call wf a b br (evT con call t g) := by simp only [evS, kIf]
@[simp] theorem xS_if1 (a b : Ss) (br : Nat → Bool) (c : Bool) (g : Fm) : kIf con call wf a b br (.ok c g) = if c then evSs con call wf a br g else evSs con call wf b br g := Eq.trans rfl rfl
@[simp] theorem xS_for (j : Nat) (it : It') (b : Ss) (br : Nat → Bool) (g : Fm) : evS con call wf (.fors j it b) br g = kFor con call wf j it.keep br b (evI con call it g) := by simp only [evS, kFor, forB]
@[simp] theorem xS_for1 (j : Nat) (keep : Option Nat) (b : Ss) (br : Nat → Bool) (ds : List D) (g : Fm) : kFor con call wf j keep br b (.ok ds g) = if brK br keep j then .stuck else forB con call wf j keep br b ds g := Eq.trans rfl rfl
@[simp] theorem xS_fort (js : List Nat) (it : It') (b : Ss) (br : Nat → Bool) (g : Fm) : evS con call wf (.fort js it b) br g = kFort con call wf js it.keep br b (evI con call it g) := by simp only [evS, kFort, forT] <;> rfl
@[simp] theorem xS_fort1 (js : List Nat) (keep : Option Nat) (b : Ss) (br : Nat → Bool) (ds : List D) (g : Fm) : kFort con call wf js keep br b (.ok ds g) = if js.any (brK br keep) then .stuck else forT con call wf js keep br b ds g := Eq.trans rfl rfl
@[simp] theorem xS_brk (br : Nat → Bool) (g : Fm) : evS con call wf .brk br g = .bk g := by simp only [evS]
@[simp] theorem xS_cnt (br : Nat → Bool) (g : Fm) : evS con call wf .cnt br g = .ct g := by simp only [evS]
@[simp] theorem xS_pas (br : Nat → Bool) (g : Fm) : evS con call wf .pas br g = .nx g := by simp only [evS]
@[simp] theorem brK_n (br : Nat → Bool) : brK br none = br := brK_none br
@[simp] theorem keep_dat (e : E) : (It'.dat e).keep = none := rfl
@[simp] theorem keep_r1 (e : E) : (It'.rng1 e).keep = none := rfl
@[simp] theorem keep_r2 (a b : E) : (It'.rng2 a b).keep = none := rfl
@[simp] theorem keep_r3 (a b c : E) : (It'.rng3 a b c).keep = none := rfl
@[simp] theorem keep_enu (a : E) : (It'.enu a).keep = none := rfl
@[simp] theorem keep_own (i : Nat) : (It'.own i).keep = some i := rfl
end
end DL

set_option Elab.async false
set_option linter.all false
set_option autoImplicit false
set_option maxRecDepth 100000
set_option maxHeartbeats 2000000
/-! DLz: words of data for simp; loops over encoded lists. -/
namespace DL
open PySem L2
theorem sizeLine_eq : sizeLine = 16777216 := by decide
/-! ### comparisons -/
@[simp] theorem cmpO_lt (i j : Int) : cmpO .lt (.int i) (.int j) = some (decide (i < j)) := rfl
@[simp] theorem cmpO_le (i j : Int) : cmpO .le (.int i) (.int j) = some (decide (i ≤ j)) := rfl
@[simp] theorem cmpO_gt (i j : Int) : cmpO .gt (.int i) (.int j) = some (decide (j < i)) := rfl
@[simp] theorem cmpO_ge (i j : Int) : cmpO .ge (.int i) (.int j) = some (decide (j ≤ i)) := rfl
@[simp] theorem cmpO_eqi (i j : Int) : cmpO .eq (.int i) (.int j) = some (decide (i = j)) := by simp [cmpO, noDic, cmpD, eqOk, D.pure, D.dep, D.eqv]; rfl
@[simp] theorem cmpO_nei (i j : Int) : cmpO .ne (.int i) (.int j) = some (!decide (i = j)) := by simp [cmpO, noDic, cmpD, eqOk, D.pure, D.dep, D.eqv]; rfl
@[simp] theorem cmpO_eqs (i j : Str) : cmpO .eq (.str i) (.str j) = some (decide (i = j)) := by simp [cmpO, noDic, cmpD, eqOk, D.pure, D.dep, D.eqv]; by_cases h : i = j <;> simp [h]
@[simp] theorem cmpO_nes (i j : Str) : cmpO .ne (.str i) (.str j) = some (!decide (i = j)) := by simp [cmpO, noDic, cmpD, eqOk, D.pure, D.dep, D.eqv]; by_cases h : i = j <;> simp [h]
@[simp] theorem cmpO_eqb (i j : Bool) : cmpO .eq (.bl i) (.bl j) = some (i == j) := by simp [cmpO, noDic, cmpD, eqOk, D.pure, D.dep, D.eqv]
@[simp] theorem cmpO_neb (i j : Bool) : cmpO .ne (.bl i) (.bl j) = some (!(i == j)) := by simp [cmpO, noDic, cmpD, eqOk, D.pure, D.dep, D.eqv]
@[simp] theorem cmpO_is (d : D) : cmpO .is d .non = some (isNon d) := by simp [cmpO, noDic, cmpD, isNon]
@[simp] theorem cmpO_isn (d : D) : cmpO .isn d .non = some (!isNon d) := by simp [cmpO, noDic, cmpD, isNon]
@[simp] theorem isNon_n : isNon .non = true := rfl
@[simp] theorem isNon_b (b : Bool) : isNon (.bl b) = false := rfl
@[simp] theorem isNon_i (b : Int) : isNon (.int b) = false := rfl
@[simp] theorem isNon_s (b : Str) : isNon (.str b) = false := rfl
@[simp] theorem isNon_t (b : List D) : isNon (.tup b) = false := rfl
@[simp] theorem isNon_l (b : List D) : isNon (.lst b) = false := rfl
@[simp] theorem cmpO_inT (x : Str) (ys : List Str) : cmpO .inn (.str x) (.tup (ys.map .str)) = some (decide (x ∈ ys)) := in_tup x ys
@[simp] theorem cmpO_inL (x : Str) (ys : List Str) : cmpO .inn (.str x) (.lst (ys.map .str)) = some (decide (x ∈ ys)) := in_lst x ys
@[simp] theorem cmpO_ninT (x : Str) (ys : List Str) : cmpO .nin (.str x) (.tup (ys.map .str)) = some (!decide (x ∈ ys)) := by simp [cmpO, noDic, cmpD, in_tup]
@[simp] theorem cmpO_ninL (x : Str) (ys : List Str) : cmpO .nin (.str x) (.lst (ys.map .str)) = some (!decide (x ∈ ys)) := by simp [cmpO, noDic, cmpD, in_lst]
/-- two pure data -/
theorem cmpO_eq {x y : D} (h : eqOk x y = true) : cmpO .eq x y = some (x.eqv y) := by
  have : noDic .eq y = true := by cases y <;> rfl
  simp [cmpO, this, cmpD, h]
theorem cmpO_ne {x y : D} (h : eqOk x y = true) : cmpO .ne x y = some (!x.eqv y) := by
  have : noDic .ne y = true := by cases y <;> rfl
  simp [cmpO, this, cmpD, h]
/-! ### texts in tuples -/
theorem pure_tS (xs : List Str) : (tS xs).pure = true := by simp [tS, D.pure, pureL_strs]
theorem dep_tS (xs : List Str) : (tS xs).dep = 1 := by simp [tS, D.dep, depL_strs]
@[simp] theorem eqv_tS (xs ys : List Str) : (tS xs).eqv (tS ys) = decide (xs = ys) := by simp [tS, D.eqv, eqvL_strs]
@[simp] theorem cmpO_eqT (xs ys : List Str) : cmpO .eq (tS xs) (tS ys) = some (decide (xs = ys)) := by rw [cmpO_eq (by simp [eqOk, pure_tS, dep_tS]), eqv_tS]
@[simp] theorem cmpO_neT (xs ys : List Str) : cmpO .ne (tS xs) (tS ys) = some (!decide (xs = ys)) := by rw [cmpO_ne (by simp [eqOk, pure_tS, dep_tS]), eqv_tS]
@[simp] theorem cmpO_inS (x : Str) (ys : List Str) : cmpO .inn (.str x) (tS ys) = some (decide (x ∈ ys)) := in_tup x ys
@[simp] theorem cmpO_ninS (x : Str) (ys : List Str) : cmpO .nin (.str x) (tS ys) = some (!decide (x ∈ ys)) := cmpO_ninT x ys
@[simp] theorem isNon_tS (b : List Str) : isNon (tS b) = false := rfl
/-! ### + - and their kin -/
@[simp] theorem bin_add (i j : Int) : binD .add (.int i) (.int j) = some (.int (i + j)) := rfl
@[simp] theorem bin_sub (i j : Int) : binD .sub (.int i) (.int j) = some (.int (i - j)) := rfl
@[simp] theorem bin_mul (i j : Int) (h1 : -(2 ^ 64) < j) (h2 : j < 2 ^ 64) : binD .mul (.int i) (.int j) = some (.int (i * j)) := by
  simp only [binD, intB]
  rw [if_pos (show CMul i j from .inr ⟨h1, h2⟩)]; rfl
theorem bin_mul' (i j : Int) (h1 : -(2 ^ 64) < i) (h2 : i < 2 ^ 64) : binD .mul (.int i) (.int j) = some (.int (i * j)) := by
  simp only [binD, intB]
  rw [if_pos (show CMul i j from .inl ⟨h1, h2⟩)]; rfl
@[simp] theorem bin_mod (i j : Int) (h1 : 0 < j) : binD .mod (.int i) (.int j) = some (.int (i % j)) := by
  simp only [binD, intB]
  rw [if_pos h1]; rfl
@[simp] theorem bin_fdiv (i j : Int) (h1 : 0 < j) (h2 : j < 1073741824) : binD .fdiv (.int i) (.int j) = some (.int (i / j)) := by
  simp only [binD, intB]
  rw [if_pos (show CDiv i j from ⟨h1, h2⟩)]; rfl
theorem bin_catS (x y : Str) (h : x.length + y.length ≤ 16777216) : binD .add (.str x) (.str y) = some (.str (x ++ y)) := by
  simp only [binD, sizeLine_eq]
  rw [if_pos h]
theorem bin_catL (x y : List D) (h : x.length + y.length ≤ 16777216) : binD .add (.lst x) (.lst y) = some (.lst (x ++ y)) := by
  simp only [binD, sizeLine_eq]
  rw [if_pos h]
theorem bin_catT (x y : List D) (h : x.length + y.length ≤ 16777216) : binD .add (.tup x) (.tup y) = some (.tup (x ++ y)) := by
  simp only [binD, sizeLine_eq]
  rw [if_pos h]
/-! ### built-in functions -/
@[simp] theorem bif_lenL (xs : List D) : bifD .len [.lst xs] = some (.int xs.length) := rfl
@[simp] theorem bif_lenT (xs : List D) : bifD .len [.tup xs] = some (.int xs.length) := rfl
@[simp] theorem bif_lenS (xs : List Str) : bifD .len [tS xs] = some (.int xs.length) := by simp [tS]
@[simp] theorem bif_lenC (xs : List Int) : bifD .len [.scr xs] = some (.int xs.length) := rfl
@[simp] theorem bif_abs (i : Int) : bifD .abs [.int i] = some (.int (if i < 0 then -i else i)) := rfl
@[simp] theorem bif_int (i : Int) : bifD .int [.int i] = some (.int i) := rfl
@[simp] theorem bif_intb (b : Bool) : bifD .int [.bl b] = some (.int (if b then 1 else 0)) := rfl
@[simp] theorem bif_lstL (xs : List D) : bifD .lst [.lst xs] = some (.lst xs) := rfl
@[simp] theorem bif_lstT (xs : List D) : bifD .lst [.tup xs] = some (.lst xs) := rfl
@[simp] theorem bif_lstS (xs : List Str) : bifD .lst [tS xs] = some (.lst (xs.map .str)) := rfl
@[simp] theorem bif_tupL (xs : List D) : bifD .tup [.lst xs] = some (.tup xs) := rfl
@[simp] theorem bif_tupT (xs : List D) : bifD .tup [.tup xs] = some (.tup xs) := rfl
@[simp] theorem bif_any {α : Type} (f : α → Bool) (xs : List α) : bifD .any [.lst (xs.map fun x => D.bl (f x))] = some (.bl (xs.any f)) := by
  have : (xs.map fun x => D.bl (f x)) = (xs.map f).map D.bl := by simp [List.map_map, Function.comp_def]
  rw [this, bools_any]; simp [List.any_map, Function.comp_def]
@[simp] theorem bif_all {α : Type} (f : α → Bool) (xs : List α) : bifD .all [.lst (xs.map fun x => D.bl (f x))] = some (.bl (xs.all f)) := by
  have : (xs.map fun x => D.bl (f x)) = (xs.map f).map D.bl := by simp [List.map_map, Function.comp_def]
  rw [this, bools_all]; simp [List.all_map, Function.comp_def]
/-! ### truth, places, what is walked -/
@[simp] theorem tru_b (b : Bool) : truD (.bl b) = some b := rfl
@[simp] theorem tru_i (i : Int) : truD (.int i) = some (i != 0) := rfl
@[simp] theorem tru_l (xs : List D) : truD (.lst xs) = some (!xs.isEmpty) := rfl
@[simp] theorem tru_t (xs : List D) : truD (.tup xs) = some (!xs.isEmpty) := rfl
@[simp] theorem idx_l (xs : List D) (i : Int) : idxD (.lst xs) (.int i) = atI xs i := rfl
@[simp] theorem idx_t (xs : List D) (i : Int) : idxD (.tup xs) (.int i) = atI xs i := rfl
@[simp] theorem idx_c (xs : List Int) (i : Int) : idxD (.scr xs) (.int i) = (atI xs i).map .int := rfl
@[simp] theorem slc_l (xs : List D) (i j : Option Int) : slcD (.lst xs) i j = some (.lst (cut xs i j)) := rfl
@[simp] theorem slc_t (xs : List D) (i j : Option Int) : slcD (.tup xs) i j = some (.tup (cut xs i j)) := rfl
@[simp] theorem slc_c (xs : List Int) (i j : Option Int) : slcD (.scr xs) i j = some (.lst ((cut xs i j).map .int)) := rfl
@[simp] theorem walk_l (xs : List D) : walkD (.lst xs) = some xs := rfl
@[simp] theorem walk_t (xs : List D) : walkD (.tup xs) = some xs := rfl
@[simp] theorem walk_S (xs : List Str) : walkD (tS xs) = some (xs.map .str) := rfl
@[simp] theorem blD_b (b : Bool) : blD (.bl b) = some b := rfl
@[simp] theorem flat_b (b : Bool) : flat (.bl b) = true := rfl
@[simp] theorem flat_i (b : Int) : flat (.int b) = true := rfl
@[simp] theorem flat_s (b : Str) : flat (.str b) = true := rfl
@[simp] theorem flat_n : flat .non = true := rfl
@[simp] theorem atI_0 {α : Type} (a : α) (xs : List α) : atI (a :: xs) 0 = some a := by simp [atI, ixN]
theorem atI_nat {α : Type} (xs : List α) (i : Nat) (h : i < xs.length) : atI xs (i : Int) = some xs[i] := by
  have : ixN xs.length (i : Int) = some i := by unfold ixN; rw [if_pos (by omega), if_pos (by omega)]; rfl
  simp [atI, this]
theorem atI_int {α : Type} (xs : List α) (i : Int) (h0 : 0 ≤ i) (h : i < xs.length) : atI xs i = some (xs[i.toNat]'(by omega)) := by
  obtain ⟨n, rfl⟩ := Int.eq_ofNat_of_zero_le h0
  exact atI_nat xs n (by omega)
theorem atI_last {α : Type} (xs : List α) (a : α) : atI (xs ++ [a]) (-1) = some a := by
  have h1 : ((-1 : Int) + ↑(xs ++ [a]).length).toNat = xs.length := by simp; omega
  have : ixN (xs ++ [a]).length (-1) = some xs.length := by
    unfold ixN
    rw [if_neg (by omega), if_pos (by simp; omega), h1]
  unfold atI
  rw [this]; simp
theorem ixN_nat {n i : Nat} (h : i < n) : ixN n (i : Int) = some i := by unfold ixN; rw [if_pos (by omega), if_pos (by omega)]; rfl
theorem ixN_int {n : Nat} {i : Int} (h0 : 0 ≤ i) (h : i < n) : ixN n i = some i.toNat := by unfold ixN; rw [if_pos h0, if_pos h]
theorem popO_int (xs : List D) (i : Int) (h0 : 0 ≤ i) (h : i < xs.length) : popO xs i = some (xs[i.toNat]'(by omega), xs.eraseIdx i.toNat) := by
  simp only [popO, ixN_int h0 h]
  rw [List.getElem?_eq_getElem (by omega)]
theorem atI_map {α β : Type} (f : α → β) (xs : List α) (i : Int) : atI (xs.map f) i = (atI xs i).map f := by
  simp only [atI, List.length_map]
  cases ixN xs.length i with
  | none => rfl
  | some n => simp
/-- range(n) -/
def nats (n : Nat) : List D := (List.range n).map fun (k : Nat) => D.int (k : Int)
theorem rngD_nat {n : Nat} (h : n ≤ 16777216) : rngD 0 (n : Int) = some (nats n) := by
  have e1 : small62 (n : Int) = true := by unfold small62; exact decide_eq_true ⟨by omega, by omega⟩
  have e2 : small62 0 = true := by decide
  have e3 : ((n : Int) - 0).toNat = n := by omega
  simp only [rngD, e1, e2, e3, Bool.and_self, Bool.true_and, sizeLine_eq]
  rw [if_pos (decide_eq_true h)]
  simp [upTo, nats]
theorem rngD_int {i : Int} (h : i ≤ 16777216) (h0 : 0 ≤ i) : rngD 0 i = some (nats i.toNat) := by
  obtain ⟨n, rfl⟩ := Int.eq_ofNat_of_zero_le h0
  rw [rngD_nat (by omega)]; simp
/-! ### loops -/
section
variable {con : Nat → Option D} {call : Nat → List DL.Slot → CRes} {wf : Nat} {br : Nat → Bool} {b : Ss} {j : Nat}
theorem forB_nil (keep : Option Nat) (g : Fm) : forB con call wf j keep br b [] g = .nx g := rfl
/-- what comes behind a turn -/
noncomputable def kTurn (con : Nat → Option D) (call : Nat → List DL.Slot → CRes) (wf j : Nat) (br : Nat → Bool) (b : Ss) (ds : List D) : Out → Out
  | .nx g => forB con call wf j none br b ds g
  | .ct g => forB con call wf j none br b ds g
  | .bk g => .nx g
  | o => o
theorem forB_cons (x : D) (xs : List D) (g : Fm) : forB con call wf j none br b (x :: xs) g = kTurn con call wf j br b xs (evSs con call wf b br (g.set j (.dat x))) := by
  simp only [forB, forD, brK_none]
  cases evSs con call wf b br (g.set j (.dat x)) with
  | nx g' => show (@ite Out _ (Classical.propDecidable _) _ _) = _; rw [if_pos (fun i h => nomatch h)]; simp only [kTurn, forB, brK_none]
  | ct g' => show (@ite Out _ (Classical.propDecidable _) _ _) = _; rw [if_pos (fun i h => nomatch h)]; simp only [kTurn, forB, brK_none]
  | bk g' => rfl
  | rt v g' => rfl
  | exc x g' => rfl
  | stuck => rfl
@[simp] theorem kTurn_nx (ds : List D) (g : Fm) : kTurn con call wf j br b ds (.nx g) = forB con call wf j none br b ds g := Eq.trans rfl rfl
@[simp] theorem kTurn_ct (ds : List D) (g : Fm) : kTurn con call wf j br b ds (.ct g) = forB con call wf j none br b ds g := Eq.trans rfl rfl
@[simp] theorem kTurn_bk (ds : List D) (g : Fm) : kTurn con call wf j br b ds (.bk g) = .nx g := Eq.trans rfl rfl
@[simp] theorem kTurn_rt (ds : List D) (v : RV) (g : Fm) : kTurn con call wf j br b ds (.rt v g) = .rt v g := Eq.trans rfl rfl
/-- several names for each turn -/
noncomputable def kTurnT (con : Nat → Option D) (call : Nat → List DL.Slot → CRes) (wf : Nat) (js : List Nat) (br : Nat → Bool) (b : Ss) (ds : List D) : Out → Out
  | .nx g => forT con call wf js none br b ds g
  | .ct g => forT con call wf js none br b ds g
  | .bk g => .nx g
  | o => o
@[simp] theorem forT_nil (js : List Nat) (keep : Option Nat) (g : Fm) : forT con call wf js keep br b [] g = .nx g := rfl
@[simp] theorem forT_cons (js : List Nat) (xs ds : List D) (g : Fm) : forT con call wf js none br b (.tup xs :: ds) g = kTurnT con call wf js br b ds (if xs.length = js.length then evSs con call wf b br (setAll g js xs) else .stuck) := by
  simp only [forT, forD, brK_none]
  cases (if xs.length = js.length then evSs con call wf b br (setAll g js xs) else .stuck) with
  | nx g' => show (@ite Out _ (Classical.propDecidable _) _ _) = _; rw [if_pos (fun i h => nomatch h)]; simp only [kTurnT, forT, brK_none]
  | ct g' => show (@ite Out _ (Classical.propDecidable _) _ _) = _; rw [if_pos (fun i h => nomatch h)]; simp only [kTurnT, forT, brK_none]
  | bk g' => rfl
  | rt v g' => rfl
  | exc x g' => rfl
  | stuck => rfl
@[simp] theorem kTurnT_nx (js : List Nat) (ds : List D) (g : Fm) : kTurnT con call wf js br b ds (.nx g) = forT con call wf js none br b ds g := rfl
@[simp] theorem kTurnT_ct (js : List Nat) (ds : List D) (g : Fm) : kTurnT con call wf js br b ds (.ct g) = forT con call wf js none br b ds g := rfl
@[simp] theorem kTurnT_bk (js : List Nat) (ds : List D) (g : Fm) : kTurnT con call wf js br b ds (.bk g) = .nx g := rfl
@[simp] theorem kTurnT_rt (js : List Nat) (ds : List D) (v : RV) (g : Fm) : kTurnT con call wf js br b ds (.rt v g) = .rt v g := rfl
/-- all turns go on: a fold -/
theorem for_fold {α σ : Type} {enc : α → D} (fr : σ → DL.Slot → Fm) (f : σ → α → σ) (P : List α → σ → Prop) (hset : ∀ s sl v, (fr s sl).set j v = fr s v)
    (hs : ∀ x xs s, P (x :: xs) s → (evSs con call wf b br (fr s (.dat (enc x))) = .nx (fr (f s x) (.dat (enc x))) ∨ evSs con call wf b br (fr s (.dat (enc x))) = .ct (fr (f s x) (.dat (enc x)))) ∧ P xs (f s x)) :
    ∀ (xs : List α) (s : σ) (sl : DL.Slot), P xs s → ∃ sl', forB con call wf j none br b (xs.map enc) (fr s sl) = .nx (fr (xs.foldl f s) sl') ∧ P [] (xs.foldl f s) ∧ (sl' = sl ∨ ∃ d, sl' = .dat d)
  | [], s, sl, h => ⟨sl, rfl, h, .inl rfl⟩
  | x :: xs, s, sl, h => by
    obtain ⟨e, p⟩ := hs x xs s h
    obtain ⟨sl', e', p', q'⟩ := for_fold fr f P hset hs xs (f s x) (.dat (enc x)) p
    refine ⟨sl', ?_, p', .inr (q'.elim (fun e => ⟨_, e⟩) id)⟩
    rw [List.map_cons, forB_cons, hset]
    rcases e with e | e <;> rw [e] <;> exact e'
/-- the first turn of some kind returns -/
theorem for_find {α : Type} {enc : α → D} (fr : DL.Slot → Fm) (p : α → Bool) (r : α → RV) (gr : α → Fm) (hset : ∀ sl v, (fr sl).set j v = fr v) :
    ∀ (xs : List α) (sl : DL.Slot), (∀ x ∈ xs, evSs con call wf b br (fr (.dat (enc x))) = if p x then .rt (r x) (gr x) else .nx (fr (.dat (enc x)))) →
    ∃ sl', forB con call wf j none br b (xs.map enc) (fr sl) = match xs.find? p with
      | some x => .rt (r x) (gr x)
      | none => .nx (fr sl')
  | [], sl, _ => ⟨sl, rfl⟩
  | x :: xs, sl, h => by
    obtain ⟨sl', e⟩ := for_find fr p r gr hset xs (.dat (enc x)) fun y hy => h y (List.mem_cons_of_mem _ hy)
    refine ⟨sl', ?_⟩
    rw [List.map_cons, forB_cons, hset, h x List.mem_cons_self]
    cases q : p x with
    | true => simp [q]
    | false => simp [q, e]
/-- the first turn of some kind returns; of the frames only this is known -/
theorem for_findP {α : Type} {enc : α → D} (F B : Fm → Prop) (p : α → Bool) (r : α → RV) :
    ∀ (xs : List α) (g : Fm), F g → (∀ x ∈ xs, ∀ g, F g → (p x = true → ∃ g', evSs con call wf b br (g.set j (.dat (enc x))) = .rt (r x) g' ∧ B g') ∧ (p x = false → ∃ g', evSs con call wf b br (g.set j (.dat (enc x))) = .nx g' ∧ F g')) →
    (∀ x, xs.find? p = some x → ∃ g', forB con call wf j none br b (xs.map enc) g = .rt (r x) g' ∧ B g') ∧ (xs.find? p = none → ∃ g', forB con call wf j none br b (xs.map enc) g = .nx g' ∧ F g')
  | [], g, f, _ => by
    refine ⟨fun x h => ?_, fun _ => ⟨g, forB_nil none g, f⟩⟩
    cases h
  | x :: xs, g, f, h => by
    have h1 := h x List.mem_cons_self g f
    rw [List.map_cons, forB_cons]
    cases q : p x with
    | true =>
      obtain ⟨g', e, b⟩ := h1.1 q
      rw [e]
      refine ⟨fun y hy => ?_, fun hy => ?_⟩
      · simp [q] at hy; subst hy; exact ⟨g', rfl, b⟩
      · simp [q] at hy
    | false =>
      obtain ⟨g', e, f'⟩ := h1.2 q
      have ih := for_findP F B p r xs g' f' fun y hy => h y (List.mem_cons_of_mem _ hy)
      rw [e]
      simp only [List.find?_cons, q]
      exact ih
/-- with an invariant; ct and nx alike -/
theorem for_inv {α : Type} {enc : α → D} (I : List α → Fm → Prop) (hs : ∀ x xs g, I (x :: xs) g → ∃ g', (evSs con call wf b br (g.set j (.dat (enc x))) = .nx g' ∨ evSs con call wf b br (g.set j (.dat (enc x))) = .ct g') ∧ I xs g') :
    ∀ (xs : List α) (g : Fm), I xs g → ∃ g', forB con call wf j none br b (xs.map enc) g = .nx g' ∧ I [] g'
  | [], g, h => ⟨g, rfl, h⟩
  | x :: xs, g, h => by
    obtain ⟨g', e, p⟩ := hs x xs g h
    obtain ⟨g'', e', p'⟩ := for_inv I hs xs g' p
    refine ⟨g'', ?_, p'⟩
    rw [List.map_cons, forB_cons]
    rcases e with e | e <;> rw [e] <;> exact e'
/-- with a break -/
theorem for_brk {α : Type} {enc : α → D} (I : List α → Fm → Prop) (N : Fm → Prop) (hn : ∀ g, I [] g → N g) (hs : ∀ x xs g, I (x :: xs) g → ∃ g', ((evSs con call wf b br (g.set j (.dat (enc x))) = .nx g' ∨ evSs con call wf b br (g.set j (.dat (enc x))) = .ct g') ∧ I xs g') ∨ evSs con call wf b br (g.set j (.dat (enc x))) = .bk g' ∧ N g') :
    ∀ (xs : List α) (g : Fm), I xs g → ∃ g', forB con call wf j none br b (xs.map enc) g = .nx g' ∧ N g'
  | [], g, h => ⟨g, rfl, hn g h⟩
  | x :: xs, g, h => by
    obtain ⟨g', z⟩ := hs x xs g h
    rcases z with ⟨e, p⟩ | ⟨e, p⟩
    · obtain ⟨g'', e', p'⟩ := for_brk I N hn hs xs g' p
      refine ⟨g'', ?_, p'⟩
      rw [List.map_cons, forB_cons]
      rcases e with e | e <;> rw [e] <;> exact e'
    · exact ⟨g', by rw [List.map_cons, forB_cons, e]; rfl, p⟩
end
theorem forT_inv {α : Type} {enc : α → List D} {con : Nat → Option D} {call : Nat → List DL.Slot → CRes} {wf : Nat} {br : Nat → Bool} {b : Ss} {js : List Nat} {keep : Option Nat} (I : List α → Fm → Prop)
    (hs : ∀ x xs g, I (x :: xs) g → (enc x).length = js.length ∧ ∃ g', evSs con call wf b (brK br keep) (setAll g js (enc x)) = .nx g' ∧ (∀ i, keep = some i → g'[i]? = g[i]?) ∧ I xs g') :
    ∀ (xs : List α) (g : Fm), I xs g → ∃ g', forT con call wf js keep br b (xs.map fun x => .tup (enc x)) g = .nx g' ∧ I [] g'
  | [], g, h => ⟨g, rfl, h⟩
  | x :: xs, g, h => by
    obtain ⟨hl, g', e, k, p⟩ := hs x xs g h
    obtain ⟨g'', e', p'⟩ := forT_inv I hs xs g' p
    refine ⟨g'', ?_, p'⟩
    simp only [forT, List.map_cons, forD] at e' ⊢
    rw [if_pos hl, e]
    show (@ite Out _ (Classical.propDecidable _) _ _) = _
    rw [if_pos k]
    exact e'
@[simp] theorem brK_s (br : Nat → Bool) (k i : Nat) : brK br (some k) i = (br i || decide (k = i)) := by simp [brK]
/-! ### comprehensions over encoded lists -/
theorem lc_fx {α : Type} {enc : α → D} {con : Nat → Option D} {call : Nat → List DL.Slot → CRes} {j : Nat} {it : It'} {c : Te} {e : E} {g0 g : Fm} {s : DL.Slot} {xs : List α} (p : α → Bool) (v : α → D) (hi : evI con call it g0 = .ok (xs.map enc) g) (hk : it.keep ≠ some j) (hs : g[j]? = some s) (hn : ∀ o, s ≠ .own o)
    (hp : ∀ x ∈ xs, evT con call c (g.set j (.dat (enc x))) = .ok (p x) (g.set j (.dat (enc x)))) (hv : ∀ x ∈ xs, p x = true → evE con call e (g.set j (.dat (enc x))) = .ok (v x) (g.set j (.dat (enc x)))) : evE con call (.lc j it c e) g0 = .ok (.lst ((xs.filter p).map v)) g := by
  have hj : j < g.length := (List.getElem?_eq_some_iff.mp hs).1
  have hg : (g.set j .un).set j s = g := by
    rw [List.set_set]
    have z := (List.getElem?_eq_some_iff.mp hs).2
    rw [← z, List.set_getElem_self]
  simp only [evE, hi, bind_ok]
  rw [if_neg hk, hs]
  have st : ∀ (ys : List α), (∀ y ∈ ys, y ∈ xs) → lcD (fun x h => keepR it.keep h ((evT con call c (h.set j (.dat x))).bind fun b h1 => if b then (evE con call e h1).bind fun y h2 => .ok (some y) (h2.set j .un) else .ok none (h1.set j .un))) (ys.map enc) (g.set j .un) = .ok ((ys.filter p).map v) (g.set j .un) := by
    intro ys
    induction ys with
    | nil => intro _; rfl
    | cons y ys ih =>
      intro m
      have h1 := hp y (m y List.mem_cons_self)
      have h2 := hv y (m y List.mem_cons_self)
      simp only [List.map_cons, lcD, List.set_set, h1, bind_ok]
      have ih := ih fun z hz => m z (List.mem_cons_of_mem _ hz)
      cases q : p y with
      | true =>
        rw [if_pos rfl, h2 q]
        simp only [bind_ok, List.set_set]
        rw [keepR_ok fun _ _ => rfl, bind_ok, ih]
        simp [q]
        rfl
      | false =>
        rw [if_neg (by simp), keepR_ok fun _ _ => rfl, bind_ok, ih]
        simp [q]
        rfl
  have fin := st xs fun _ h => h
  cases s with
  | own o => exact absurd rfl (hn o)
  | un =>
    show (noExc (lcD _ (xs.map enc) (g.set j .un))).bind _ = _
    rw [fin]
    simp only [noExc, bind_ok]
    rw [hg]
  | dat d =>
    show (noExc (lcD _ (xs.map enc) (g.set j .un))).bind _ = _
    rw [fin]
    simp only [noExc, bind_ok]
    rw [hg]
/-- with turns that change the frame -/
theorem lc_sty {α β : Type} {enc : α → D} {enc' : β → D} {con : Nat → Option D} {call : Nat → List DL.Slot → CRes} {j : Nat} {it : It'} {e : E} {g : Fm} {xs : List α} {s : DL.Slot} (I : Fm → Prop) (R : α → β → Prop) (hi : evI con call it g = .ok (xs.map enc) g) (hk : it.keep = none) (hs : g[j]? = some s) (hn : ∀ o, s ≠ .own o) (h0 : I (g.set j .un))
    (hv : ∀ x ∈ xs, ∀ h, I h → ∃ y h', evE con call e (h.set j (.dat (enc x))) = .ok (enc' y) h' ∧ I (h'.set j .un) ∧ R x y) : ∃ ys h, evE con call (.lc j it (.is (.cst (.bl true))) e) g = .ok (.lst (ys.map enc')) (h.set j s) ∧ I h ∧ Paired R xs ys := by
  have key : ∀ (zs : List α) (h : Fm), (∀ x ∈ zs, x ∈ xs) → I h → ∃ ys h', lcD (fun x h => keepR it.keep h ((evT con call (.is (.cst (.bl true))) (h.set j (.dat x))).bind fun b h1 => if b then (evE con call e h1).bind fun y h2 => .ok (some y) (h2.set j .un) else .ok none (h1.set j .un))) (zs.map enc) h = .ok (ys.map enc') h' ∧ I h' ∧ Paired R zs ys := by
    intro zs
    induction zs with
    | nil => intro h _ k; exact ⟨[], _, rfl, k, .nil⟩
    | cons x zs ih =>
      intro h m k
      obtain ⟨y, h', e1, k', r⟩ := hv x (m x List.mem_cons_self) h k
      obtain ⟨ys, h'', e2, k'', r'⟩ := ih _ (fun z hz => m z (List.mem_cons_of_mem _ hz)) k'
      refine ⟨y :: ys, h'', ?_, k'', .cons r r'⟩
      have ht : evT con call (.is (.cst (.bl true))) (h.set j (.dat (enc x))) = .ok true (h.set j (.dat (enc x))) := rfl
      simp only [List.map_cons, lcD, ht, bind_ok, if_true, e1, hk, keepR_none]
      rw [hk] at e2
      simp only [keepR_none] at e2
      rw [e2]
      rfl
  obtain ⟨ys, h', e1, k, r⟩ := key xs _ (fun _ h => h) h0
  refine ⟨ys, h', ?_, k, r⟩
  simp only [evE, hi, bind_ok]
  rw [if_neg (by rw [hk]; exact fun z => nomatch z), hs]
  cases s with
  | own o => exact absurd rfl (hn o)
  | un =>
    show (noExc (lcD _ (xs.map enc) (g.set j .un))).bind _ = _
    rw [e1]; rfl
  | dat d =>
    show (noExc (lcD _ (xs.map enc) (g.set j .un))).bind _ = _
    rw [e1]; rfl
theorem lc_mx {α : Type} {enc : α → D} {con : Nat → Option D} {call : Nat → List DL.Slot → CRes} {j : Nat} {it : It'} {e : E} {g0 g : Fm} {s : DL.Slot} {xs : List α} (v : α → D) (hi : evI con call it g0 = .ok (xs.map enc) g) (hk : it.keep ≠ some j) (hs : g[j]? = some s) (hn : ∀ o, s ≠ .own o)
    (hv : ∀ x ∈ xs, evE con call e (g.set j (.dat (enc x))) = .ok (v x) (g.set j (.dat (enc x)))) : evE con call (.lc j it (.is (.cst (.bl true))) e) g0 = .ok (.lst (xs.map v)) g := by
  rw [lc_fx (fun _ => true) v hi hk hs hn (fun x hx => rfl) fun x hx _ => hv x hx]
  rw [List.filter_eq_self.mpr fun _ _ => rfl]
theorem lc_fm {α : Type} {enc : α → D} {con : Nat → Option D} {call : Nat → List DL.Slot → CRes} {j : Nat} {it : It'} {c : Te} {e : E} {g : Fm} {s : DL.Slot} {xs : List α} (p : α → Bool) (v : α → D) (hi : evI con call it g = .ok (xs.map enc) g) (hk : it.keep ≠ some j) (hs : g[j]? = some s) (hn : ∀ o, s ≠ .own o)
    (hp : ∀ x ∈ xs, evT con call c (g.set j (.dat (enc x))) = .ok (p x) (g.set j (.dat (enc x)))) (hv : ∀ x ∈ xs, p x = true → evE con call e (g.set j (.dat (enc x))) = .ok (v x) (g.set j (.dat (enc x)))) : evE con call (.lc j it c e) g = .ok (.lst ((xs.filter p).map v)) g := lc_fx p v hi hk hs hn hp hv
theorem lc_m {α : Type} {enc : α → D} {con : Nat → Option D} {call : Nat → List DL.Slot → CRes} {j : Nat} {it : It'} {e : E} {g : Fm} {s : DL.Slot} {xs : List α} (v : α → D) (hi : evI con call it g = .ok (xs.map enc) g) (hk : it.keep ≠ some j) (hs : g[j]? = some s) (hn : ∀ o, s ≠ .own o)
    (hv : ∀ x ∈ xs, evE con call e (g.set j (.dat (enc x))) = .ok (v x) (g.set j (.dat (enc x)))) : evE con call (.lc j it (.is (.cst (.bl true))) e) g = .ok (.lst (xs.map v)) g := lc_mx v hi hk hs hn hv
end DL

set_option Elab.async false
set_option linter.all false
set_option autoImplicit false
set_option maxRecDepth 100000
set_option maxHeartbeats 4000000
/-! the terms of the defs; printed by gen.py -/
namespace GL
open PySem DL L2
/-- number 0 -/
def b_lot_of : Ss :=
    .cons (.ret (.bif .tup (.cons (.srt .set (.var 0)) (.nil)))) (
    .nil)
def f_lot_of : Fd := { np := 1, nl := 0, br := [false], body := b_lot_of }
/-- number 1 -/
def l_within_1 : Ss :=
    .cons (.ifs (.cmp .nin (.var 2) (.var 1)) (.cons (.ret (.cst (.bl false))) (
    .nil)) (.nil)) (
    .nil)
def b_within : Ss :=
    .cons (.fors 2 (.dat (.var 0)) (l_within_1)) (
    .cons (.ret (.cst (.bl true))) (
    .nil))
def f_within : Fd := { np := 2, nl := 1, br := [false, false], body := b_within }
/-- number 2 -/
def l_lots_by_order_2 : Ss :=
    .cons (.asg 1 (.bin .add (.var 1) (.lc 3 (.dat (.var 1)) (.is (.cst (.bl true))) (.bin .add (.var 3) (.tup (.cons (.var 2) (.nil))))))) (
    .nil)
def b_lots_by_order : Ss :=
    .cons (.asg 1 (.lst (.cons (.tup (.nil)) (.nil)))) (
    .cons (.fors 2 (.dat (.call 0 (.val (.var 0) (.nil)))) (l_lots_by_order_2)) (
    .cons (.ret (.srl (.tup (.cons (.bif .len (.cons (.var 0) (.nil))) (.cons (.var 0) (.nil)))) (.var 1))) (
    .nil)))
def f_lots_by_order : Fd := { np := 1, nl := 3, br := [false], body := b_lots_by_order }
/-- number 3 -/
def b_meets_all : Ss :=
    .cons (.ret (.bif .all (.cons (.lc 2 (.dat (.var 1)) (.is (.cst (.bl true))) (.bif .any (.cons (.lc 3 (.dat (.var 2)) (.is (.cst (.bl true))) (.cmp .inn (.var 3) (.var 0))) (.nil)))) (.nil)))) (
    .nil)
def f_meets_all : Fd := { np := 2, nl := 2, br := [false, false], body := b_meets_all }
/-- number 4 -/
def b_holds_one : Ss :=
    .cons (.ret (.bif .any (.cons (.lc 2 (.dat (.var 1)) (.is (.cst (.bl true))) (.call 1 (.val (.var 2) (.val (.var 0) (.nil))))) (.nil)))) (
    .nil)
def f_holds_one : Fd := { np := 2, nl := 1, br := [false, false], body := b_holds_one }
/-- number 5 -/
def l_first_doubled_1 : Ss :=
    .cons (.ifs (.tru (.call 4 (.val (.idx (.var 0) (.var 1)) (.val (.bin .add (.slc (.var 0) (.no) (.at (.var 1))) (.slc (.var 0) (.at (.bin .add (.var 1) (.cst (.int 1)))) (.no))) (.nil))))) (.cons (.ret (.idx (.var 0) (.var 1))) (
    .nil)) (.nil)) (
    .nil)
def b_first_doubled : Ss :=
    .cons (.fors 1 (.rng1 (.bif .len (.cons (.var 0) (.nil)))) (l_first_doubled_1)) (
    .cons (.ret (.cst .non)) (
    .nil))
def f_first_doubled : Fd := { np := 1, nl := 1, br := [false], body := b_first_doubled }
/-- number 6 -/
def l_judge_lists_3 : Ss :=
    .cons (.asg 6 (.call 5 (.val (.var 5) (.nil)))) (
    .cons (.ifs (.cmp .isn (.var 6) (.cst .non)) (.cons (.ret (.tup (.cons (.cst (.str "not least")) (.cons (.var 6) (.nil))))) (
    .nil)) (.nil)) (
    .nil))
def l_judge_lists_7 : Ss :=
    .cons (.ifs (.nt (.tru (.call 3 (.val (.var 6) (.val (.var 4) (.nil)))))) (.cons (.ret (.tup (.cons (.cst (.str "apart")) (.cons (.var 6) (.nil))))) (
    .nil)) (.nil)) (
    .nil)
def l_judge_lists_10 : Ss :=
    .cons (.ifs (.bop true (.cons (.tru (.call 3 (.val (.var 6) (.val (.var 3) (.nil))))) (.one (.nt (.tru (.call 4 (.val (.var 6) (.val (.var 4) (.nil))))))))) (.cons (.ret (.tup (.cons (.cst (.str "without")) (.cons (.var 6) (.nil))))) (
    .nil)) (.nil)) (
    .cons (.ifs (.bop true (.cons (.tru (.call 3 (.val (.var 6) (.val (.var 4) (.nil))))) (.one (.nt (.tru (.call 4 (.val (.var 6) (.val (.var 3) (.nil))))))))) (.cons (.ret (.tup (.cons (.cst (.str "without")) (.cons (.var 6) (.nil))))) (
    .nil)) (.nil)) (
    .nil))
def b_judge_lists : Ss :=
    .cons (.asg 3 (.lc 6 (.dat (.var 1)) (.is (.cst (.bl true))) (.call 0 (.val (.var 6) (.nil))))) (
    .cons (.asg 4 (.lc 6 (.dat (.var 2)) (.is (.cst (.bl true))) (.call 0 (.val (.var 6) (.nil))))) (
    .cons (.fors 5 (.dat (.tup (.cons (.var 3) (.cons (.var 4) (.nil))))) (l_judge_lists_3)) (
    .cons (.fors 6 (.dat (.var 3)) (l_judge_lists_7)) (
    .cons (.fors 6 (.dat (.call 2 (.val (.var 0) (.nil)))) (l_judge_lists_10)) (
    .cons (.ret (.cst .non)) (
    .nil))))))
def f_judge_lists : Fd := { np := 3, nl := 4, br := [false, false, false], body := b_judge_lists }
/-- number 7 -/
def l_law_source_2 : Ss :=
    .cons (.asg 2 (.bin .mod (.bin .add (.bin .add (.bin .add (.bin .mul (.var 2) (.cst (.int 48271))) (.bin .mul (.bin .mod (.bif .abs (.cons (.bif .int (.cons (.var 3) (.nil))) (.nil))) (.cst (.int 998244353))) (.cst (.int 2)))) (.bif .int (.cons (.cmp .lt (.var 3) (.cst (.int 0))) (.nil)))) (.cst (.int 29))) (.cst (.int 2147483647)))) (
    .nil)
def b_law_source : Ss :=
    .cons (.asg 2 (.bin .add (.cst (.int 2003)) (.bin .mul (.var 1) (.cst (.int 6007))))) (
    .cons (.fors 3 (.dat (.slc (.var 0) (.no) (.at (.cst (.int 63))))) (l_law_source_2)) (
    .cons (.asg 3 (.ife (.cmp .lt (.var 1) (.bif .len (.cons (.var 0) (.nil)))) (.bif .abs (.cons (.bif .int (.cons (.idx (.var 0) (.var 1)) (.nil))) (.nil))) (.cst (.int 0)))) (
    .cons (.asg 4 (.ife (.cmp .ge (.var 3) (.bin .pow (.cst (.int 10)) (.cst (.int 18)))) (.var 3) (.cst (.int 0)))) (
    .cons (.retF (.lst (.cons (.var 4) (.cons (.var 2) (.cons (.bin .mod (.bin .add (.bin .add (.bin .mul (.var 2) (.cst (.int 69621))) (.bin .mod (.var 3) (.cst (.int 1000003)))) (.cst (.int 5))) (.cst (.int 2147483629))) (.cons (.cst (.int 0)) (.nil))))))) (
    .nil)))))
def f_law_source : Fd := { np := 2, nl := 3, br := [false, false], body := b_law_source }
/-- number 8 -/
def b_law_pick : Ss :=
    .cons (.ifs (.cmp .le (.var 1) (.cst (.int 1))) (.cons (.ret (.cst (.int 0))) (
    .nil)) (.nil)) (
    .cons (.ifs (.cmp .gt (.oix 0 (.cst (.int 0))) (.cst (.int 0))) (.cons (.asg 2 (.bin .mod (.bif .int (.cons (.oix 0 (.cst (.int 0))) (.nil))) (.var 1))) (
    .cons (.setI 0 (.cst (.int 0)) (.bin .fdiv (.bif .int (.cons (.oix 0 (.cst (.int 0))) (.nil))) (.var 1))) (
    .cons (.ret (.var 2)) (
    .nil)))) (.nil)) (
    .cons (.setI 0 (.cst (.int 3)) (.bin .add (.oix 0 (.cst (.int 3))) (.cst (.int 1)))) (
    .cons (.setI 0 (.cst (.int 1)) (.bin .mod (.bin .add (.bin .add (.bin .mul (.oix 0 (.cst (.int 1))) (.cst (.int 48271))) (.bin .mul (.oix 0 (.cst (.int 3))) (.cst (.int 7919)))) (.cst (.int 11))) (.cst (.int 2147483647)))) (
    .cons (.setI 0 (.cst (.int 2)) (.bin .mod (.bin .add (.bin .add (.bin .mul (.oix 0 (.cst (.int 2))) (.cst (.int 69621))) (.bin .mod (.oix 0 (.cst (.int 1))) (.cst (.int 65521)))) (.oix 0 (.cst (.int 3)))) (.cst (.int 2147483629)))) (
    .cons (.ret (.bin .mod (.bin .add (.bin .fdiv (.oix 0 (.cst (.int 1))) (.cst (.int 8))) (.bin .fdiv (.oix 0 (.cst (.int 2))) (.cst (.int 16)))) (.var 1))) (
    .nil))))))
def f_law_pick : Fd := { np := 2, nl := 1, br := [true, false], body := b_law_pick }
/-- number 9 -/
def l_law_shuffled_3 : Ss :=
    .cons (.app 3 (.pop 2 (.call 8 (.ref 0 (.val (.brw [2] (.bif .len (.cons (.var 2) (.nil)))) (.nil)))))) (
    .nil)
def b_law_shuffled : Ss :=
    .cons (.asgO 2 (.bif .lst (.cons (.var 1) (.nil)))) (
    .cons (.asgO 3 (.lst (.nil))) (
    .cons (.fors 4 (.rng1 (.brw [2] (.bif .len (.cons (.var 2) (.nil))))) (l_law_shuffled_3)) (
    .cons (.retO 3) (
    .nil))))
def f_law_shuffled : Fd := { np := 2, nl := 3, br := [true, false], body := b_law_shuffled }
/-- number 10 -/
def b_law_keywords : Ss :=
    .cons (.asg 0 (.cst (.str "process shelf page device letter slot use words turn looks restart of in by as at from grace kept more and or free top"))) (
    .cons (.asg 0 (.bin .add (.var 0) (.cst (.str " let bar put see say wait until stop if else while end to beat start crashes mod yes no row link keep crash claim")))) (
    .cons (.ret (.met .split (.bin .add (.var 0) (.cst (.str " set way early own word"))) (.cst (.str " ")))) (
    .nil)))
def f_law_keywords : Fd := { np := 0, nl := 1, br := [], body := b_law_keywords }
/-- number 11 -/
def l_law_names_9 : Ss :=
    .cons (.asg 9 (.bin .add (.var 9) (.idx (.var 3) (.call 8 (.ref 0 (.val (.cst (.int 36)) (.nil))))))) (
    .nil)
def l_law_names_11 : Ss :=
    .cons (.ifs (.bop true (.cons (.cmp .nin (.var 9) (.var 5)) (.one (.brw [4] (.cmp .nin (.var 9) (.var 4)))))) (.cons (.brk) (
    .nil)) (.nil)) (
    .cons (.asg 9 (.bin .add (.bin .add (.bin .add (.cst (.str "z")) (.bif .str (.cons (.var 10) (.nil)))) (.cst (.str "x"))) (.bif .str (.cons (.var 8) (.nil))))) (
    .nil))
def l_law_names_7 : Ss :=
    .cons (.asg 9 (.ife (.tru (.var 6)) (.var 7) (.idx (.var 2) (.call 8 (.ref 0 (.val (.cst (.int 26)) (.nil))))))) (
    .cons (.fors 10 (.rng1 (.ife (.tru (.var 6)) (.cst (.int 1)) (.ife (.cmp .eq (.call 8 (.ref 0 (.val (.cst (.int 5)) (.nil)))) (.cst (.int 0))) (.call 8 (.ref 0 (.val (.cst (.int 12)) (.nil)))) (.call 8 (.ref 0 (.val (.cst (.int 3)) (.nil))))))) (l_law_names_9)) (
    .cons (.fors 10 (.rng1 (.bin .add (.var 1) (.cst (.int 40)))) (l_law_names_11)) (
    .cons (.app 4 (.var 9)) (
    .nil))))
def b_law_names : Ss :=
    .cons (.asg 2 (.cst (.str "abcdefghijklmnopqrstuvwxyz"))) (
    .cons (.asg 3 (.bin .add (.var 2) (.cst (.str "0123456789")))) (
    .cons (.asgO 4 (.lst (.nil))) (
    .cons (.asg 5 (.call 10 (.nil))) (
    .cons (.asg 6 (.cmp .eq (.call 8 (.ref 0 (.val (.cst (.int 3)) (.nil)))) (.cst (.int 0)))) (
    .cons (.asg 7 (.bin .add (.idx (.var 2) (.call 8 (.ref 0 (.val (.cst (.int 26)) (.nil))))) (.idx (.var 3) (.call 8 (.ref 0 (.val (.cst (.int 36)) (.nil))))))) (
    .cons (.fors 8 (.rng1 (.var 1)) (l_law_names_7)) (
    .cons (.retO 4) (
    .nil))))))))
def f_law_names : Fd := { np := 2, nl := 9, br := [true, false], body := b_law_names }
/-- number 12 -/
def b_law_same : Ss :=
    .cons (.ifs (.tru (.isi (.var 1) [.tup, .lst])) (.cons (.ifs (.bop false (.cons (.nt (.tru (.isi (.var 0) [.tup, .lst]))) (.cons (.cmp .ne (.isi (.var 0) [.lst]) (.isi (.var 1) [.lst])) (.one (.cmp .ne (.bif .len (.cons (.var 0) (.nil))) (.bif .len (.cons (.var 1) (.nil)))))))) (.cons (.ret (.cst (.bl false))) (
    .nil)) (.nil)) (
    .cons (.ret (.bif .all (.cons (.lc 3 (.rng1 (.bif .len (.cons (.var 1) (.nil)))) (.is (.cst (.bl true))) (.call 12 (.val (.idx (.var 0) (.var 3)) (.val (.idx (.var 1) (.var 3)) (.nil))))) (.nil)))) (
    .nil))) (.nil)) (
    .cons (.ifs (.tru (.isi (.var 1) [.dic])) (.cons (.ret (.bop true (.cons (.isi (.var 0) [.dic]) (.cons (.cmp .eq (.bif .len (.cons (.var 0) (.nil))) (.bif .len (.cons (.var 1) (.nil)))) (.cons (.bif .all (.cons (.lc 4 (.dat (.var 1)) (.is (.cst (.bl true))) (.bop true (.cons (.cmp .inn (.var 4) (.var 0)) (.cons (.call 12 (.val (.idx (.var 0) (.var 4)) (.val (.idx (.var 1) (.var 4)) (.nil)))) (.nil))))) (.nil))) (.nil)))))) (
    .nil)) (.nil)) (
    .cons (.ifs (.bop false (.cons (.cmp .is (.var 1) (.cst .non)) (.one (.cmp .is (.var 0) (.cst .non))))) (.cons (.ret (.bop true (.cons (.cmp .is (.var 1) (.cst .non)) (.cons (.cmp .is (.var 0) (.cst .non)) (.nil))))) (
    .nil)) (.nil)) (
    .cons (.asg 2 (.bop true (.cons (.cmp .eq (.isi (.var 0) [.bl]) (.isi (.var 1) [.bl])) (.cons (.cmp .eq (.isi (.var 0) [.int]) (.isi (.var 1) [.int])) (.nil))))) (
    .cons (.ret (.bop true (.cons (.var 2) (.cons (.cmp .eq (.isi (.var 0) [.str]) (.isi (.var 1) [.str])) (.cons (.cmp .eq (.var 0) (.var 1)) (.nil)))))) (
    .nil)))))
def f_law_same : Fd := { np := 2, nl := 3, br := [false, false], body := b_law_same }
/-- number 13 -/
def l_law_lot_sorted_2 : Ss :=
    .cons (.ifs (.bop false (.cons (.brw [1] (.cmp .eq (.bif .len (.cons (.var 1) (.nil))) (.cst (.int 0)))) (.one (.cmp .ne (.oix 1 (.cst (.int (-1)))) (.var 2))))) (.cons (.app 1 (.var 2)) (
    .nil)) (.nil)) (
    .nil)
def b_law_lot_sorted : Ss :=
    .cons (.asgO 1 (.lst (.nil))) (
    .cons (.fors 2 (.dat (.srl (.tup (.cons (.bif .len (.cons (.var 0) (.nil))) (.cons (.var 0) (.nil)))) (.var 0))) (l_law_lot_sorted_2)) (
    .cons (.retO 1) (
    .nil)))
def f_law_lot_sorted : Fd := { np := 1, nl := 2, br := [false], body := b_law_lot_sorted }
/-- number 14 -/
def l_law_blockers_2 : Ss :=
    .cons (.asg 2 (.bin .add (.var 2) (.lc 5 (.dat (.var 2)) (.is (.cst (.bl true))) (.bin .add (.var 5) (.tup (.cons (.var 3) (.nil))))))) (
    .nil)
def l_law_blockers_5 : Ss :=
    .cons (.ifs (.tru (.bif .any (.cons (.lc 6 (.own 4) (.is (.cst (.bl true))) (.bif .all (.cons (.lc 3 (.dat (.var 6)) (.is (.cst (.bl true))) (.cmp .inn (.var 3) (.var 5))) (.nil)))) (.nil)))) (.cons (.cnt) (
    .nil)) (.nil)) (
    .cons (.ifs (.tru (.bif .all (.cons (.lc 6 (.dat (.var 1)) (.is (.cst (.bl true))) (.bif .any (.cons (.lc 3 (.dat (.var 6)) (.is (.cst (.bl true))) (.cmp .inn (.var 3) (.var 5))) (.nil)))) (.nil)))) (.cons (.app 4 (.var 5)) (
    .nil)) (.nil)) (
    .nil))
def b_law_blockers : Ss :=
    .cons (.asg 2 (.lst (.cons (.tup (.nil)) (.nil)))) (
    .cons (.fors 3 (.dat (.srt .plain (.var 0))) (l_law_blockers_2)) (
    .cons (.asgO 4 (.lst (.nil))) (
    .cons (.fors 5 (.dat (.srl (.tup (.cons (.bif .len (.cons (.var 0) (.nil))) (.cons (.var 0) (.nil)))) (.var 2))) (l_law_blockers_5)) (
    .cons (.retO 4) (
    .nil)))))
def f_law_blockers : Fd := { np := 2, nl := 5, br := [false, false], body := b_law_blockers }
/-- number 15 -/
def l_law_e_lots_2 : Ss :=
    .cons (.asg 1 (.bin .add (.var 1) (.lc 3 (.dat (.var 1)) (.is (.cst (.bl true))) (.bin .add (.var 3) (.tup (.cons (.var 2) (.nil))))))) (
    .nil)
def b_law_e_lots : Ss :=
    .cons (.asg 1 (.lst (.cons (.tup (.nil)) (.nil)))) (
    .cons (.fors 2 (.dat (.var 0)) (l_law_e_lots_2)) (
    .cons (.ret (.var 1)) (
    .nil)))
def f_law_e_lots : Fd := { np := 1, nl := 3, br := [false], body := b_law_e_lots }
/-- number 16 -/
def b_law_g_lot : Ss :=
    .cons (.ret (.bif .tup (.cons (.srt .set (.bif .lst (.cons (.var 0) (.nil)))) (.nil)))) (
    .nil)
def f_law_g_lot : Fd := { np := 1, nl := 0, br := [false], body := b_law_g_lot }
/-- number 17 -/
def b_law_g_inside : Ss :=
    .cons (.ret (.bif .all (.cons (.lc 2 (.dat (.var 0)) (.is (.cst (.bl true))) (.cmp .inn (.var 2) (.var 1))) (.nil)))) (
    .nil)
def f_law_g_inside : Fd := { np := 2, nl := 1, br := [false, false], body := b_law_g_inside }
/-- number 18 -/
def b_law_g_meets : Ss :=
    .cons (.ret (.bif .all (.cons (.lc 2 (.dat (.var 1)) (.is (.cst (.bl true))) (.cmp .gt (.bif .len (.cons (.lc 3 (.dat (.var 2)) (.cmp .inn (.var 3) (.var 0)) (.var 3)) (.nil))) (.cst (.int 0)))) (.nil)))) (
    .nil)
def f_law_g_meets : Fd := { np := 2, nl := 2, br := [false, false], body := b_law_g_meets }
/-- number 19 -/
def b_law_g_holds : Ss :=
    .cons (.ret (.bif .any (.cons (.lc 2 (.dat (.var 1)) (.is (.cst (.bl true))) (.call 17 (.val (.var 2) (.val (.var 0) (.nil))))) (.nil)))) (
    .nil)
def f_law_g_holds : Fd := { np := 2, nl := 1, br := [false, false], body := b_law_g_holds }
/-- number 20 -/
def l_law_g_due_2 : Ss :=
    .cons (.ifs (.tru (.call 19 (.val (.idx (.var 3) (.var 4)) (.val (.bin .add (.slc (.var 3) (.no) (.at (.var 4))) (.slc (.var 3) (.at (.bin .add (.var 4) (.cst (.int 1)))) (.no))) (.nil))))) (.cons (.ret (.tup (.cons (.cst (.str "not least")) (.cons (.idx (.var 3) (.var 4)) (.nil))))) (
    .nil)) (.nil)) (
    .nil)
def l_law_g_due_1 : Ss :=
    .cons (.fors 4 (.rng1 (.bif .len (.cons (.var 3) (.nil)))) (l_law_g_due_2)) (
    .nil)
def l_law_g_due_5 : Ss :=
    .cons (.ifs (.tru (.bif .any (.cons (.lc 6 (.dat (.var 2)) (.is (.cst (.bl true))) (.cmp .eq (.bif .len (.cons (.lc 8 (.dat (.var 6)) (.cmp .inn (.var 8) (.var 5)) (.var 8)) (.nil))) (.cst (.int 0)))) (.nil)))) (.cons (.ret (.tup (.cons (.cst (.str "apart")) (.cons (.var 5) (.nil))))) (
    .nil)) (.nil)) (
    .nil)
def l_law_g_due_9 : Ss :=
    .cons (.ifs (.bop true (.cons (.tru (.call 18 (.val (.var 5) (.val (.var 6) (.nil))))) (.one (.nt (.tru (.call 19 (.val (.var 5) (.val (.var 7) (.nil))))))))) (.cons (.ret (.tup (.cons (.cst (.str "without")) (.cons (.var 5) (.nil))))) (
    .nil)) (.nil)) (
    .nil)
def l_law_g_due_8 : Ss :=
    .cons (.fort [6, 7] (.dat (.tup (.cons (.tup (.cons (.var 1) (.cons (.var 2) (.nil)))) (.cons (.tup (.cons (.var 2) (.cons (.var 1) (.nil)))) (.nil))))) (l_law_g_due_9)) (
    .nil)
def b_law_g_due : Ss :=
    .cons (.fors 3 (.dat (.tup (.cons (.var 1) (.cons (.var 2) (.nil))))) (l_law_g_due_1)) (
    .cons (.fors 5 (.dat (.var 1)) (l_law_g_due_5)) (
    .cons (.fors 5 (.dat (.call 13 (.val (.call 15 (.val (.srt .plain (.var 0)) (.nil))) (.nil)))) (l_law_g_due_8)) (
    .cons (.ret (.cst .non)) (
    .nil))))
def f_law_g_due : Fd := { np := 3, nl := 6, br := [false, false, false], body := b_law_g_due }
/-- number 21 -/
def l_law_g_drawn_lots_2 : Ss :=
    .cons (.app 3 (.call 16 (.val (.slc (.call 9 (.ref 0 (.val (.var 1) (.nil)))) (.no) (.at (.bin .add (.call 8 (.ref 0 (.val (.bif .len (.cons (.var 1) (.nil))) (.nil)))) (.bif .int (.cons (.cmp .gt (.call 8 (.ref 0 (.val (.cst (.int 9)) (.nil)))) (.cst (.int 0))) (.nil)))))) (.nil)))) (
    .nil)
def b_law_g_drawn_lots : Ss :=
    .cons (.asgO 3 (.lst (.nil))) (
    .cons (.fors 4 (.rng1 (.var 2)) (l_law_g_drawn_lots_2)) (
    .cons (.retF (.lc 5 (.dat (.call 13 (.val (.frz 3) (.nil)))) (.nt (.tru (.call 19 (.val (.var 5) (.val (.lc 6 (.dat (.var 3)) (.cmp .ne (.var 6) (.var 5)) (.var 6)) (.nil)))))) (.var 5))) (
    .nil)))
def f_law_g_drawn_lots : Fd := { np := 3, nl := 4, br := [true, false, false], body := b_law_g_drawn_lots }
/-- number 22 -/
def b_law_g_bent_lots : Ss :=
    .cons (.asgO 2 (.bif .lst (.cons (.var 2) (.nil)))) (
    .cons (.asg 3 (.call 8 (.ref 0 (.val (.cst (.int 4)) (.nil))))) (
    .cons (.asg 4 (.call 8 (.ref 0 (.val (.brw [2] (.bif .len (.cons (.var 2) (.nil)))) (.nil))))) (
    .cons (.ifs (.bop true (.cons (.cmp .eq (.var 3) (.cst (.int 0))) (.one (.brw [2] (.cmp .gt (.bif .len (.cons (.var 2) (.nil))) (.cst (.int 0))))))) (.cons (.drp (.pop 2 (.var 4))) (
    .nil)) (.cons (.ifs (.bop true (.cons (.cmp .eq (.var 3) (.cst (.int 1))) (.one (.brw [2] (.cmp .gt (.bif .len (.cons (.var 2) (.nil))) (.cst (.int 0))))))) (.cons (.setI 2 (.var 4) (.call 16 (.val (.bin .add (.oix 2 (.var 4)) (.tup (.cons (.idx (.var 1) (.call 8 (.ref 0 (.val (.bif .len (.cons (.var 1) (.nil))) (.nil))))) (.nil)))) (.nil)))) (
    .nil)) (.cons (.ifs (.bop true (.cons (.cmp .eq (.var 3) (.cst (.int 2))) (.one (.brw [2] (.cmp .gt (.bif .len (.cons (.var 2) (.nil))) (.cst (.int 0))))))) (.cons (.ins 2 (.call 8 (.ref 0 (.val (.brw [2] (.bif .len (.cons (.var 2) (.nil)))) (.nil)))) (.oix 2 (.var 4))) (
    .nil)) (.cons (.ins 2 (.var 4) (.call 16 (.val (.slc (.call 9 (.ref 0 (.val (.var 1) (.nil)))) (.no) (.at (.call 8 (.ref 0 (.val (.bin .add (.bif .len (.cons (.var 1) (.nil))) (.cst (.int 1))) (.nil)))))) (.nil)))) (
    .nil))) (
    .nil))) (
    .nil))) (
    .cons (.retO 2) (
    .nil)))))
def f_law_g_bent_lots : Fd := { np := 3, nl := 2, br := [true, false, false], body := b_law_g_bent_lots }
/-- number 23 -/
def b_law_g_loose : Ss :=
    .cons (.retF (.lc 2 (.dat (.var 1)) (.is (.cst (.bl true))) (.call 9 (.ref 0 (.val (.bin .add (.bif .lst (.cons (.var 2) (.nil))) (.bif .lst (.cons (.slc (.var 2) (.no) (.at (.cst (.int 1)))) (.nil)))) (.nil)))))) (
    .nil)
def f_law_g_loose : Fd := { np := 2, nl := 1, br := [true, false], body := b_law_g_loose }
/-- number 24 -/
def l_law_8 : Ss :=
    .cons (.asg 7 (.oix 5 (.call 8 (.ref 1 (.val (.cst (.int 2)) (.nil)))))) (
    .cons (.app 5 (.ife (.cmp .eq (.call 8 (.ref 1 (.val (.cst (.int 2)) (.nil)))) (.cst (.int 0))) (.tup (.cons (.idx (.var 7) (.cst (.int 0))) (.cons (.call 22 (.ref 1 (.val (.var 2) (.val (.idx (.var 7) (.cst (.int 1))) (.nil))))) (.nil)))) (.tup (.cons (.call 22 (.ref 1 (.val (.var 2) (.val (.idx (.var 7) (.cst (.int 0))) (.nil))))) (.cons (.idx (.var 7) (.cst (.int 1))) (.nil)))))) (
    .nil))
def l_law_12 : Ss :=
    .cons (.asg 10 (.call 20 (.val (.var 2) (.val (.var 8) (.val (.var 9) (.nil)))))) (
    .cons (.asg 11 (.lst (.cons (.bif .lst (.cons (.var 8) (.nil))) (.cons (.call 23 (.ref 1 (.val (.var 9) (.nil)))) (.nil))))) (
    .cons (.asg 12 (.lst (.cons (.bif .lst (.cons (.idx (.var 11) (.cst (.int 0))) (.nil))) (.cons (.lc 13 (.dat (.idx (.var 11) (.cst (.int 1)))) (.is (.cst (.bl true))) (.bif .lst (.cons (.var 13) (.nil)))) (.nil))))) (
    .cons (.ifs (.nt (.tru (.call 12 (.val (.call 6 (.val (.call 9 (.ref 1 (.val (.var 2) (.nil)))) (.val (.idx (.var 11) (.cst (.int 0))) (.val (.bif .tup (.cons (.idx (.var 11) (.cst (.int 1))) (.nil))) (.nil))))) (.val (.var 10) (.nil)))))) (.cons (.ret (.cst (.bl false))) (
    .nil)) (.nil)) (
    .cons (.ifs (.cmp .ne (.var 11) (.var 12)) (.cons (.ret (.cst (.bl false))) (
    .nil)) (.nil)) (
    .nil)))))
def b_law : Ss :=
    .cons (.asgC 1 7 (.val (.var 0) (.val (.cst (.int 7)) (.nil)))) (
    .cons (.asg 2 (.call 11 (.ref 1 (.val (.bin .add (.cst (.int 1)) (.call 8 (.ref 1 (.val (.cst (.int 5)) (.nil))))) (.nil))))) (
    .cons (.asg 3 (.call 21 (.ref 1 (.val (.var 2) (.val (.call 8 (.ref 1 (.val (.cst (.int 6)) (.nil)))) (.nil)))))) (
    .cons (.asg 4 (.call 14 (.val (.var 2) (.val (.var 3) (.nil))))) (
    .cons (.ifs (.bop false (.cons (.cmp .isn (.call 6 (.val (.var 2) (.val (.var 3) (.val (.var 4) (.nil))))) (.cst .non)) (.one (.cmp .isn (.call 6 (.val (.var 2) (.val (.var 4) (.val (.var 3) (.nil))))) (.cst .non))))) (.cons (.ret (.cst (.bl false))) (
    .nil)) (.nil)) (
    .cons (.asgO 5 (.lst (.cons (.tup (.cons (.var 3) (.cons (.var 4) (.nil)))) (.cons (.tup (.cons (.var 4) (.cons (.var 3) (.nil)))) (.nil))))) (
    .cons (.fors 6 (.rng1 (.cst (.int 4))) (l_law_8)) (
    .cons (.app 5 (.tup (.cons (.call 9 (.ref 1 (.val (.var 3) (.nil)))) (.cons (.call 21 (.ref 1 (.val (.var 2) (.val (.call 8 (.ref 1 (.val (.cst (.int 4)) (.nil)))) (.nil))))) (.nil))))) (
    .cons (.fort [8, 9] (.own 5) (l_law_12)) (
    .cons (.ret (.cmp .is (.call 6 (.val (.bif .tup (.cons (.var 2) (.nil))) (.val (.bif .tup (.cons (.var 3) (.nil))) (.val (.var 4) (.nil))))) (.cst .non))) (
    .nil))))))))))
def f_law : Fd := { np := 1, nl := 13, br := [false], body := b_law }
end GL

set_option Elab.async false
set_option linter.all false
set_option autoImplicit false
set_option maxRecDepth 100000
set_option maxHeartbeats 2000000
/-! Lib1: the draws of all laws. -/
namespace DL
open PySem L2
structure S4 where
  a : Int
  b : Int
  c : Int
  d : Int
def S4.ds (s : S4) : List D := [.int s.a, .int s.b, .int s.c, .int s.d]
def S4.n2 (s : S4) : S4 := { a := s.a, b := (s.b * 48271 + (s.d + 1) * 7919 + 11) % 2147483647, c := (s.c * 69621 + (s.b * 48271 + (s.d + 1) * 7919 + 11) % 2147483647 % 65521 + (s.d + 1)) % 2147483629, d := s.d + 1 }
/-- a draw below m; the source behind it -/
def pk (s : S4) (m : Int) : Int := if m ≤ 1 then 0 else if s.a > 0 then s.a % m else (s.n2.b / 8 + s.n2.c / 16) % m
def nk (s : S4) (m : Int) : S4 := if m ≤ 1 then s else if s.a > 0 then { s with a := s.a / m } else s.n2
theorem pk_nn (s : S4) (m : Int) : 0 ≤ pk s m := by
  unfold pk
  split
  · omega
  · split <;> exact Int.emod_nonneg _ (by omega)
theorem pk_lt (s : S4) (m : Int) (h : 1 ≤ m) : pk s m < m := by
  unfold pk
  split
  · omega
  · split <;> exact Int.emod_lt_of_pos _ (by omega)
@[simp] theorem ds_0 (s : S4) : atI s.ds 0 = some (.int s.a) := rfl
@[simp] theorem ds_1 (s : S4) : atI s.ds 1 = some (.int s.b) := rfl
@[simp] theorem ds_2 (s : S4) : atI s.ds 2 = some (.int s.c) := rfl
@[simp] theorem ds_3 (s : S4) : atI s.ds 3 = some (.int s.d) := rfl
@[simp] theorem ds_len (s : S4) : s.ds.length = 4 := rfl
@[simp] theorem ds_s0 (s : S4) (i : Int) : s.ds.set 0 (.int i) = S4.ds { s with a := i } := rfl
@[simp] theorem ds_s1 (s : S4) (i : Int) : s.ds.set 1 (.int i) = S4.ds { s with b := i } := rfl
@[simp] theorem ds_s2 (s : S4) (i : Int) : s.ds.set 2 (.int i) = S4.ds { s with c := i } := rfl
@[simp] theorem ds_s3 (s : S4) (i : Int) : s.ds.set 3 (.int i) = S4.ds { s with d := i } := rfl
@[simp] theorem ixN_40 : ixN 4 0 = some 0 := rfl
@[simp] theorem ixN_41 : ixN 4 1 = some 1 := rfl
@[simp] theorem ixN_42 : ixN 4 2 = some 2 := rfl
@[simp] theorem ixN_43 : ixN 4 3 = some 3 := rfl
theorem e_pick {con : Nat → Option D} {wf n : Nat} {Γ : Nat → Option Fd} (hf : Γ 8 = some GL.f_law_pick) (s : S4) (m : Int) (hm : m < 1073741824) : runF con wf Γ (n + 1) 8 [.own (.lst s.ds), .dat (.int m)] = .ok (.dat (.int (pk s m))) [.own (.lst (nk s m).ds), .un] := by
  rw [run_of hf rfl rfl]
  by_cases h1 : m ≤ 1
  · simp [GL.b_law_pick, h1, pk, nk]
  have h2 : 0 < m := by omega
  by_cases h3 : s.a > 0
  · simp [GL.b_law_pick, h1, h2, h3, pk, nk, bin_mod, bin_fdiv, hm]
  · simp [GL.b_law_pick, h1, h2, h3, pk, nk, bin_mod, bin_fdiv, hm, S4.n2]

/-! ### the source of a script -/
section
variable {con : Nat → Option D} {wf n : Nat} {Γ : Nat → Option Fd}
@[simp] theorem bin_pow18 : binD .pow (.int 10) (.int 18) = some (.int 1000000000000000000) := by
  simp only [binD, intB]
  rw [if_pos (show CPow 10 18 from ⟨by omega, by omega, by decide⟩)]; rfl
theorem e_source (hf : Γ 7 = some GL.f_law_source) (ns : List Int) (j : Int) (hj : 0 ≤ j) : ∃ s : S4, runF con wf Γ (n + 1) 7 [.dat (.scr ns), .dat (.int j)] = .ok (.own (.lst s.ds)) [.un, .un] := by
  rw [run_of hf rfl rfl]
  obtain ⟨sl, h, -⟩ := for_fold (con := con) (call := runF con wf Γ n) (wf := wf) (br := brF [false, false]) (j := 3) (enc := D.int) (b := GL.l_law_source_2)
    (fun (s : Int) sl => [.dat (.scr ns), .dat (.int j), .dat (.int s), sl, .un]) (fun s c => (s * 48271 + (if c < 0 then -c else c) % 998244353 * 2 + (if c < 0 then 1 else 0) + 29) % 2147483647) (fun _ _ => True) (fun _ _ _ => rfl) (fun x xs s _ => ⟨.inl (by simp [GL.l_law_source_2, bin_mod]), trivial⟩) (cut ns none (some 63)) (2003 + j * 6007) .un trivial
  generalize (cut ns none (some 63)).foldl _ _ = i at h
  by_cases hl : j < ns.length
  · have hc := atI_int ns j hj hl
    generalize ns[j.toNat]'(by omega) = c at hc
    by_cases h8 : 1000000000000000000 ≤ (if c < 0 then -c else c)
    · refine ⟨⟨(if c < 0 then -c else c), i, (i * 69621 + (if c < 0 then -c else c) % 1000003 + 5) % 2147483629, 0⟩, ?_⟩
      simp [GL.b_law_source, h, hl, hc, h8, S4.ds]
    · refine ⟨⟨0, i, (i * 69621 + (if c < 0 then -c else c) % 1000003 + 5) % 2147483629, 0⟩, ?_⟩
      simp [GL.b_law_source, h, hl, hc, h8, S4.ds]
  · refine ⟨⟨0, i, (i * 69621 + 5) % 2147483629, 0⟩, ?_⟩
    simp [GL.b_law_source, h, hl, S4.ds]
/-! ### a shuffle -/
def shf {α : Type} : Nat → S4 → List α → List α × S4
  | 0, s, _ => ([], s)
  | n + 1, s, xs => match xs[(pk s xs.length).toNat]? with
    | none => ([], s)
    | some x => (x :: (shf n (nk s xs.length) (xs.eraseIdx (pk s xs.length).toNat)).1, (shf n (nk s xs.length) (xs.eraseIdx (pk s xs.length).toNat)).2)
def sh {α : Type} (s : S4) (xs : List α) : List α := (shf xs.length s xs).1
def shs {α : Type} (s : S4) (xs : List α) : S4 := (shf xs.length s xs).2
theorem pk_ix {α : Type} (s : S4) {xs : List α} (h : xs ≠ []) : (pk s xs.length).toNat < xs.length := by
  have := List.length_pos_iff.mpr h
  have h1 := pk_nn s xs.length
  have h2 := pk_lt s xs.length (by omega)
  omega
theorem shf_perm {α : Type} : ∀ (n : Nat) (s : S4) (xs : List α), xs.length = n → (shf n s xs).1.Perm xs
  | 0, s, xs, h => by
    have : xs = [] := List.length_eq_zero_iff.mp h
    subst this
    exact .refl _
  | n + 1, s, xs, h => by
    have hx : xs ≠ [] := fun e => by subst e; simp at h
    have hi := pk_ix s hx
    simp only [shf, List.getElem?_eq_getElem hi]
    have ih := shf_perm n (nk s xs.length) (xs.eraseIdx (pk s xs.length).toNat) (by rw [List.length_eraseIdx, if_pos hi]; omega)
    refine (ih.cons _).trans ?_
    generalize (pk s xs.length).toNat = i at hi ⊢
    clear ih hx h s
    induction xs generalizing i with
    | nil => simp at hi
    | cons y ys ih =>
      cases i with
      | zero => exact .refl _
      | succ i =>
        simp only [List.getElem_cons_succ, List.eraseIdx_cons_succ]
        refine (List.Perm.swap _ _ _).trans (List.Perm.cons _ (ih i (by simpa using hi)))
theorem sh_perm {α : Type} (s : S4) (xs : List α) : (sh s xs).Perm xs := shf_perm _ s xs rfl
theorem sh_len {α : Type} (s : S4) (xs : List α) : (sh s xs).length = xs.length := (sh_perm s xs).length_eq
theorem sh_mem {α : Type} (s : S4) (xs : List α) (x : α) : x ∈ sh s xs ↔ x ∈ xs := (sh_perm s xs).mem_iff
theorem sh_step {α : Type} (s : S4) (xs : List α) (h : (pk s xs.length).toNat < xs.length) : sh s xs = xs[(pk s xs.length).toNat] :: sh (nk s xs.length) (xs.eraseIdx (pk s xs.length).toNat) ∧ shs s xs = shs (nk s xs.length) (xs.eraseIdx (pk s xs.length).toNat) := by
  have e : (xs.eraseIdx (pk s xs.length).toNat).length = xs.length - 1 := by rw [List.length_eraseIdx, if_pos h]
  unfold sh shs
  rw [e]
  have key : ∀ k, k = xs.length → (shf k s xs).1 = xs[(pk s xs.length).toNat] :: (shf (k - 1) (nk s xs.length) (xs.eraseIdx (pk s xs.length).toNat)).1 ∧ (shf k s xs).2 = (shf (k - 1) (nk s xs.length) (xs.eraseIdx (pk s xs.length).toNat)).2 := by
    intro k hk
    cases k with
    | zero => omega
    | succ k => simp only [shf, Nat.add_sub_cancel, List.getElem?_eq_getElem h]; exact ⟨trivial, trivial⟩
  exact key _ rfl
theorem nats_len (n : Nat) : (nats n).length = n := by simp [nats]
theorem eraseIdx_map {α β : Type} (f : α → β) : ∀ (xs : List α) (i : Nat), (xs.map f).eraseIdx i = (xs.eraseIdx i).map f
  | [], _ => rfl
  | x :: xs, 0 => rfl
  | x :: xs, i + 1 => by simp [eraseIdx_map f xs i]
theorem popO_map {α : Type} (enc : α → D) (xs : List α) (i : Int) (h0 : 0 ≤ i) (h : i < xs.length) : popO (xs.map enc) i = some (enc (xs[i.toNat]'(by omega)), (xs.eraseIdx i.toNat).map enc) := by
  rw [popO_int _ _ h0 (by simpa using h)]
  simp [eraseIdx_map]
theorem e_shuffled (h8 : Γ 8 = some GL.f_law_pick) (hf : Γ 9 = some GL.f_law_shuffled) {α : Type} (enc : α → D) (s : S4) (xs : List α) (t : D) (ht : Rw t (xs.map enc)) (hl : xs.length ≤ 100000) :
    runF con wf Γ (n + 2) 9 [.own (.lst s.ds), .dat t] = .ok (.own (.lst ((sh s xs).map enc))) [.own (.lst (shs s xs).ds), .un] := by
  rw [run_of hf rfl rfl]
  obtain ⟨g, h, hg⟩ := for_inv (con := con) (call := runF con wf Γ (n + 1)) (wf := wf) (br := brF [true, false]) (j := 4) (enc := fun (k : Nat) => D.int (k : Int)) (b := GL.l_law_shuffled_3)
    (fun rs g => ∃ (s' : S4) (zs ys : List α) (sl : DL.Slot), (sl = .un ∨ ∃ d, sl = .dat d) ∧ g = [.own (.lst s'.ds), .dat t, .own (.lst (zs.map enc)), .own (.lst (ys.map enc)), sl] ∧ rs.length = zs.length ∧ ys.length + zs.length = xs.length ∧ sh s xs = ys ++ sh s' zs ∧ shs s xs = shs s' zs)
    (by
      rintro x rs g ⟨s', zs, ys, sl, hsl, rfl, h1, h2, h3, h4⟩
      have hz : zs ≠ [] := fun e => by subst e; simp at h1
      have hi := pk_ix s' hz
      have hp := pk_nn s' zs.length
      have hy : ys.length < 16777216 := by omega
      have hm : (zs.length : Int) < 1073741824 := by omega
      have e0 : lend [2] 0 [.own (.lst s'.ds), .dat t, .own (.lst (zs.map enc)), .own (.lst (ys.map enc)), .dat (.int x)] = some [.un, .dat t, .dat (.lst (zs.map enc)), .un, .dat (.int x)] := by simp [lend, O.frz]
      refine ⟨_, .inl ?_, nk s' zs.length, zs.eraseIdx (pk s' zs.length).toNat, ys ++ [zs[(pk s' zs.length).toNat]], .dat (.int x), .inr ⟨_, rfl⟩, rfl, ?_, ?_, ?_, ?_⟩
      · simp [GL.l_law_shuffled_3, e0, e_pick h8 _ _ hm, popO_map enc zs _ hp (by omega), sizeLine_eq, hy]
      · rw [List.length_eraseIdx, if_pos hi]; simp at h1; omega
      · rw [List.length_eraseIdx, if_pos hi]; simp; omega
      · rw [h3, (sh_step s' zs hi).1]; simp
      · rw [h4, (sh_step s' zs hi).2])
    (List.range xs.length) [.own (.lst s.ds), .dat t, .own (.lst (xs.map enc)), .own (.lst []), .un] ⟨s, xs, [], .un, .inl rfl, rfl, by simp, by simp, by simp, rfl⟩
  obtain ⟨s', zs, ys, sl, hsl, rfl, h1, h2, h3, h4⟩ := hg
  have hz : zs = [] := List.length_eq_zero_iff.mp (by simpa using h1.symm)
  subst hz
  have e0 : lend [2] 0 [.own (.lst s.ds), .dat t, .own (.lst (xs.map enc)), .own (.lst []), .un] = some [.un, .dat t, .dat (.lst (xs.map enc)), .un, .un] := by simp [lend, O.frz]
  have e1 : (List.range xs.length).map (fun (k : Nat) => D.int (k : Int)) = nats xs.length := rfl
  rw [e1] at h
  have e2 : rngD 0 (xs.length : Int) = some (nats xs.length) := rngD_nat (by omega)
  simp [GL.b_law_shuffled, ht.list, e0, e2, h]
  exact ⟨by rw [h3]; simp [sh, shf], by rw [h4]; simp [shs, shf]⟩
end
end DL

set_option Elab.async false
set_option linter.all false
set_option autoImplicit false
set_option maxRecDepth 100000
set_option maxHeartbeats 2000000
/-! Lib2: names. -/
namespace DL
open PySem L2
def kwA : Str := "process shelf page device letter slot use words turn looks restart of in by as at from grace kept more and or free top"
def kwB : Str := " let bar put see say wait until stop if else while end to beat start crashes mod yes no row link keep crash claim"
def kwC : Str := " set way early own word"
/-- the words that are no names -/
def kwL : List Str := Txt.split (kwA ++ kwB ++ kwC) " "
section
variable {con : Nat → Option D} {wf n : Nat} {Γ : Nat → Option Fd}
theorem e_keywords (hf : Γ 10 = some GL.f_law_keywords) : runF con wf Γ (n + 1) 10 [] = .ok (.dat (.lst (kwL.map .str))) [] := by
  rw [run_of hf rfl rfl]
  have e1 : binD .add (.str kwA) (.str kwB) = some (.str (kwA ++ kwB)) := bin_catS _ _ (by decide +kernel)
  have e2 : binD .add (.str (kwA ++ kwB)) (.str kwC) = some (.str (kwA ++ kwB ++ kwC)) := bin_catS _ _ (by decide +kernel)
  have e3 : metD .split (kwA ++ kwB ++ kwC) (.str " ") = some (.lst (kwL.map .str)) := by
    simp only [metD]
    rw [if_pos (by decide +kernel)]; rfl
  have eb : GL.b_law_keywords = .cons (.asg 0 (.cst (.str kwA))) (.cons (.asg 0 (.bin .add (.var 0) (.cst (.str kwB)))) (.cons (.ret (.met .split (.bin .add (.var 0) (.cst (.str kwC))) (.cst (.str " ")))) .nil)) := rfl
  simp [eb, e1, e2, e3]
def chr (z : Str) (i : Int) : Str := ⟨#[z.cps.toList.getD i.toNat 0]⟩
@[simp] theorem chr_len (z : Str) (i : Int) : (chr z i).length = 1 := rfl
theorem idx_str (z : Str) (i : Int) (h : z.length ≤ 16777216) (h0 : 0 ≤ i) (h1 : i < z.length) : idxD (.str z) (.int i) = some (.str (chr z i)) := by
  have hl : z.cps.toList.length = z.length := by simp [Str.length]
  simp only [idxD]
  rw [sizeLine_eq, if_pos h, atI_int _ _ h0 (by omega)]
  unfold chr
  rw [List.getD, List.getElem?_eq_getElem (show i.toNat < z.cps.toList.length by omega)]
  rfl
def numS (i : Int) : Str := Str.ofString (toString i)
theorem numS_len (i : Nat) (h : i < 100) : (numS i).length ≤ 2 := by
  have : ∀ i < 100, (numS ((i : Nat) : Int)).length ≤ 2 := by decide +kernel
  exact this i h
theorem bif_num (i : Nat) (h : i < 100) : bifD .str [.int i] = some (.str (numS i)) := by
  simp only [bifD]
  have : ∀ i < 100, ((i : Nat) : Int).natAbs.log2 < 1920 := by decide +kernel
  rw [if_pos (this i h)]; rfl
def abcS : Str := "abcdefghijklmnopqrstuvwxyz"
def digS : Str := "0123456789"
theorem abc_len : abcS.length = 26 := by decide +kernel
theorem sgn_len : (abcS ++ digS).length = 36 := by decide +kernel
theorem abc_at (s : S4) : idxD (.str abcS) (.int (pk s 26)) = some (.str (chr abcS (pk s 26))) := idx_str _ _ (by decide +kernel) (pk_nn _ _) (by have := pk_lt s 26 (by omega); rw [abc_len]; omega)
theorem sgn_at (s : S4) : idxD (.str (abcS ++ digS)) (.int (pk s 36)) = some (.str (chr (abcS ++ digS) (pk s 36))) := idx_str _ _ (by decide +kernel) (pk_nn _ _) (by have := pk_lt s 36 (by omega); rw [sgn_len]; omega)
/-- the frame of the names -/
def fN (m : Nat) (al : Bool) (st : Str) (s : S4) (ws : List Str) (k w j : DL.Slot) : Fm :=
  [.own (.lst s.ds), .dat (.int m), .dat (.str abcS), .dat (.str (abcS ++ digS)), .own (.lst (ws.map .str)), .dat (.lst (kwL.map .str)), .dat (.bl al), .dat (.str st), k, w, j]
def Nw (s : DL.Slot) : Prop := s = .un ∨ ∃ d, s = .dat d
theorem lend_N (m : Nat) (al : Bool) (st : Str) (s : S4) (ws : List Str) (k w j : DL.Slot) (hk : Nw k) (hw : Nw w) (hj : Nw j) : lend [4] 0 (fN m al st s ws k w j) = some [.un, .dat (.int m), .dat (.str abcS), .dat (.str (abcS ++ digS)), .dat (.lst (ws.map .str)), .dat (.lst (kwL.map .str)), .dat (.bl al), .dat (.str st), k, w, j] := by
  rcases hk with rfl | ⟨k, rfl⟩ <;> rcases hw with rfl | ⟨w, rfl⟩ <;> rcases hj with rfl | ⟨j, rfl⟩ <;> simp [fN, lend, O.frz]
theorem fN_9 (m : Nat) (al : Bool) (st : Str) (s : S4) (ws : List Str) (k w j v : DL.Slot) : (fN m al st s ws k w j).set 9 v = fN m al st s ws k v j := rfl
/-- a word grows by some signs -/
theorem names_9 (h8 : Γ 8 = some GL.f_law_pick) (m : Nat) (al : Bool) (st : Str) (ws : List Str) (k : DL.Slot) (hk : Nw k) (xs : List Nat) (s : S4) (w : Str) (j : DL.Slot) : w.length + xs.length ≤ 20 →
    ∃ s' w' j', forB con (runF con wf Γ (n + 1)) wf 10 none (brF [true, false]) GL.l_law_names_9 (xs.map fun (k : Nat) => D.int (k : Int)) (fN m al st s ws k (.dat (.str w)) j) = .nx (fN m al st s' ws k (.dat (.str w')) j') ∧ w'.length ≤ 20 ∧ (j' = j ∨ Nw j') := by
  intro h
  obtain ⟨g, e, s', w', j', rfl, h1, h2⟩ := for_inv (con := con) (call := runF con wf Γ (n + 1)) (wf := wf) (br := brF [true, false]) (j := 10) (enc := fun (k : Nat) => D.int (k : Int)) (b := GL.l_law_names_9)
    (fun rs g => ∃ s' w' j', g = fN m al st s' ws k (.dat (.str w')) j' ∧ w'.length + rs.length ≤ 20 ∧ (j' = j ∨ Nw j'))
    (by
      rintro x rs g ⟨s', w', j', rfl, h1, h2⟩
      rw [List.length_cons] at h1
      have h3 : (36 : Int) < 1073741824 := by omega
      have e1 : binD .add (.str w') (.str (chr (abcS ++ digS) (pk s' 36))) = some (.str (w' ++ chr (abcS ++ digS) (pk s' 36))) := bin_catS _ _ (by rw [chr_len]; omega)
      refine ⟨_, .inl ?_, nk s' 36, w' ++ chr (abcS ++ digS) (pk s' 36), .dat (.int x), rfl, ?_, .inr (.inr ⟨_, rfl⟩)⟩
      · simp [GL.l_law_names_9, fN, e_pick h8 _ _ h3, sgn_at, e1]
      · rw [Str.length_append, chr_len]; omega)
    xs _ ⟨s, w, j, rfl, h, .inl rfl⟩
  exact ⟨s', w', j', e, by simpa using h1, h2⟩
/-- until the word is a new one -/
theorem names_11 (h8 : Γ 8 = some GL.f_law_pick) (m : Nat) (al : Bool) (st : Str) (ws : List Str) (k0 : Nat) (hk : k0 < 100) (xs : List Nat) (hx : ∀ x ∈ xs, x < 100) (s : S4) (w : Str) (hw : w.length ≤ 20) (j : DL.Slot) (hj : Nw j) :
    ∃ g', forB con (runF con wf Γ (n + 1)) wf 10 none (brF [true, false]) GL.l_law_names_11 (xs.map fun (k : Nat) => D.int (k : Int)) (fN m al st s ws (.dat (.int k0)) (.dat (.str w)) j) = .nx g' ∧ ∃ w' j', g' = fN m al st s ws (.dat (.int k0)) (.dat (.str w')) j' ∧ w'.length ≤ 20 ∧ Nw j' := by
  refine for_brk (con := con) (call := runF con wf Γ (n + 1)) (wf := wf) (br := brF [true, false]) (j := 10) (enc := fun (k : Nat) => D.int (k : Int)) (b := GL.l_law_names_11)
    (fun rs g => (∀ x ∈ rs, x < 100) ∧ ∃ w' j', g = fN m al st s ws (.dat (.int k0)) (.dat (.str w')) j' ∧ w'.length ≤ 20 ∧ Nw j')
    (fun g => ∃ w' j', g = fN m al st s ws (.dat (.int k0)) (.dat (.str w')) j' ∧ w'.length ≤ 20 ∧ Nw j') (fun g h => h.2)
    (by
      rintro x rs g ⟨hr, w', j', rfl, h1, h2⟩
      have hx : x < 100 := hr x List.mem_cons_self
      have l1 := numS_len x hx
      have l2 := numS_len k0 hk
      have lz : (Str.ofString "z").length = 1 := by decide +kernel
      have lx : (Str.ofString "x").length = 1 := by decide +kernel
      have e0 := lend_N m al st s ws (.dat (.int k0)) (.dat (.str w')) (.dat (.int x)) (.inr ⟨_, rfl⟩) (.inr ⟨_, rfl⟩) (.inr ⟨_, rfl⟩)
      have e1 : binD .add (.str (Str.ofString "z")) (.str (numS x)) = some (.str (Str.ofString "z" ++ numS x)) := bin_catS _ _ (by omega)
      have e2 : binD .add (.str (Str.ofString "z" ++ numS x)) (.str (Str.ofString "x")) = some (.str (Str.ofString "z" ++ numS x ++ Str.ofString "x")) := bin_catS _ _ (by rw [Str.length_append]; omega)
      have e3 : binD .add (.str (Str.ofString "z" ++ numS x ++ Str.ofString "x")) (.str (numS k0)) = some (.str (Str.ofString "z" ++ numS x ++ Str.ofString "x" ++ numS k0)) := bin_catS _ _ (by rw [Str.length_append, Str.length_append]; omega)
      by_cases c1 : w' ∈ kwL
      · refine ⟨_, .inl ⟨.inl ?_, fun y hy => hr y (List.mem_cons_of_mem _ hy), Str.ofString "z" ++ numS x ++ Str.ofString "x" ++ numS k0, .dat (.int x), rfl, ?_, .inr ⟨_, rfl⟩⟩⟩
        · simp [GL.l_law_names_11, fN, c1, bif_num x hx, bif_num k0 hk, e1, e2, e3]
        · simp only [Str.length_append]; omega
      · by_cases c2 : w' ∈ ws
        · refine ⟨_, .inl ⟨.inl ?_, fun y hy => hr y (List.mem_cons_of_mem _ hy), Str.ofString "z" ++ numS x ++ Str.ofString "x" ++ numS k0, .dat (.int x), rfl, ?_, .inr ⟨_, rfl⟩⟩⟩
          · simp only [fN] at e0 ⊢
            simp [GL.l_law_names_11, c1, c2, e0, bif_num x hx, bif_num k0 hk, e1, e2, e3]
          · simp only [Str.length_append]; omega
        · refine ⟨_, .inr ⟨?_, w', .dat (.int x), rfl, h1, .inr ⟨_, rfl⟩⟩⟩
          simp only [fN] at e0 ⊢
          simp [GL.l_law_names_11, c1, c2, e0])
    xs _ ⟨hx, w, j, rfl, hw, hj⟩
theorem e_names (h8 : Γ 8 = some GL.f_law_pick) (h10 : Γ 10 = some GL.f_law_keywords) (hf : Γ 11 = some GL.f_law_names) (s : S4) (m : Nat) (hm : m ≤ 20) :
    ∃ (ws : List Str) (s' : S4), runF con wf Γ (n + 2) 11 [.own (.lst s.ds), .dat (.int m)] = .ok (.own (.lst (ws.map .str))) [.own (.lst s'.ds), .un] ∧ ws.length = m ∧ ∀ w ∈ ws, w.length ≤ 20 := by
  rw [run_of hf rfl rfl]
  have h3 : (3 : Int) < 1073741824 := by omega
  have h5 : (5 : Int) < 1073741824 := by omega
  have h12 : (12 : Int) < 1073741824 := by omega
  have h26 : (26 : Int) < 1073741824 := by omega
  have h36 : (36 : Int) < 1073741824 := by omega
  obtain ⟨s1, hs1⟩ : ∃ s1, s1 = nk (nk (nk s 3) 26) 36 := ⟨_, rfl⟩
  obtain ⟨al, hal⟩ : ∃ al, al = decide (pk s 3 = 0) := ⟨_, rfl⟩
  obtain ⟨st, hst⟩ : ∃ st, st = chr abcS (pk (nk s 3) 26) ++ chr (abcS ++ digS) (pk (nk (nk s 3) 26) 36) := ⟨_, rfl⟩
  have lst : st.length = 2 := by rw [hst, Str.length_append]; rfl
  obtain ⟨g, e, hlen, s', ws, k', w', j', rfl, h1, h2, hk', hw', hj'⟩ := for_inv (con := con) (call := runF con wf Γ (n + 1)) (wf := wf) (br := brF [true, false]) (j := 8) (enc := fun (k : Nat) => D.int (k : Int)) (b := GL.l_law_names_7)
    (fun rs g => (∀ r ∈ rs, r < 20) ∧ ∃ s' ws k w j, g = fN m al st s' ws k w j ∧ ws.length + rs.length = m ∧ (∀ w ∈ ws, w.length ≤ 20) ∧ Nw k ∧ Nw w ∧ Nw j)
    (by
      rintro x rs g ⟨hr, s', ws, k, w, j, rfl, h1, h2, hk, hw, hj⟩
      have hx : x < 20 := hr x List.mem_cons_self
      rw [List.length_cons] at h1
      -- the start of the word, how many signs come
      have : ∃ s2 w2, evE con (runF con wf Γ (n + 1)) (.ife (.tru (.var 6)) (.var 7) (.idx (.var 2) (.call 8 (.ref 0 (.val (.cst (.int 26)) (.nil)))))) (fN m al st s' ws (.dat (.int x)) w j) = .ok (.str w2) (fN m al st s2 ws (.dat (.int x)) w j) ∧ w2.length ≤ 2 := by
        cases al with
        | true => exact ⟨s', st, by simp [fN], by omega⟩
        | false => exact ⟨nk s' 26, chr abcS (pk s' 26), by simp [fN, e_pick h8 _ _ h26, abc_at], by rw [chr_len]; omega⟩
      obtain ⟨s2, w2, e2, l2⟩ := this
      have : ∃ (s3 : S4) (q : Nat), evI con (runF con wf Γ (n + 1)) (.rng1 (.ife (.tru (.var 6)) (.cst (.int 1)) (.ife (.cmp .eq (.call 8 (.ref 0 (.val (.cst (.int 5)) (.nil)))) (.cst (.int 0))) (.call 8 (.ref 0 (.val (.cst (.int 12)) (.nil)))) (.call 8 (.ref 0 (.val (.cst (.int 3)) (.nil))))))) (fN m al st s2 ws (.dat (.int x)) (.dat (.str w2)) j) = .ok (nats q) (fN m al st s3 ws (.dat (.int x)) (.dat (.str w2)) j) ∧ q ≤ 12 := by
        cases al with
        | true => exact ⟨s2, 1, by simp [fN]; exact (rngD_nat (n := 1) (by omega)) ▸ rfl, by omega⟩
        | false =>
          by_cases c : pk s2 5 = 0
          · have z0 := pk_nn (nk s2 5) 12
            have z1 := pk_lt (nk s2 5) 12 (by omega)
            exact ⟨nk (nk s2 5) 12, (pk (nk s2 5) 12).toNat, by simp [fN, e_pick h8 _ _ h5, e_pick h8 _ _ h12, c, rngD_int (show pk (nk s2 5) 12 ≤ 16777216 by omega) z0], by omega⟩
          · have z0 := pk_nn (nk s2 5) 3
            have z1 := pk_lt (nk s2 5) 3 (by omega)
            exact ⟨nk (nk s2 5) 3, (pk (nk s2 5) 3).toNat, by simp [fN, e_pick h8 _ _ h5, e_pick h8 _ _ h3, c, rngD_int (show pk (nk s2 5) 3 ≤ 16777216 by omega) z0], by omega⟩
      obtain ⟨s3, q, e3, hq⟩ := this
      obtain ⟨s4, w4, j4, e4, l4, n4⟩ := names_9 (con := con) (wf := wf) (n := n) h8 m al st ws (.dat (.int x)) (.inr ⟨_, rfl⟩) (List.range q) s3 w2 j (by simp; omega)
      have n4 : Nw j4 := n4.elim (fun e => e ▸ hj) id
      obtain ⟨g5, e5, w5, j5, rfl, l5, n5⟩ := names_11 (con := con) (wf := wf) (n := n) h8 m al st ws x (by omega) (List.range (m + 40)) (fun y hy => by simp at hy; omega) s4 w4 l4 j4 n4
      have e4' : forB con (runF con wf Γ (n + 1)) wf 10 none (brF [true, false]) GL.l_law_names_9 (nats q) (fN m al st s3 ws (.dat (.int x)) (.dat (.str w2)) j) = _ := e4
      have e5' : forB con (runF con wf Γ (n + 1)) wf 10 none (brF [true, false]) GL.l_law_names_11 (nats (m + 40)) (fN m al st s4 ws (.dat (.int x)) (.dat (.str w4)) j4) = _ := e5
      have er : rngD 0 ((m : Int) + 40) = some (nats (m + 40)) := rngD_nat (n := m + 40) (by omega)
      refine ⟨_, .inl ?_, fun y hy => hr y (List.mem_cons_of_mem _ hy), s4, ws ++ [w5], .dat (.int x), .dat (.str w5), j5, rfl, by simp; omega, ?_, .inr ⟨_, rfl⟩, .inr ⟨_, rfl⟩, n5⟩
      · show evSs _ _ _ _ _ (fN m al st s' ws (.dat (.int x)) w j) = _
        have ea : evI con (runF con wf Γ (n + 1)) (.rng1 (.bin .add (.var 1) (.cst (.int 40)))) (fN m al st s4 ws (.dat (.int x)) (.dat (.str w4)) j4) = .ok (nats (m + 40)) (fN m al st s4 ws (.dat (.int x)) (.dat (.str w4)) j4) := by simp [fN, er]
        have hws : ws.length < 16777216 := by omega
        simp only [GL.l_law_names_7, xSs_cons, xS_asg, e2, xS_asg1, brF_s, brF_n, Bool.false_eq_true, if_false, fN_9, xS_nx, xS_for, e3, xS_for1, keep_r1, brK_n, e4', ea, e5']
        simp [fN, sizeLine_eq, hws]
      · intro y hy
        rcases List.mem_append.mp hy with z | z
        · exact h2 y z
        · simp at z; subst z; exact l5)
    (List.range m) (fN m al st s1 [] .un .un .un) ⟨fun r hr => by simp at hr; omega, s1, [], .un, .un, .un, rfl, by simp, by simp, .inl rfl, .inl rfl, .inl rfl⟩
  have hw := h1
  simp at hw
  have e' : forB con (runF con wf Γ (n + 1)) wf 8 none (brF [true, false]) GL.l_law_names_7 (nats m) (fN m al st s1 [] .un .un .un) = _ := e
  have er : rngD 0 (m : Int) = some (nats m) := rngD_nat (by omega)
  have eb : binD .add (.str abcS) (.str digS) = some (.str (abcS ++ digS)) := bin_catS _ _ (by decide +kernel)
  have es : binD .add (.str (chr abcS (pk (nk s 3) 26))) (.str (chr (abcS ++ digS) (pk (nk (nk s 3) 26) 36))) = some (.str st) := by rw [hst]; exact bin_catS _ _ (by simp only [chr_len]; omega)
  refine ⟨ws, s', ?_, hw, h2⟩
  have eb0 : GL.b_law_names = .cons (.asg 2 (.cst (.str abcS))) (.cons (.asg 3 (.bin .add (.var 2) (.cst (.str digS)))) (.cons (.asgO 4 (.lst (.nil))) (.cons (.asg 5 (.call 10 (.nil))) (.cons (.asg 6 (.cmp .eq (.call 8 (.ref 0 (.val (.cst (.int 3)) (.nil)))) (.cst (.int 0)))) (.cons (.asg 7 (.bin .add (.idx (.var 2) (.call 8 (.ref 0 (.val (.cst (.int 26)) (.nil))))) (.idx (.var 3) (.call 8 (.ref 0 (.val (.cst (.int 36)) (.nil))))))) (.cons (.fors 8 (.rng1 (.var 1)) (GL.l_law_names_7)) (.cons (.retO 4) .nil))))))) := rfl
  simp only [fN, hal, List.map_nil] at e'
  simp [eb0, eb, e_keywords h10, e_pick h8 _ _ h3, e_pick h8 _ _ h26, e_pick h8 _ _ h36, abc_at, sgn_at, es, er, ← hs1, e']
end
end DL

set_option Elab.async false
set_option linter.all false
set_option autoImplicit false
set_option maxRecDepth 100000
set_option maxHeartbeats 2000000
/-! Lib3: the comparison of all laws. -/
namespace DL
open PySem L2
/-- plain data of some depth -/
def Pl : Nat → D → Prop
  | 0, d => flat d = true
  | n + 1, d => flat d = true ∨ ∃ ds : List D, (d = .tup ds ∨ d = .lst ds) ∧ ds.length ≤ 1000000 ∧ ∀ x ∈ ds, Pl n x
theorem Pl.up : ∀ {n : Nat} {d : D}, Pl n d → Pl (n + 1) d
  | 0, d, h => .inl h
  | n + 1, d, h => by
    rcases h with h | ⟨ds, e, l, a⟩
    · exact .inl h
    · exact .inr ⟨ds, e, l, fun x hx => (a x hx).up⟩
theorem Pl.le {n m : Nat} {d : D} (h : n ≤ m) (p : Pl n d) : Pl m d := by
  induction h with
  | refl => exact p
  | step _ ih => exact ih.up
theorem Pl.tS (xs : List Str) (h : xs.length ≤ 1000000) : Pl 1 (tS xs) := .inr ⟨xs.map .str, .inl rfl, by simpa using h, fun x hx => by
  obtain ⟨y, _, rfl⟩ := List.mem_map.mp hx
  rfl⟩
section
variable {con : Nat → Option D} {wf n : Nat} {Γ : Nat → Option Fd}
theorem e_same (hf : Γ 12 = some GL.f_law_same) : ∀ {n : Nat} {d : D}, Pl n d → runF con wf Γ (n + 1) 12 [.dat d, .dat d] = .ok (.dat (.bl true)) [.un, .un] := by
  have hflat : ∀ {n : Nat} {d : D}, flat d = true → runF con wf Γ (n + 1) 12 [.dat d, .dat d] = .ok (.dat (.bl true)) [.un, .un] := by
    intro n d h
    rw [run_of hf rfl rfl]
    cases d <;> first | (simp [flat] at h; done) | skip
    · simp [GL.b_law_same, isiD]
    · simp [GL.b_law_same, isiD]
    · simp [GL.b_law_same, isiD]
    · simp [GL.b_law_same, isiD]
  intro n
  induction n with
  | zero => intro d h; exact hflat h
  | succ n ih =>
    intro d h
    rcases h with h | ⟨ds, hd, hl, ha⟩
    · exact hflat h
    rw [run_of hf rfl rfl]
    have hr : rngD 0 (ds.length : Int) = some (nats ds.length) := rngD_nat (by omega)
    have key : ∀ (g : Fm), getD g 0 = some d → getD g 1 = some d → g = [.dat d, .dat d, .un, .un, .un] → evE con (runF con wf Γ (n + 1)) (.lc 3 (.rng1 (.bif .len (.cons (.var 1) (.nil)))) (.is (.cst (.bl true))) (.call 12 (.val (.idx (.var 0) (.var 3)) (.val (.idx (.var 1) (.var 3)) (.nil))))) g = .ok (.lst ((List.range ds.length).map fun _ => D.bl true)) g := by
      intro g h0 h1 hg
      subst hg
      refine lc_m (enc := fun (k : Nat) => D.int (k : Int)) (s := .un) (xs := List.range ds.length) (fun _ => D.bl true) ?_ (by simp) rfl (fun _ h => nomatch h) ?_
      · rcases hd with rfl | rfl <;> simp [hr] <;> rfl
      · intro k hk
        have hk : k < ds.length := by simpa using hk
        have e1 := atI_nat ds k hk
        have e2 := ih (ha _ (List.getElem_mem hk))
        rcases hd with rfl | rfl <;> simp [e1, e2]
    have key := key _ rfl rfl rfl
    have e3 : bifD .all [.lst ((List.range ds.length).map fun _ => D.bl true)] = some (.bl true) := by rw [bif_all (fun _ => true)]; simp
    rcases hd with rfl | rfl
    · simp [GL.b_law_same, isiD, key, e3]
    · simp [GL.b_law_same, isiD, key, e3]
end
end DL

set_option Elab.async false
set_option linter.all false
set_option autoImplicit false
set_option maxRecDepth 100000
set_option maxHeartbeats 2000000
/-! Lib4: orders: texts, tuples of texts, lots. -/
namespace DL
open PySem PySem.W PyProof.Rows L2
/-- in order by the key k -/
def leK {α : Type} (k : α → PyData) (a b : α) : Bool := dataLe false k a b
theorem leK_eq {α : Type} (k : α → PyData) (a b : α) : leK k a b = !dataLt (k b) (k a) := rfl
theorem lt_irr (x : PyData) : dataLt x x = false := lex_irrefl _
theorem lt_tr {x y z : PyData} (h1 : dataLt x y = true) (h2 : dataLt y z = true) : dataLt x z = true := lex_trans _ _ _ h1 h2
theorem lt_asym {x y : PyData} (h : dataLt x y = true) : dataLt y x = false := by
  cases e : dataLt y x with
  | false => rfl
  | true => exact absurd (lt_tr h e) (by rw [lt_irr]; simp)
theorem lt_tot {x y : PyData} (h1 : dataLt x y = false) (h2 : dataLt y x = false) : keyToks x = keyToks y := lex_total _ _ h1 h2
theorem leK_trans {α : Type} (k : α → PyData) (a b c : α) (h1 : leK k a b = true) (h2 : leK k b c = true) : leK k a c = true := by
  rw [leK_eq, Bool.not_eq_true'] at *
  cases e : dataLt (k c) (k a) with
  | false => rfl
  | true =>
    rcases lex_negTrans _ (keyToks (k b)) _ e with h | h
    · exact absurd (show dataLt (k c) (k b) = true from h) (by rw [h2]; simp)
    · exact absurd (show dataLt (k b) (k a) = true from h) (by rw [h1]; simp)
theorem leK_total {α : Type} (k : α → PyData) (a b : α) : (leK k a b || leK k b a) = true := by
  rw [leK_eq, leK_eq]
  cases e : dataLt (k b) (k a) with
  | false => rfl
  | true => rw [lt_asym e]; rfl
theorem sortP_eq {α : Type} (k : α → PyData) (xs : List α) : sortP k xs = xs.mergeSort (leK k) := rfl
theorem sortP_perm {α : Type} (k : α → PyData) (xs : List α) : (sortP k xs).Perm xs := List.mergeSort_perm _ _
theorem sortP_mem {α : Type} (k : α → PyData) (xs : List α) (x : α) : x ∈ sortP k xs ↔ x ∈ xs := (sortP_perm k xs).mem_iff
theorem sortP_len {α : Type} (k : α → PyData) (xs : List α) : (sortP k xs).length = xs.length := (sortP_perm k xs).length_eq
theorem sortP_pw {α : Type} (k : α → PyData) (xs : List α) : (sortP k xs).Pairwise fun a b => leK k a b = true := List.pairwise_mergeSort (leK_trans k) (leK_total k) xs
/-- the key tells the item -/
def Inj {α : Type} (k : α → PyData) : Prop := ∀ a b, keyToks (k a) = keyToks (k b) → a = b
theorem le_antisymm {α : Type} {k : α → PyData} (i : Inj k) {a b : α} (h1 : leK k a b = true) (h2 : leK k b a = true) : a = b := by
  rw [leK_eq, Bool.not_eq_true'] at h1 h2
  exact i a b (lt_tot h2 h1)
theorem sorted_uniq {α : Type} {k : α → PyData} (i : Inj k) {xs ys : List α} (hp : xs.Perm ys) (hx : xs.Pairwise fun a b => leK k a b = true) (hy : ys.Pairwise fun a b => leK k a b = true) : xs = ys :=
  hp.eq_of_pairwise (fun a b _ _ h1 h2 => le_antisymm i h1 h2) hx hy
theorem sortP_uniq {α : Type} {k : α → PyData} (i : Inj k) {xs ys : List α} (hp : xs.Perm ys) : sortP k xs = sortP k ys :=
  sorted_uniq i (((sortP_perm k xs).trans hp).trans (sortP_perm k ys).symm) (sortP_pw k xs) (sortP_pw k ys)
theorem sortP_id {α : Type} {k : α → PyData} (i : Inj k) {xs : List α} (hx : xs.Pairwise fun a b => leK k a b = true) : sortP k xs = xs :=
  sorted_uniq i (sortP_perm k xs) (sortP_pw k xs) hx
theorem sortP_map {α β : Type} (k : β → PyData) (f : α → β) (xs : List α) : sortP k (xs.map f) = (sortP (fun x => k (f x)) xs).map f := by
  rw [sortP_eq, sortP_eq]
  exact (List.map_mergeSort (f := f) (r := leK fun x => k (f x)) (s := leK k) (l := xs) fun a _ b _ => rfl).symm
/-! ### texts -/
theorem inj_str : Inj PyData.str := fun a b h => str_of_cps (by simpa [keyToks] using h)
abbrev sLt (a b : Str) : Bool := dataLt (.str a) (.str b)
theorem sLt_of_ne {a b : Str} (h : leK PyData.str a b = true) (hn : a ≠ b) : sLt a b = true := by
  cases e : sLt a b with
  | true => rfl
  | false =>
    rw [leK_eq, Bool.not_eq_true'] at h
    exact absurd (inj_str a b (lt_tot e h)) hn
theorem sLe_of_lt {a b : Str} (h : sLt a b = true) : leK PyData.str a b = true := by
  rw [leK_eq, Bool.not_eq_true']; exact lt_asym h
theorem mem_uniq' (x : Str) : ∀ xs : List Str, x ∈ uniq xs ↔ x ∈ xs
  | [] => by simp [uniq]
  | y :: ys => by
    unfold uniq
    split
    · next h =>
      rw [mem_uniq' x ys, List.mem_cons]
      exact ⟨.inr, fun q => q.elim (fun e => e ▸ h) id⟩
    · rw [List.mem_cons, List.mem_cons, mem_uniq' x ys]
theorem uniq_nodup : ∀ xs : List Str, (uniq xs).Nodup
  | [] => by simp [uniq]
  | y :: ys => by
    unfold uniq
    split
    · exact uniq_nodup ys
    · next h => exact List.nodup_cons.mpr ⟨fun q => h ((mem_uniq' y ys).mp q), uniq_nodup ys⟩
theorem uniq_len : ∀ xs : List Str, (uniq xs).length ≤ xs.length
  | [] => by simp [uniq]
  | y :: ys => by
    have := uniq_len ys
    unfold uniq
    split <;> simp <;> omega
theorem mem_setS (x : Str) (xs : List Str) : x ∈ setS xs ↔ x ∈ xs := by
  unfold setS
  rw [sortP_mem, mem_uniq']
theorem setS_len (xs : List Str) : (setS xs).length ≤ xs.length := by
  unfold setS
  rw [sortP_len]; exact uniq_len xs
/-- a lot: in order, each once -/
def Lot (l : List Str) : Prop := l.Pairwise fun a b => sLt a b = true
theorem Lot.nodup {l : List Str} (h : Lot l) : l.Nodup := by
  unfold Lot at h
  exact h.imp fun {a b} q e => by subst e; rw [sLt, lt_irr] at q; cases q
theorem setS_lot (xs : List Str) : Lot (setS xs) := by
  have h1 := sortP_pw PyData.str (uniq xs)
  have h2 : (setS xs).Nodup := (sortP_perm PyData.str (uniq xs)).nodup_iff.mpr (uniq_nodup xs)
  unfold Lot
  exact (h1.and h2).imp fun {a b} q => sLt_of_ne q.1 q.2
theorem lot_ext {a b : List Str} (ha : Lot a) (hb : Lot b) (h : ∀ x, x ∈ a ↔ x ∈ b) : a = b := by
  refine sorted_uniq inj_str ?_ (ha.imp fun q => sLe_of_lt q) (hb.imp fun q => sLe_of_lt q)
  exact (List.perm_ext_iff_of_nodup ha.nodup hb.nodup).mpr h
theorem setS_of {a b : List Str} (hb : Lot b) (h : ∀ x, x ∈ a ↔ x ∈ b) : setS a = b :=
  lot_ext (setS_lot a) hb fun x => (mem_setS x a).trans (h x)
theorem setS_id {b : List Str} (hb : Lot b) : setS b = b := setS_of hb fun _ => .rfl
/-! ### data -/
theorem py_strs (xs : List Str) : (xs.map D.str).map D.py = xs.map PyData.str := by simp [D.py]
theorem srt_strs (xs : List Str) : srtD .plain (.lst (xs.map .str)) = some (.lst ((sortP PyData.str xs).map .str)) := by
  have h1 : srtOkP ((xs.map D.str).map D.py) = true := by
    rw [py_strs]
    simp [srtOkP, alike, noTup, PyData.depth]
  simp only [srtD, pureL_strs, h1, Bool.and_self, if_true]
  rw [sortP_map]
  simp [D.py]
/-- the key of a lot: its size, its names -/
def kLot (l : List Str) : PyData := .tuple [.int l.length, .tuple (l.map .str)]
/-- in the order of lots -/
def ordL (ls : List (List Str)) : List (List Str) := sortP kLot ls
theorem toks_strs : ∀ xs ys : List Str, ∀ r t : List (Int ⊕ List Nat), keyToksAll (xs.map .str) ++ r = keyToksAll (ys.map .str) ++ t → xs = ys
  | [], [], _, _, _ => rfl
  | [], y :: ys, r, t, h => by simp [keyToksAll, keyToks] at h
  | x :: xs, [], r, t, h => by simp [keyToksAll, keyToks] at h
  | x :: xs, y :: ys, r, t, h => by
    simp only [List.map_cons, keyToksAll, keyToks, List.cons_append, List.nil_append, List.cons.injEq, Sum.inr.injEq, true_and] at h
    rw [toks_strs xs ys r t h.2, str_of_cps h.1]
theorem inj_lot : Inj kLot := fun a b h => by
  simp only [kLot, keyToks, keyToksAll, List.cons_append, List.nil_append, List.cons.injEq, true_and] at h
  exact toks_strs a b _ _ h.2
theorem alike_strs : ∀ xs ys : List Str, alikeAll (xs.map .str) (ys.map .str) = true
  | [], _ => by simp [alikeAll]
  | _ :: _, [] => by simp [alikeAll]
  | x :: xs, y :: ys => by simp [alikeAll, alike, alike_strs xs ys]
theorem alike_lot (a b : List Str) : alike (kLot a) (kLot b) = true := by simp [kLot, alike, alikeAll, alike_strs]
theorem depth_strs : ∀ xs : List Str, PyData.depthAll (xs.map .str) = 0
  | [] => by simp [PyData.depthAll]
  | x :: xs => by simp [PyData.depthAll, PyData.depth, depth_strs xs]
theorem depth_lot (a : List Str) : (kLot a).depth ≤ 40 := by simp [kLot, PyData.depth, PyData.depthAll, depth_strs]
theorem py_lot (l : List Str) : D.py (.tup [.int l.length, tS l]) = kLot l := by
  simp only [D.py, pyL, tS, kLot, pyL_map, py_strs]
/-- sorted(lots, key=lambda lot: (len(lot), lot)) and its like -/
theorem key_lots {f : D → Option D} (hf : ∀ l : List Str, f (tS l) = some (.tup [.int l.length, tS l])) (ls : List (List Str)) : keyF f (ls.map tS) = some (.lst ((ordL ls).map tS)) := by
  have hk : ∀ l : List Str, keyOf f (tS l) = .tup [.int l.length, tS l] := fun l => by simp [keyOf, hf]
  have h0 : (ls.map tS).map (keyOf f) = ls.map fun l => D.tup [.int l.length, tS l] := by
    rw [List.map_map]; exact List.map_congr_left fun l _ => hk l
  have h1 : (ls.map tS).all (fun d => (f d).isSome) = true := by
    rw [List.all_eq_true]
    intro d hd
    obtain ⟨l, _, rfl⟩ := List.mem_map.mp hd
    rw [hf]; rfl
  have h2 : pureL ((ls.map tS).map (keyOf f)) = true := by
    rw [h0]
    induction ls with
    | nil => simp [pureL]
    | cons l ls ih =>
      have := ih (by rw [List.map_map]; exact List.map_congr_left fun l _ => hk l) (by
        rw [List.all_eq_true]
        intro d hd
        obtain ⟨l, _, rfl⟩ := List.mem_map.mp hd
        rw [hf]; rfl)
      simp [pureL, D.pure, pure_tS, this]
  have h3 : srtOkP (((ls.map tS).map (keyOf f)).map D.py) = true := by
    rw [h0, List.map_map]
    have : (D.py ∘ fun l : List Str => D.tup [.int l.length, tS l]) = kLot := funext fun l => py_lot l
    rw [this]
    simp only [srtOkP, Bool.and_eq_true, List.all_eq_true]
    refine ⟨⟨fun p hp q hq => ?_, ?_⟩, fun p hp => ?_⟩
    · obtain ⟨a, _, rfl⟩ := List.mem_map.mp hp
      obtain ⟨b, _, rfl⟩ := List.mem_map.mp hq
      exact alike_lot a b
    · rw [Bool.or_eq_true]
      left
      rw [List.all_eq_true]
      intro p hp
      obtain ⟨a, _, rfl⟩ := List.mem_map.mp hp
      rfl
    · obtain ⟨a, _, rfl⟩ := List.mem_map.mp hp
      exact decide_eq_true (depth_lot a)
  unfold keyF
  rw [h1, h2, h3]
  simp only [Bool.and_self, if_true]
  rw [sortP_map]
  congr 2
  unfold ordL
  congr 1
  congr 1
  funext l
  rw [hk, py_lot]
theorem ordL_perm (ls : List (List Str)) : (ordL ls).Perm ls := sortP_perm _ _
theorem ordL_mem (ls : List (List Str)) (l : List Str) : l ∈ ordL ls ↔ l ∈ ls := sortP_mem _ _ _
theorem ordL_len (ls : List (List Str)) : (ordL ls).length = ls.length := sortP_len _ _
theorem ordL_pw (ls : List (List Str)) : (ordL ls).Pairwise fun a b => leK kLot a b = true := sortP_pw _ _
/-- a lot of less names comes first -/
theorem le_size {a b : List Str} (h : leK kLot a b = true) : a.length ≤ b.length := by
  rw [leK_eq, Bool.not_eq_true', kLot, kLot, dataLt_pair (by simp [alike]) (by simp [alike, alike_strs]), dataLt_int] at h
  simp only [PyData.eqv, beq_iff_eq] at h
  split at h
  · next e => have : (b.length : Int) = a.length := e; omega
  · have : ¬ ((b.length : Int) < a.length) := by simpa using h
    omega
theorem lt_size {a b : List Str} (h : a.length < b.length) : leK kLot a b = true := by
  rw [leK_eq, Bool.not_eq_true', kLot, kLot, dataLt_pair (by simp [alike]) (by simp [alike, alike_strs]), dataLt_int]
  simp only [PyData.eqv, beq_iff_eq]
  rw [if_neg (by omega)]
  simp; omega
end DL

set_option Elab.async false
set_option linter.all false
set_option autoImplicit false
set_option maxRecDepth 100000
set_option maxHeartbeats 2000000
/-! K67b: what the defs of k67 work out. -/
namespace DL
open PySem L2
theorem cut_take {α : Type} (xs : List α) (k : Nat) : cut xs none (some (k : Int)) = xs.take k := by
  unfold cut
  rw [HT.sIx_nat, HT.sIx_none, List.drop_zero, Nat.sub_zero]
  by_cases h : k ≤ xs.length
  · rw [Nat.min_eq_left h]
  · rw [Nat.min_eq_right (by omega), List.take_of_length_le (by omega), List.take_of_length_le (by omega)]
theorem cut_drop {α : Type} (xs : List α) (k : Nat) : cut xs (some (k : Int)) none = xs.drop k := by
  unfold cut
  rw [HT.sIx_nat, HT.sIx_none]
  by_cases h : k ≤ xs.length
  · rw [Nat.min_eq_left h, List.take_of_length_le (by simp)]
  · rw [Nat.min_eq_right (by omega), List.drop_of_length_le (by omega), List.drop_of_length_le (by omega)]; simp
def within (a b : List Str) : Bool := a.all fun x => decide (x ∈ b)
def subs (xs : List Str) : List (List Str) := xs.foldl (fun ls x => ls ++ ls.map (· ++ [x])) [[]]
def meetsA (lot : List Str) (others : List (List Str)) : Bool := others.all fun o => o.any fun x => decide (x ∈ lot)
def holdsO (lot : List Str) (others : List (List Str)) : Bool := others.any fun o => within o lot
def lD (ls : List (List Str)) : D := .lst (ls.map tS)
@[simp] theorem walk_lD (ls : List (List Str)) : walkD (lD ls) = some (ls.map tS) := rfl
@[simp] theorem len_lD (ls : List (List Str)) : bifD .len [lD ls] = some (.int ls.length) := by simp [lD]
@[simp] theorem lst_lD (ls : List (List Str)) : bifD .lst [lD ls] = some (.lst (ls.map tS)) := rfl
@[simp] theorem idx_lD (ls : List (List Str)) (i : Int) : idxD (lD ls) (.int i) = (atI ls i).map tS := by simp [lD, atI_map]
theorem cat_lD (a b : List (List Str)) (h : a.length + b.length ≤ 16777216) : binD .add (lD a) (lD b) = some (lD (a ++ b)) := by
  unfold lD
  rw [bin_catL _ _ (by simpa using h)]; simp
@[simp] theorem slc_lD (ls : List (List Str)) (i j : Option Int) : slcD (lD ls) i j = some (lD (cut ls i j)) := by simp [lD, cut_map]
@[simp] theorem isNon_lD (ls : List (List Str)) : isNon (lD ls) = false := rfl
/-- lambda lot: (len(lot), lot) -/
abbrev keyB : E := .tup (.cons (.bif .len (.cons (.var 0) .nil)) (.cons (.var 0) .nil))
noncomputable def kSrl (con : Nat → Option D) (call : Nat → List DL.Slot → CRes) (b : E) (r : Res D) : Res D := r.bind fun x g1 => match x with
    | .lst ds => opt g1 (keyF (fun d => match evE con call b [.dat d] with
      | .ok kd _ => some kd
      | _ => none) ds)
    | _ => .stuck
@[simp] theorem xE_srl (con : Nat → Option D) (call : Nat → List DL.Slot → CRes) (a : E) (g : Fm) : evE con call (.srl keyB a) g = kSrl con call keyB (evE con call a g) := by simp only [evE, kSrl] <;> rfl
@[simp] theorem xE_srl1 (con : Nat → Option D) (call : Nat → List DL.Slot → CRes) (ls : List (List Str)) (g : Fm) : kSrl con call keyB (.ok (lD ls) g) = .ok (lD (ordL ls)) g := by
  show opt g (keyF _ (ls.map tS)) = _
  rw [key_lots fun l => by simp]
  rfl
theorem subs_len : ∀ (xs : List Str) (ls : List (List Str)), (xs.foldl (fun ls x => ls ++ ls.map (· ++ [x])) ls).length = ls.length * 2 ^ xs.length
  | [], ls => by simp
  | x :: xs, ls => by
    rw [List.foldl_cons, subs_len xs]
    simp only [List.length_append, List.length_map, List.length_cons, Nat.pow_succ]
    rw [← Nat.mul_two, Nat.mul_assoc, Nat.mul_comm 2]
section
variable {con : Nat → Option D} {wf n : Nat} {Γ : Nat → Option Fd}
theorem e_lot_of (hf : Γ 0 = some GL.f_lot_of) {d : D} {xs : List Str} (r : Rw d (xs.map .str)) (h : xs.length < 4000) : runF con wf Γ (n + 1) 0 [.dat d] = .ok (.dat (tS (setS xs))) [.un] := by
  rw [run_of hf rfl rfl]
  simp [GL.b_lot_of, r.set (show xs.length + 1 < 4096 by omega), tS]
theorem e_within (hf : Γ 1 = some GL.f_within) (a b : List Str) : runF con wf Γ (n + 1) 1 [.dat (tS a), .dat (tS b)] = .ok (.dat (.bl (within a b))) [.un, .un] := by
  rw [run_of hf rfl rfl]
  obtain ⟨sl, h⟩ := for_find (con := con) (call := runF con wf Γ n) (wf := wf) (br := brF [false, false]) (j := 2) (enc := D.str) (b := GL.l_within_1) (fun sl => [.dat (tS a), .dat (tS b), sl]) (fun x => !decide (x ∈ b)) (fun _ => .dat (.bl false)) (fun x => [.dat (tS a), .dat (tS b), .dat (.str x)]) (fun _ _ => rfl) a .un (fun x _ => by
    by_cases c : x ∈ b <;> simp [GL.l_within_1, c])
  simp [GL.b_within, h]
  cases e : a.find? (fun x => !decide (x ∈ b)) with
  | none =>
    have : within a b = true := by
      unfold within
      rw [List.all_eq_true]
      intro x hx
      have := List.find?_eq_none.mp e x hx
      simpa using this
    simp [this]
  | some y =>
    have h1 := List.find?_some e
    have h2 := List.mem_of_find?_eq_some e
    have : within a b = false := by
      unfold within
      rw [List.all_eq_false]
      exact ⟨y, h2, by simpa using h1⟩
    simp [this]
theorem subs_loop (d : D) (xs : List Str) (h : xs.length ≤ 20) : ∃ sl, forB con (runF con wf Γ (n + 1)) wf 2 none (brF [false]) GL.l_lots_by_order_2 (xs.map D.str) [.dat d, .dat (.lst [.tup []]), .un, .un] = .nx [.dat d, .dat (lD (subs xs)), sl, .un] := by
  obtain ⟨sl, e, -⟩ := for_fold (con := con) (call := runF con wf Γ (n + 1)) (wf := wf) (br := brF [false]) (j := 2) (enc := D.str) (b := GL.l_lots_by_order_2)
    (fun (ls : List (List Str)) sl => [.dat d, .dat (lD ls), sl, .un]) (fun ls x => ls ++ ls.map (· ++ [x])) (fun xs ls => ls.length * 2 ^ xs.length ≤ 1048576 ∧ ∀ l ∈ ls, l.length + xs.length ≤ 20) (fun _ _ _ => rfl)
    (fun x xs ls ⟨p, q⟩ => by
      rw [List.length_cons, Nat.pow_succ] at p
      have p1 : 1 ≤ 2 ^ xs.length := Nat.one_le_two_pow
      have p2 : ls.length * 2 ≤ 1048576 := Nat.le_trans (by rw [Nat.mul_comm (2 ^ xs.length) 2, ← Nat.mul_assoc]; exact Nat.le_mul_of_pos_right _ p1) p
      refine ⟨.inl ?_, ?_, ?_⟩
      · have z : evE con (runF con wf Γ (n + 1)) (.lc 3 (.dat (.var 1)) (.is (.cst (.bl true))) (.bin .add (.var 3) (.tup (.cons (.var 2) (.nil))))) [.dat d, .dat (lD ls), .dat (.str x), .un] = .ok (lD (ls.map (· ++ [x]))) [.dat d, .dat (lD ls), .dat (.str x), .un] := by
          rw [lc_m (enc := tS) (s := .un) (xs := ls) (fun l => tS (l ++ [x])) (by simp) (by simp) rfl (fun _ h => nomatch h) (fun l hl => by
            have := q l hl
            have e := bin_catT (l.map .str) [.str x] (by simp; simp at this; omega)
            simp [tS] at e ⊢
            simp [e])]
          simp [lD, List.map_map, Function.comp_def]
        have e := cat_lD ls (ls.map (· ++ [x])) (by simp only [List.length_map]; omega)
        simp only [GL.l_lots_by_order_2, xSs_cons, xS_asg, xE_bin, xE_var, getD_s, getD_z, opt_s, xE_bin1, z, xE_bin2, e]
        simp
      · simp only [List.length_append, List.length_map]
        refine Nat.le_trans (Nat.le_of_eq ?_) p
        rw [← Nat.mul_two, Nat.mul_assoc, Nat.mul_comm 2]
      · intro l hl
        rcases List.mem_append.mp hl with h | h
        · have := q l h; simp at this; omega
        · obtain ⟨m, hm, rfl⟩ := List.mem_map.mp h
          have := q m hm
          simp at this ⊢; omega)
    xs [[]] .un ⟨by simpa using Nat.pow_le_pow_right (by omega : 1 ≤ 2) h, by simp; omega⟩
  exact ⟨sl, e⟩
theorem e_lots_by_order (h0 : Γ 0 = some GL.f_lot_of) (hf : Γ 2 = some GL.f_lots_by_order) {d : D} {xs : List Str} (r : Rw d (xs.map .str)) (h : xs.length ≤ 20) : runF con wf Γ (n + 2) 2 [.dat d] = .ok (.dat (lD (ordL (subs (setS xs))))) [.un] := by
  rw [run_of hf rfl rfl]
  have hl := setS_len xs
  obtain ⟨sl, e⟩ := subs_loop (con := con) (wf := wf) (n := n) (Γ := Γ) d (setS xs) (by omega)
  simp [GL.b_lots_by_order, e_lot_of h0 r (by omega), e]
theorem e_meets_all (hf : Γ 3 = some GL.f_meets_all) (lot : List Str) (others : List (List Str)) : runF con wf Γ (n + 1) 3 [.dat (tS lot), .dat (lD others)] = .ok (.dat (.bl (meetsA lot others))) [.un, .un] := by
  rw [run_of hf rfl rfl]
  simp only [GL.b_meets_all, xSs_cons, xS_ret, xE_bif, xEs_cons]
  rw [lc_m (enc := tS) (s := .un) (xs := others) (fun o => .bl (o.any fun x => decide (x ∈ lot))) (by simp) (by simp) rfl (fun _ h => nomatch h) (fun o ho => by
    simp only [xE_bif, xEs_cons]
    rw [lc_m (enc := D.str) (s := .un) (xs := o) (fun x => .bl (decide (x ∈ lot))) (by simp) (by simp) rfl (fun _ h => nomatch h) (fun x hx => by simp)]
    simp)]
  simp [meetsA]
theorem e_holds_one (h1 : Γ 1 = some GL.f_within) (hf : Γ 4 = some GL.f_holds_one) (lot : List Str) (others : List (List Str)) : runF con wf Γ (n + 2) 4 [.dat (tS lot), .dat (lD others)] = .ok (.dat (.bl (holdsO lot others))) [.un, .un] := by
  rw [run_of hf rfl rfl]
  simp only [GL.b_holds_one, xSs_cons, xS_ret, xE_bif, xEs_cons]
  rw [lc_m (enc := tS) (s := .un) (xs := others) (fun o => .bl (within o lot)) (by simp) (by simp) rfl (fun _ h => nomatch h) (fun o ho => by simp [e_within h1])]
  simp [holdsO]
/-- the others -/
def rem1 {α : Type} (ls : List α) (i : Nat) : List α := ls.take i ++ ls.drop (i + 1)
/-- the place of the first lot that holds another one -/
def dblAt (ls : List (List Str)) : Option Nat := (List.range ls.length).find? fun i => holdsO (ls.getD i []) (rem1 ls i)
theorem rem1_len {α : Type} (ls : List α) (i : Nat) : (rem1 ls i).length ≤ ls.length := by simp [rem1]; omega
theorem atI_getD (ls : List (List Str)) (i : Nat) (h : i < ls.length) : atI ls (i : Int) = some (ls.getD i []) := by
  rw [atI_nat ls i h, List.getD, List.getElem?_eq_getElem h]; rfl
theorem rem1_D (ls : List (List Str)) (i : Nat) (h : ls.length ≤ 16777216) (hi : i < ls.length) : binD .add (lD (cut ls none (some (i : Int)))) (lD (cut ls (some ((i : Int) + 1)) none)) = some (lD (rem1 ls i)) := by
  rw [show ((i : Int) + 1) = ((i + 1 : Nat) : Int) from by omega, cut_take, cut_drop]
  exact cat_lD _ _ (by simp; omega)
theorem e_first_doubled (h1 : Γ 1 = some GL.f_within) (h4 : Γ 4 = some GL.f_holds_one) (hf : Γ 5 = some GL.f_first_doubled) (ls : List (List Str)) (h : ls.length ≤ 16777216) :
    runF con wf Γ (n + 3) 5 [.dat (lD ls)] = .ok (.dat (match dblAt ls with | some i => tS (ls.getD i []) | none => .non)) [.un] := by
  rw [run_of hf rfl rfl]
  obtain ⟨sl, e⟩ := for_find (con := con) (call := runF con wf Γ (n + 2)) (wf := wf) (br := brF [false]) (j := 1) (enc := fun (k : Nat) => D.int (k : Int)) (b := GL.l_first_doubled_1) (fun sl => [.dat (lD ls), sl]) (fun i => holdsO (ls.getD i []) (rem1 ls i)) (fun i => .dat (tS (ls.getD i []))) (fun i => [.dat (lD ls), .dat (.int i)]) (fun _ _ => rfl) (List.range ls.length) .un (fun i hi => by
    have hi : i < ls.length := by simpa using hi
    have e1 := atI_getD ls i hi
    have e2 := rem1_D ls i h hi
    cases c : holdsO (ls.getD i []) (rem1 ls i) <;> simp [GL.l_first_doubled_1, e1, e2, e_holds_one h1 h4, c, -List.getD_eq_getElem?_getD])
  have er : rngD 0 (ls.length : Int) = some (nats ls.length) := rngD_nat h
  have e0 : (List.range ls.length).find? (fun i => holdsO (ls.getD i []) (rem1 ls i)) = dblAt ls := rfl
  rw [e0, show (List.range ls.length).map (fun (k : Nat) => D.int (k : Int)) = nats ls.length from rfl] at e
  cases c : dblAt ls with
  | none => rw [c] at e; simp [GL.b_first_doubled, er, e]
  | some i => rw [c] at e; simp [GL.b_first_doubled, er, e, -List.getD_eq_getElem?_getD]
/-- a row of names, handed in as a tuple or a list -/
def rowE (p : Bool × List Str) : D := if p.1 then tS p.2 else .lst (p.2.map .str)
theorem rw_row (p : Bool × List Str) : Rw (rowE p) (p.2.map .str) := by
  unfold rowE
  cases p.1
  · exact .lst _
  · exact .tup _
/-- the first fault -/
def judgeM (names : List Str) (h k : List (List Str)) : Option (Str × List Str) :=
  match dblAt h with
  | some i => some ("not least", h.getD i [])
  | none => match dblAt k with
    | some i => some ("not least", k.getD i [])
    | none => match h.find? (fun l => !meetsA l k) with
      | some l => some ("apart", l)
      | none => match (ordL (subs (setS names))).find? (fun l => (meetsA l h && !holdsO l k) || (meetsA l k && !holdsO l h)) with
        | some l => some ("without", l)
        | none => none
def rD : Option (Str × List Str) → D
  | some p => .tup [.str p.1, tS p.2]
  | none => .non
theorem e_judge_lists (h0 : Γ 0 = some GL.f_lot_of) (h1 : Γ 1 = some GL.f_within) (h2 : Γ 2 = some GL.f_lots_by_order) (h3 : Γ 3 = some GL.f_meets_all) (h4 : Γ 4 = some GL.f_holds_one) (h5 : Γ 5 = some GL.f_first_doubled) (hf : Γ 6 = some GL.f_judge_lists)
    (nd hd kd : D) (names : List Str) (hs ks : List (Bool × List Str)) (rn : Rw nd (names.map .str)) (rh : Rw hd (hs.map rowE)) (rk : Rw kd (ks.map rowE)) (ln : names.length ≤ 20) (lh : hs.length ≤ 100000) (lk : ks.length ≤ 100000) (ah : ∀ p ∈ hs, p.2.length < 4000) (ak : ∀ p ∈ ks, p.2.length < 4000) :
    runF con wf Γ (n + 4) 6 [.dat nd, .dat hd, .dat kd] = .ok (.dat (rD (judgeM names (hs.map fun p => setS p.2) (ks.map fun p => setS p.2)))) [.un, .un, .un] := by
  rw [run_of hf rfl rfl]
  obtain ⟨H, hH⟩ : ∃ H, H = hs.map fun p => setS p.2 := ⟨_, rfl⟩
  obtain ⟨K, hK⟩ : ∃ K, K = ks.map fun p => setS p.2 := ⟨_, rfl⟩
  rw [← hH, ← hK]
  have lH : H.length ≤ 16777216 := by rw [hH, List.length_map]; omega
  have lK : K.length ≤ 16777216 := by rw [hK, List.length_map]; omega
  have z1 : evE con (runF con wf Γ (n + 3)) (.lc 6 (.dat (.var 1)) (.is (.cst (.bl true))) (.call 0 (.val (.var 6) (.nil)))) [.dat nd, .dat hd, .dat kd, .un, .un, .un, .un] = .ok (lD H) [.dat nd, .dat hd, .dat kd, .un, .un, .un, .un] := by
    rw [lc_m (enc := rowE) (s := .un) (xs := hs) (fun p => tS (setS p.2)) (by simp [rh.walk]) (by simp) rfl (fun _ h => nomatch h) (fun p hp => by simp [e_lot_of h0 (rw_row p) (ah p hp)])]
    simp [hH, lD, List.map_map, Function.comp_def]
  have z2 : evE con (runF con wf Γ (n + 3)) (.lc 6 (.dat (.var 2)) (.is (.cst (.bl true))) (.call 0 (.val (.var 6) (.nil)))) [.dat nd, .dat hd, .dat kd, .dat (lD H), .un, .un, .un] = .ok (lD K) [.dat nd, .dat hd, .dat kd, .dat (lD H), .un, .un, .un] := by
    rw [lc_m (enc := rowE) (s := .un) (xs := ks) (fun p => tS (setS p.2)) (by simp [rk.walk]) (by simp) rfl (fun _ h => nomatch h) (fun p hp => by simp [e_lot_of h0 (rw_row p) (ak p hp)])]
    simp [hK, lD, List.map_map, Function.comp_def]
  have dH := e_first_doubled (con := con) (wf := wf) (n := n) h1 h4 h5 H lH
  have dK := e_first_doubled (con := con) (wf := wf) (n := n) h1 h4 h5 K lK
  simp only [GL.b_judge_lists, xSs_cons, xS_asg, List.replicate, List.cons_append, List.nil_append, z1, xS_asg1, brF_s, brF_n, Bool.false_eq_true, if_false, xS_nx, List.set_cons_succ, List.set_cons_zero, z2]
  unfold judgeM
  cases c1 : dblAt H with
  | some i =>
    rw [c1] at dH
    simp [forB_cons, GL.l_judge_lists_3, dH, rD, -List.getD_eq_getElem?_getD]
  | none =>
    rw [c1] at dH
    cases c2 : dblAt K with
    | some i =>
      rw [c2] at dK
      simp [forB_cons, GL.l_judge_lists_3, dH, dK, rD, -List.getD_eq_getElem?_getD]
    | none =>
      rw [c2] at dK
      obtain ⟨sl, e⟩ := for_find (con := con) (call := runF con wf Γ (n + 3)) (wf := wf) (br := brF [false, false, false]) (j := 6) (enc := tS) (b := GL.l_judge_lists_7) (fun sl => [.dat nd, .dat hd, .dat kd, .dat (lD H), .dat (lD K), .dat (lD K), sl]) (fun l => !meetsA l K) (fun l => .dat (.tup [.str "apart", tS l])) (fun l => [.dat nd, .dat hd, .dat kd, .dat (lD H), .dat (lD K), .dat (lD K), .dat (tS l)]) (fun _ _ => rfl) H (.dat .non) (fun l hl => by
        cases c : meetsA l K <;> simp [GL.l_judge_lists_7, e_meets_all h3, c])
      cases c3 : H.find? (fun l => !meetsA l K) with
      | some l =>
        rw [c3] at e
        simp [forB_cons, forB_nil, GL.l_judge_lists_3, dH, dK, e, rD]
      | none =>
        rw [c3] at e
        obtain ⟨sl', e'⟩ := for_find (con := con) (call := runF con wf Γ (n + 3)) (wf := wf) (br := brF [false, false, false]) (j := 6) (enc := tS) (b := GL.l_judge_lists_10) (fun sl => [.dat nd, .dat hd, .dat kd, .dat (lD H), .dat (lD K), .dat (lD K), sl]) (fun l => (meetsA l H && !holdsO l K) || (meetsA l K && !holdsO l H)) (fun l => .dat (.tup [.str "without", tS l])) (fun l => [.dat nd, .dat hd, .dat kd, .dat (lD H), .dat (lD K), .dat (lD K), .dat (tS l)]) (fun _ _ => rfl) (ordL (subs (setS names))) sl (fun l hl => by
          cases q1 : meetsA l H <;> cases q2 : holdsO l K <;> cases q3 : meetsA l K <;> cases q4 : holdsO l H <;> simp [GL.l_judge_lists_10, e_meets_all h3, e_holds_one h1 h4, q1, q2, q3, q4])
        simp only [] at e
        cases c4 : (ordL (subs (setS names))).find? (fun l => (meetsA l H && !holdsO l K) || (meetsA l K && !holdsO l H)) with
        | some l =>
          rw [c4] at e'
          simp [forB_cons, forB_nil, GL.l_judge_lists_3, dH, dK, e, e', e_lots_by_order h0 h2 rn ln, rD]
        | none =>
          rw [c4] at e'
          simp [forB_cons, forB_nil, GL.l_judge_lists_3, dH, dK, e, e', e_lots_by_order h0 h2 rn ln, rD]
/-! ### the law's own defs -/
def addL (acc : List (List Str)) (l : List Str) : List (List Str) := if acc.getLast? = some l then acc else acc ++ [l]
def lotSorted (ls : List (List Str)) : List (List Str) := (ordL ls).foldl addL []
def blk (rows lots : List (List Str)) : List (List Str) := rows.foldl (fun f r => if holdsO r f then f else if meetsA r lots then f ++ [r] else f) []
theorem addL_len (acc : List (List Str)) (l : List Str) : (addL acc l).length ≤ acc.length + 1 := by unfold addL; split <;> simp
theorem e_lot_sorted (hf : Γ 13 = some GL.f_law_lot_sorted) (ls : List (List Str)) (h : ls.length ≤ 10000000) : runF con wf Γ (n + 1) 13 [.dat (lD ls)] = .ok (.own (.lst ((lotSorted ls).map tS))) [.un] := by
  rw [run_of hf rfl rfl]
  obtain ⟨sl, e, -⟩ := for_fold (con := con) (call := runF con wf Γ n) (wf := wf) (br := brF [false]) (j := 2) (enc := tS) (b := GL.l_law_lot_sorted_2)
    (fun (acc : List (List Str)) sl => [.dat (lD ls), .own (.lst (acc.map tS)), sl]) addL (fun xs acc => acc.length + xs.length ≤ 10000000) (fun _ _ _ => rfl)
    (fun x xs acc p => by
      rw [List.length_cons] at p
      have := addL_len acc x
      refine ⟨.inl ?_, by omega⟩
      have e0 : lend [1] 0 [.dat (lD ls), .own (.lst (acc.map tS)), .dat (tS x)] = some [.dat (lD ls), .dat (.lst (acc.map tS)), .dat (tS x)] := by simp [lend, O.frz]
      have hl : acc.length < 16777216 := by omega
      rcases List.eq_nil_or_concat acc with rfl | ⟨ini, l, rfl⟩
      · simp at e0
        simp [GL.l_law_lot_sorted_2, e0, addL, sizeLine_eq]
      · rw [List.concat_eq_append] at *
        have e1 : atI ((ini ++ [l]).map tS) (-1) = some (tS l) := by rw [List.map_append]; exact atI_last _ _
        have e2 : ((ini ++ [l]).map tS).length ≠ 0 := by simp
        have hl' : ini.length + 1 < 16777216 := by simpa using hl
        by_cases c : l = x
        · subst c
          have ea : addL (ini ++ [l]) l = ini ++ [l] := by simp [addL]
          rw [ea]
          generalize (ini ++ [l]).map tS = A at *
          simp [GL.l_law_lot_sorted_2, e0, e1, e2]
        · have ea : addL (ini ++ [l]) x = ini ++ [l] ++ [x] := by simp [addL, c]
          rw [ea]
          have e3 : ((ini ++ [l]).map tS).length < 16777216 := by simpa using hl
          rw [List.map_append (l₁ := ini ++ [l])]
          generalize (ini ++ [l]).map tS = A at *
          simp [GL.l_law_lot_sorted_2, e0, e1, e2, c, e3, sizeLine_eq])
    (ordL ls) [] .un (by rw [ordL_len]; simpa using h)
  simp at e
  simp [GL.b_law_lot_sorted, e, lotSorted]
theorem e_e_lots (hf : Γ 15 = some GL.f_law_e_lots) (xs : List Str) (h : xs.length ≤ 20) : runF con wf Γ (n + 2) 15 [.dat (.lst (xs.map .str))] = .ok (.dat (lD (subs xs))) [.un] := by
  rw [run_of hf rfl rfl]
  obtain ⟨sl, e⟩ := subs_loop (con := con) (wf := wf) (n := n) (Γ := Γ) (.lst (xs.map .str)) xs h
  rw [show GL.l_lots_by_order_2 = GL.l_law_e_lots_2 from rfl] at e
  simp [GL.b_law_e_lots, e]
theorem e_g_lot (hf : Γ 16 = some GL.f_law_g_lot) {d : D} {xs : List Str} (r : Rw d (xs.map .str)) (h : xs.length < 4000) : runF con wf Γ (n + 1) 16 [.dat d] = .ok (.dat (tS (setS xs))) [.un] := by
  rw [run_of hf rfl rfl]
  have e := (Rw.lst (xs.map D.str)).set (show xs.length + 1 < 4096 by omega)
  simp [GL.b_law_g_lot, r.list, e, tS]
theorem e_g_inside (hf : Γ 17 = some GL.f_law_g_inside) (a b : List Str) : runF con wf Γ (n + 1) 17 [.dat (tS a), .dat (tS b)] = .ok (.dat (.bl (within a b))) [.un, .un] := by
  rw [run_of hf rfl rfl]
  simp only [GL.b_law_g_inside, xSs_cons, xS_ret, xE_bif, xEs_cons]
  rw [lc_m (enc := D.str) (s := .un) (xs := a) (fun x => .bl (decide (x ∈ b))) (by simp) (by simp) rfl (fun _ h => nomatch h) (fun x hx => by simp)]
  simp [within]
theorem filter_any (lot o : List Str) : decide (0 < (o.filter fun x => decide (x ∈ lot)).length) = o.any fun x => decide (x ∈ lot) := by
  rw [Bool.eq_iff_iff, decide_eq_true_iff, List.length_pos_iff_exists_mem, List.any_eq_true]
  constructor
  · rintro ⟨x, hx⟩; exact ⟨x, (List.mem_filter.mp hx).1, (List.mem_filter.mp hx).2⟩
  · rintro ⟨x, h1, h2⟩; exact ⟨x, List.mem_filter.mpr ⟨h1, h2⟩⟩
theorem e_g_meets (hf : Γ 18 = some GL.f_law_g_meets) (lot : List Str) (ls : List (List Str)) : runF con wf Γ (n + 1) 18 [.dat (tS lot), .dat (lD ls)] = .ok (.dat (.bl (meetsA lot ls))) [.un, .un] := by
  rw [run_of hf rfl rfl]
  simp only [GL.b_law_g_meets, xSs_cons, xS_ret, xE_bif, xEs_cons]
  rw [lc_m (enc := tS) (s := .un) (xs := ls) (fun o => .bl (o.any fun x => decide (x ∈ lot))) (by simp) (by simp) rfl (fun _ h => nomatch h) (fun o ho => by
    simp only [xE_cmp, xE_bif, xEs_cons]
    rw [lc_fm (enc := D.str) (s := .un) (xs := o) (fun x => decide (x ∈ lot)) D.str (by simp) (by simp) rfl (fun _ h => nomatch h) (fun x hx => by simp) (fun x hx _ => by simp)]
    rw [← filter_any]
    simp)]
  simp [meetsA]
theorem e_g_holds (h17 : Γ 17 = some GL.f_law_g_inside) (hf : Γ 19 = some GL.f_law_g_holds) (lot : List Str) (others : List (List Str)) : runF con wf Γ (n + 2) 19 [.dat (tS lot), .dat (lD others)] = .ok (.dat (.bl (holdsO lot others))) [.un, .un] := by
  rw [run_of hf rfl rfl]
  simp only [GL.b_law_g_holds, xSs_cons, xS_ret, xE_bif, xEs_cons]
  rw [lc_m (enc := tS) (s := .un) (xs := others) (fun o => .bl (within o lot)) (by simp) (by simp) rfl (fun _ h => nomatch h) (fun o ho => by simp [e_g_inside h17])]
  simp [holdsO]
theorem e_blockers (hf : Γ 14 = some GL.f_law_blockers) (names : List Str) (lots : List (List Str)) (h : names.length ≤ 20) : runF con wf Γ (n + 2) 14 [.dat (.lst (names.map .str)), .dat (lD lots)] = .ok (.own (.lst ((blk (ordL (subs (sortP PyData.str names))) lots).map tS))) [.un, .un] := by
  rw [run_of hf rfl rfl]
  obtain ⟨sl, e, -, nwsl⟩ := for_fold (con := con) (call := runF con wf Γ (n + 1)) (wf := wf) (br := brF [false, false]) (j := 3) (enc := D.str) (b := GL.l_law_blockers_2)
    (fun (ls : List (List Str)) sl => [.dat (.lst (names.map .str)), .dat (lD lots), .dat (lD ls), sl, .un, .un, .un]) (fun ls x => ls ++ ls.map (· ++ [x])) (fun xs ls => ls.length * 2 ^ xs.length ≤ 1048576 ∧ ∀ l ∈ ls, l.length + xs.length ≤ 20) (fun _ _ _ => rfl)
    (fun x xs ls ⟨p, q⟩ => by
      rw [List.length_cons, Nat.pow_succ] at p
      have p1 : 1 ≤ 2 ^ xs.length := Nat.one_le_two_pow
      have p2 : ls.length * 2 ≤ 1048576 := Nat.le_trans (by rw [Nat.mul_comm (2 ^ xs.length) 2, ← Nat.mul_assoc]; exact Nat.le_mul_of_pos_right _ p1) p
      refine ⟨.inl ?_, ?_, ?_⟩
      · have e := cat_lD ls (ls.map (· ++ [x])) (by simp only [List.length_map]; omega)
        simp only [GL.l_law_blockers_2, xSs_cons, xS_asg, xE_bin, xE_var, getD_s, getD_z, opt_s, xE_bin1]
        rw [lc_m (enc := tS) (s := .un) (xs := ls) (fun l => tS (l ++ [x])) (by simp) (by simp) rfl (fun _ h => nomatch h) (fun l hl => by
            have := q l hl
            have e := bin_catT (l.map .str) [.str x] (by simp; simp at this; omega)
            simp [tS] at e ⊢
            simp [e])]
        rw [show D.lst (ls.map fun l => tS (l ++ [x])) = lD (ls.map (· ++ [x])) from by simp [lD, List.map_map, Function.comp_def]]
        simp [e]
      · simp only [List.length_append, List.length_map]
        refine Nat.le_trans (Nat.le_of_eq ?_) p
        rw [← Nat.mul_two, Nat.mul_assoc, Nat.mul_comm 2]
      · intro l hl
        rcases List.mem_append.mp hl with h | h
        · have := q l h; simp at this; omega
        · obtain ⟨m, hm, rfl⟩ := List.mem_map.mp h
          have := q m hm
          simp at this ⊢; omega)
    (sortP PyData.str names) [[]] .un ⟨by rw [sortP_len]; simpa using Nat.pow_le_pow_right (by omega : 1 ≤ 2) h, by rw [sortP_len]; simp; omega⟩
  have e : forB con (runF con wf Γ (n + 1)) wf 3 none (brF [false, false]) GL.l_law_blockers_2 ((sortP PyData.str names).map D.str) [.dat (.lst (names.map .str)), .dat (lD lots), .dat (.lst [.tup []]), .un, .un, .un, .un] = .nx [.dat (.lst (names.map .str)), .dat (lD lots), .dat (lD (subs (sortP PyData.str names))), sl, .un, .un, .un] := e
  have hlen : (subs (sortP PyData.str names)).length ≤ 1048576 := by
    unfold subs
    rw [subs_len, sortP_len]
    simpa using Nat.pow_le_pow_right (by omega : 1 ≤ 2) h
  have fld : ∀ (rs f : List (List Str)), (rs.foldl (fun f r => if holdsO r f then f else if meetsA r lots then f ++ [r] else f) f).length ≤ f.length + rs.length := by
    intro rs
    induction rs with
    | nil => intro f; simp
    | cons r rs ih =>
      intro f
      rw [List.foldl_cons]
      refine Nat.le_trans (ih _) ?_
      split
      · simp
      · split <;> simp <;> omega
  obtain ⟨R, hR⟩ : ∃ R, R = lD (subs (sortP PyData.str names)) := ⟨_, rfl⟩
  obtain ⟨sl', e', -⟩ := for_fold (con := con) (call := runF con wf Γ (n + 1)) (wf := wf) (br := brF [false, false]) (j := 5) (enc := tS) (b := GL.l_law_blockers_5)
    (fun (f : List (List Str)) sl' => [.dat (.lst (names.map .str)), .dat (lD lots), .dat R, sl, .own (.lst (f.map tS)), sl', .un]) (fun f r => if holdsO r f then f else if meetsA r lots then f ++ [r] else f) (fun rs f => f.length + rs.length ≤ 1048576) (fun _ _ _ => rfl)
    (fun r rs f p => by
      rw [List.length_cons] at p
      have z1 : evE con (runF con wf Γ (n + 1)) (.lc 6 (.own 4) (.is (.cst (.bl true))) (.bif .all (.cons (.lc 3 (.dat (.var 6)) (.is (.cst (.bl true))) (.cmp .inn (.var 3) (.var 5))) (.nil)))) [.dat (.lst (names.map .str)), .dat (lD lots), .dat R, sl, .own (.lst (f.map tS)), .dat (tS r), .un] = .ok (.lst (f.map fun o => .bl (within o r))) [.dat (.lst (names.map .str)), .dat (lD lots), .dat R, sl, .own (.lst (f.map tS)), .dat (tS r), .un] := by
        rw [lc_m (enc := tS) (s := .un) (xs := f) (fun o => .bl (within o r)) (by simp) (by simp) rfl (fun _ h => nomatch h) (fun o ho => by
          simp only [xE_bif, xEs_cons]
          rw [lc_m (enc := D.str) (s := sl) (xs := o) (fun x => .bl (decide (x ∈ r))) (by simp) (by simp) rfl (by rcases nwsl with rfl | ⟨d, rfl⟩ <;> exact fun _ h => nomatch h) (fun x hx => by simp)]
          simp [within])]
      have z2 : evE con (runF con wf Γ (n + 1)) (.lc 6 (.dat (.var 1)) (.is (.cst (.bl true))) (.bif .any (.cons (.lc 3 (.dat (.var 6)) (.is (.cst (.bl true))) (.cmp .inn (.var 3) (.var 5))) (.nil)))) [.dat (.lst (names.map .str)), .dat (lD lots), .dat R, sl, .own (.lst (f.map tS)), .dat (tS r), .un] = .ok (.lst (lots.map fun o => .bl (o.any fun x => decide (x ∈ r)))) [.dat (.lst (names.map .str)), .dat (lD lots), .dat R, sl, .own (.lst (f.map tS)), .dat (tS r), .un] := by
        rw [lc_m (enc := tS) (s := .un) (xs := lots) (fun o => .bl (o.any fun x => decide (x ∈ r))) (by simp) (by simp) rfl (fun _ h => nomatch h) (fun o ho => by
          simp only [xE_bif, xEs_cons]
          rw [lc_m (enc := D.str) (s := sl) (xs := o) (fun x => .bl (decide (x ∈ r))) (by simp) (by simp) rfl (by rcases nwsl with rfl | ⟨d, rfl⟩ <;> exact fun _ h => nomatch h) (fun x hx => by simp)]
          simp)]
      have z3 : bifD .any [.lst (f.map fun o => D.bl (within o r))] = some (.bl (holdsO r f)) := bif_any _ _
      have z4 : bifD .all [.lst (lots.map fun o => D.bl (o.any fun x => decide (x ∈ r)))] = some (.bl (meetsA r lots)) := bif_all _ _
      have hl : f.length < 16777216 := by omega
      cases c1 : holdsO r f with
      | true =>
        rw [c1] at z3
        refine ⟨.inr ?_, by simp; omega⟩
        simp [GL.l_law_blockers_5, z1, z3]
      | false =>
        rw [c1] at z3
        cases c2 : meetsA r lots with
        | true =>
          rw [c2] at z4
          refine ⟨.inl ?_, by simp; omega⟩
          simp [GL.l_law_blockers_5, z1, z3, z2, z4, sizeLine_eq, hl]
        | false =>
          rw [c2] at z4
          refine ⟨.inl ?_, by simp; omega⟩
          simp [GL.l_law_blockers_5, z1, z3, z2, z4])
    (ordL (subs (sortP PyData.str names))) [] .un (by rw [ordL_len]; simpa using hlen)
  have e' : forB con (runF con wf Γ (n + 1)) wf 5 none (brF [false, false]) GL.l_law_blockers_5 ((ordL (subs (sortP PyData.str names))).map tS) [.dat (.lst (names.map .str)), .dat (lD lots), .dat R, sl, .own (.lst []), .un, .un] = .nx [.dat (.lst (names.map .str)), .dat (lD lots), .dat R, sl, .own (.lst ((blk (ordL (subs (sortP PyData.str names))) lots).map tS)), sl', .un] := e'
  rw [← hR] at e
  simp [GL.b_law_blockers, srt_strs, e, hR]
  rw [← hR, e']
  simp
theorem filter_none (lot : List Str) (ls : List (List Str)) : (ls.any fun o => decide (((o.filter fun x => decide (x ∈ lot)).length : Int) = 0)) = !meetsA lot ls := by
  rw [Bool.eq_iff_iff, List.any_eq_true, Bool.not_eq_true', meetsA, List.all_eq_false]
  constructor
  · rintro ⟨o, h1, h2⟩
    refine ⟨o, h1, ?_⟩
    rw [← filter_any]
    simp only [decide_eq_true_eq] at h2 ⊢
    omega
  · rintro ⟨o, h1, h2⟩
    refine ⟨o, h1, ?_⟩
    rw [← filter_any] at h2
    simp only [decide_eq_true_eq] at h2 ⊢
    omega
/-- the law's own fault -/
def dueM (names : List Str) (h k : List (List Str)) : Option (Str × List Str) :=
  match dblAt h with
  | some i => some ("not least", h.getD i [])
  | none => match dblAt k with
    | some i => some ("not least", k.getD i [])
    | none => match h.find? (fun l => !meetsA l k) with
      | some l => some ("apart", l)
      | none => match (lotSorted (subs (sortP PyData.str names))).find? (fun l => (meetsA l h && !holdsO l k) || (meetsA l k && !holdsO l h)) with
        | some l => some ("without", l)
        | none => none
theorem foldl_addL_len : ∀ (ls acc : List (List Str)), (ls.foldl addL acc).length ≤ acc.length + ls.length
  | [], acc => by simp
  | l :: ls, acc => by
    have := addL_len acc l
    have := foldl_addL_len ls (addL acc l)
    simp only [List.foldl_cons, List.length_cons]; omega
theorem e_due (h13 : Γ 13 = some GL.f_law_lot_sorted) (h15 : Γ 15 = some GL.f_law_e_lots) (h17 : Γ 17 = some GL.f_law_g_inside) (h18 : Γ 18 = some GL.f_law_g_meets) (h19 : Γ 19 = some GL.f_law_g_holds) (hf : Γ 20 = some GL.f_law_g_due)
    (names : List Str) (H K : List (List Str)) (ln : names.length ≤ 20) (lH : H.length ≤ 16777216) (lK : K.length ≤ 16777216) :
    runF con wf Γ (n + 3) 20 [.dat (.lst (names.map .str)), .dat (lD H), .dat (lD K)] = .ok (.dat (rD (dueM names H K))) [.un, .un, .un] := by
  rw [run_of hf rfl rfl]
  obtain ⟨N, hN⟩ : ∃ N, N = D.lst (names.map .str) := ⟨_, rfl⟩
  have inner : ∀ (ls : List (List Str)) (sl : DL.Slot), ls.length ≤ 16777216 → ∃ sl', forB con (runF con wf Γ (n + 2)) wf 4 none (brF [false, false, false]) GL.l_law_g_due_2 (nats ls.length) [.dat N, .dat (lD H), .dat (lD K), .dat (lD ls), sl, .un, .un, .un, .un] = match dblAt ls with
      | some i => .rt (.dat (.tup [.str "not least", tS (ls.getD i [])])) [.dat N, .dat (lD H), .dat (lD K), .dat (lD ls), .dat (.int i), .un, .un, .un, .un]
      | none => .nx [.dat N, .dat (lD H), .dat (lD K), .dat (lD ls), sl', .un, .un, .un, .un] := by
    intro ls sl h
    obtain ⟨sl', e⟩ := for_find (con := con) (call := runF con wf Γ (n + 2)) (wf := wf) (br := brF [false, false, false]) (j := 4) (enc := fun (k : Nat) => D.int (k : Int)) (b := GL.l_law_g_due_2) (fun sl => [.dat N, .dat (lD H), .dat (lD K), .dat (lD ls), sl, .un, .un, .un, .un]) (fun i => holdsO (ls.getD i []) (rem1 ls i)) (fun i => .dat (.tup [.str "not least", tS (ls.getD i [])])) (fun i => [.dat N, .dat (lD H), .dat (lD K), .dat (lD ls), .dat (.int i), .un, .un, .un, .un]) (fun _ _ => rfl) (List.range ls.length) sl (fun i hi => by
      have hi : i < ls.length := by simpa using hi
      have e1 := atI_getD ls i hi
      have e2 := rem1_D ls i h hi
      cases c : holdsO (ls.getD i []) (rem1 ls i) <;> simp [GL.l_law_g_due_2, e1, e2, e_g_holds h17 h19, c, -List.getD_eq_getElem?_getD])
    refine ⟨sl', ?_⟩
    have e0 : (List.range ls.length).find? (fun i => holdsO (ls.getD i []) (rem1 ls i)) = dblAt ls := rfl
    rw [e0, show (List.range ls.length).map (fun (k : Nat) => D.int (k : Int)) = nats ls.length from rfl] at e
    cases c : dblAt ls with
    | none => rw [c] at e; exact e
    | some i => rw [c] at e; exact e
  have rH : rngD 0 (H.length : Int) = some (nats H.length) := rngD_nat lH
  have rK : rngD 0 (K.length : Int) = some (nats K.length) := rngD_nat lK
  obtain ⟨s1, dH⟩ := inner H .un lH
  obtain ⟨s2, dK⟩ := inner K s1 lK
  rw [← hN]
  unfold dueM
  cases c1 : dblAt H with
  | some i =>
    rw [c1] at dH
    simp [GL.b_law_g_due, forB_cons, GL.l_law_g_due_1, rH, dH, rD, -List.getD_eq_getElem?_getD]
  | none =>
    rw [c1] at dH
    cases c2 : dblAt K with
    | some i =>
      rw [c2] at dK
      simp [GL.b_law_g_due, forB_cons, GL.l_law_g_due_1, rH, rK, dH, dK, rD, -List.getD_eq_getElem?_getD]
    | none =>
      rw [c2] at dK
      obtain ⟨sl, e⟩ := for_find (con := con) (call := runF con wf Γ (n + 2)) (wf := wf) (br := brF [false, false, false]) (j := 5) (enc := tS) (b := GL.l_law_g_due_5) (fun sl => [.dat N, .dat (lD H), .dat (lD K), .dat (lD K), s2, sl, .un, .un, .un]) (fun l => !meetsA l K) (fun l => .dat (.tup [.str "apart", tS l])) (fun l => [.dat N, .dat (lD H), .dat (lD K), .dat (lD K), s2, .dat (tS l), .un, .un, .un]) (fun _ _ => rfl) H .un (fun l hl => by
        have z : evE con (runF con wf Γ (n + 2)) (.lc 6 (.dat (.var 2)) (.is (.cst (.bl true))) (.cmp .eq (.bif .len (.cons (.lc 8 (.dat (.var 6)) (.cmp .inn (.var 8) (.var 5)) (.var 8)) (.nil))) (.cst (.int 0)))) [.dat N, .dat (lD H), .dat (lD K), .dat (lD K), s2, .dat (tS l), .un, .un, .un] = .ok (.lst (K.map fun o => .bl (decide (((o.filter fun x => decide (x ∈ l)).length : Int) = 0)))) [.dat N, .dat (lD H), .dat (lD K), .dat (lD K), s2, .dat (tS l), .un, .un, .un] := by
          rw [lc_m (enc := tS) (s := .un) (xs := K) (fun o => .bl (decide (((o.filter fun x => decide (x ∈ l)).length : Int) = 0))) (by simp) (by simp) rfl (fun _ h => nomatch h) (fun o ho => by
            simp only [xE_cmp, xE_bif, xEs_cons]
            rw [lc_fm (enc := D.str) (s := .un) (xs := o) (fun x => decide (x ∈ l)) D.str (by simp) (by simp) rfl (fun _ h => nomatch h) (fun x hx => by simp) (fun x hx _ => by simp)]
            simp)]
        have z2 : bifD .any [.lst (K.map fun o => D.bl (decide (((o.filter fun x => decide (x ∈ l)).length : Int) = 0)))] = some (.bl (!meetsA l K)) := by rw [bif_any, filter_none]
        generalize (K.map fun o => D.bl (decide (((o.filter fun x => decide (x ∈ l)).length : Int) = 0))) = A at z z2
        cases c : meetsA l K <;> rw [c] at z2 <;> simp [GL.l_law_g_due_5, z, z2])
      cases c3 : H.find? (fun l => !meetsA l K) with
      | some l =>
        rw [c3] at e
        simp [GL.b_law_g_due, forB_cons, forB_nil, GL.l_law_g_due_1, rH, rK, dH, dK, e, rD]
      | none =>
        rw [c3] at e
        have es := e_e_lots (con := con) (wf := wf) (n := n) h15 (sortP PyData.str names) (by rw [sortP_len]; exact ln)
        have hsub : (subs (sortP PyData.str names)).length ≤ 1048576 := by
          unfold subs
          rw [subs_len, sortP_len]
          simpa using Nat.pow_le_pow_right (by omega : 1 ≤ 2) ln
        have et := e_lot_sorted (con := con) (wf := wf) (n := n + 1) h13 (subs (sortP PyData.str names)) (by omega)
        have e' := for_findP (con := con) (call := runF con wf Γ (n + 2)) (wf := wf) (br := brF [false, false, false]) (j := 5) (enc := tS) (b := GL.l_law_g_due_8) (fun g => ∃ a b c, g = [.dat N, .dat (lD H), .dat (lD K), .dat (lD K), s2, a, b, c, .un]) (fun g => back [false, false, false] g = [.un, .un, .un]) (fun l => (meetsA l H && !holdsO l K) || (meetsA l K && !holdsO l H)) (fun l => .dat (.tup [.str "without", tS l])) (lotSorted (subs (sortP PyData.str names))) [.dat N, .dat (lD H), .dat (lD K), .dat (lD K), s2, sl, .un, .un, .un] ⟨_, _, _, rfl⟩ (fun l hl g ⟨a, b, c, hg⟩ => by
          subst hg
          constructor
          · intro hp
            cases q1 : meetsA l H <;> cases q2 : holdsO l K <;> cases q3 : meetsA l K <;> cases q4 : holdsO l H <;> simp [q1, q2, q3, q4] at hp <;> simp [GL.l_law_g_due_8, GL.l_law_g_due_9, e_g_meets h18, e_g_holds h17 h19, q1, q2, q3, q4, setAll]
          · intro hp
            cases q1 : meetsA l H <;> cases q2 : holdsO l K <;> cases q3 : meetsA l K <;> cases q4 : holdsO l H <;> simp [q1, q2, q3, q4] at hp <;> simp [GL.l_law_g_due_8, GL.l_law_g_due_9, e_g_meets h18, e_g_holds h17 h19, q1, q2, q3, q4, setAll])
        have hc : evE con (runF con wf Γ (n + 2)) (.call 13 (.val (.call 15 (.val (.srt .plain (.var 0)) (.nil))) (.nil))) [.dat N, .dat (lD H), .dat (lD K), .dat (lD K), s2, sl, .un, .un, .un] = .ok (lD (lotSorted (subs (sortP PyData.str names)))) [.dat N, .dat (lD H), .dat (lD K), .dat (lD K), s2, sl, .un, .un, .un] := by
          simp [hN, srt_strs, es, et]; rfl
        have sq : evSs con (runF con wf Γ (n + 2)) wf GL.b_law_g_due (brF [false, false, false]) [.dat N, .dat (lD H), .dat (lD K), .un, .un, .un, .un, .un, .un] = kS con (runF con wf Γ (n + 2)) wf (.cons (.ret (.cst .non)) .nil) (brF [false, false, false]) (forB con (runF con wf Γ (n + 2)) wf 5 none (brF [false, false, false]) GL.l_law_g_due_8 ((lotSorted (subs (sortP PyData.str names))).map tS) [.dat N, .dat (lD H), .dat (lD K), .dat (lD K), s2, sl, .un, .un, .un]) := by
          have q1 : evSs con (runF con wf Γ (n + 2)) wf GL.b_law_g_due (brF [false, false, false]) [.dat N, .dat (lD H), .dat (lD K), .un, .un, .un, .un, .un, .un] = evSs con (runF con wf Γ (n + 2)) wf (.cons (.fors 5 (.dat (.call 13 (.val (.call 15 (.val (.srt .plain (.var 0)) (.nil))) (.nil)))) (GL.l_law_g_due_8)) (.cons (.ret (.cst .non)) .nil)) (brF [false, false, false]) [.dat N, .dat (lD H), .dat (lD K), .dat (lD K), s2, sl, .un, .un, .un] := by
            simp only [GL.b_law_g_due]
            rw [xSs_cons (s := S.fors 3 _ _)]
            simp [forB_cons, forB_nil, GL.l_law_g_due_1, rH, rK, dH, dK, e]
          rw [q1, xSs_cons, xS_for, xI_dat, hc]
          simp
        cases c4 : (lotSorted (subs (sortP PyData.str names))).find? (fun l => (meetsA l H && !holdsO l K) || (meetsA l K && !holdsO l H)) with
        | some l =>
          obtain ⟨g, h, hb⟩ := e'.1 l c4
          simp [sq, h, hb, rD]
        | none =>
          obtain ⟨g, h, a, b, c, rfl⟩ := e'.2 c4
          simp [sq, h, rD]
/-! ### drawn lots -/
def drawnL (told : List (List Str)) : List (List Str) := (lotSorted told).filter fun l => !holdsO l (told.filter fun o => !decide (o = l))
theorem e_drawn (h8 : Γ 8 = some GL.f_law_pick) (h9 : Γ 9 = some GL.f_law_shuffled) (h13 : Γ 13 = some GL.f_law_lot_sorted) (h16 : Γ 16 = some GL.f_law_g_lot) (h17 : Γ 17 = some GL.f_law_g_inside) (h19 : Γ 19 = some GL.f_law_g_holds) (hf : Γ 21 = some GL.f_law_g_drawn_lots)
    (s : S4) (names : List Str) (m : Nat) (ln : names.length ≤ 20) (lm : m ≤ 100) :
    ∃ (told : List (List Str)) (s' : S4), runF con wf Γ (n + 3) 21 [.own (.lst s.ds), .dat (.lst (names.map .str)), .dat (.int m)] = .ok (.own (.lst ((drawnL told).map tS))) [.own (.lst s'.ds), .un, .un] ∧ told.length = m ∧ ∀ l ∈ told, Lot l ∧ l.length ≤ 20 ∧ ∀ x ∈ l, x ∈ names := by
  rw [run_of hf rfl rfl]
  have i9 : (9 : Int) < 1073741824 := by omega
  obtain ⟨g, e, s', told, sl, rfl, h1, h2, h3⟩ := for_inv (con := con) (call := runF con wf Γ (n + 2)) (wf := wf) (br := brF [true, false, false]) (j := 4) (enc := fun (k : Nat) => D.int (k : Int)) (b := GL.l_law_g_drawn_lots_2)
    (fun rs g => ∃ (s' : S4) (told : List (List Str)) (sl : DL.Slot), g = [.own (.lst s'.ds), .dat (.lst (names.map .str)), .dat (.int m), .own (.lst (told.map tS)), sl, .un, .un] ∧ told.length + rs.length = m ∧ (∀ l ∈ told, Lot l ∧ l.length ≤ 20 ∧ ∀ x ∈ l, x ∈ names) ∧ Nw sl)
    (by
      rintro x rs g ⟨s', told, sl, rfl, h1, h2, h3⟩
      rw [List.length_cons] at h1
      have hm : (names.length : Int) < 1073741824 := by omega
      obtain ⟨i, hi⟩ : ∃ i, i = pk (shs s' names) names.length + (if 0 < pk (nk (shs s' names) names.length) 9 then 1 else 0) := ⟨_, rfl⟩
      obtain ⟨xs, hxs⟩ : ∃ xs, xs = cut (sh s' names) none (some i) := ⟨_, rfl⟩
      have hsub : ∀ x ∈ xs, x ∈ names := by
        intro x hx
        rw [hxs] at hx
        unfold cut at hx
        exact (sh_mem _ _ _).mp (List.mem_of_mem_drop (List.mem_of_mem_take hx))
      have hlen : xs.length ≤ 20 := by
        rw [hxs]; unfold cut
        have := sh_len s' names
        rw [List.length_take, List.length_drop]; omega
      have e1 := e_shuffled (con := con) (wf := wf) (n := n) h8 h9 D.str s' names (.lst (names.map .str)) (.lst _) (by omega)
      have e2 := e_g_lot (con := con) (wf := wf) (n := n + 1) h16 (Rw.lst (xs.map D.str)) (show xs.length < 4000 by omega)
      have e3 : cut ((sh s' names).map D.str) none (some i) = xs.map D.str := by rw [cut_map, hxs]
      have hl : told.length < 16777216 := by omega
      have := setS_len xs
      refine ⟨_, .inl ?_, nk (nk (shs s' names) names.length) 9, told ++ [setS xs], .dat (.int x), rfl, by simp; omega, ?_, .inr ⟨_, rfl⟩⟩
      · simp [GL.l_law_g_drawn_lots_2, e1, e_pick h8 _ _ hm, e_pick h8 _ _ i9, ← hi, e3, e2, sizeLine_eq, hl]
      · intro l hl
        rcases List.mem_append.mp hl with q | q
        · exact h2 l q
        · simp at q; subst q
          exact ⟨setS_lot xs, by omega, fun x hx => hsub x ((mem_setS x xs).mp hx)⟩)
    (List.range m) [.own (.lst s.ds), .dat (.lst (names.map .str)), .dat (.int m), .own (.lst []), .un, .un, .un] ⟨s, [], .un, rfl, by simp, by simp, .inl rfl⟩
  have er : rngD 0 (m : Int) = some (nats m) := rngD_nat (by omega)
  rw [show (List.range m).map (fun (k : Nat) => D.int (k : Int)) = nats m from rfl] at e
  have h1 : told.length = m := by simpa using h1
  refine ⟨told, s', ?_, h1, h2⟩
  have et := e_lot_sorted (con := con) (wf := wf) (n := n + 1) h13 told (by omega)
  have ez : evE con (runF con wf Γ (n + 2)) (.lc 5 (.dat (.call 13 (.val (.frz 3) (.nil)))) (.nt (.tru (.call 19 (.val (.var 5) (.val (.lc 6 (.dat (.var 3)) (.cmp .ne (.var 6) (.var 5)) (.var 6)) (.nil)))))) (.var 5)) [.own (.lst s'.ds), .dat (.lst (names.map .str)), .dat (.int m), .own (.lst (told.map tS)), sl, .un, .un] = .ok (.lst ((drawnL told).map tS)) [.own (.lst s'.ds), .dat (.lst (names.map .str)), .dat (.int m), .dat (lD told), sl, .un, .un] := by
    refine lc_fx (enc := tS) (s := .un) (xs := lotSorted told) (fun l => !holdsO l (told.filter fun o => !decide (o = l))) tS ?_ (by simp) rfl (fun _ h => nomatch h) (fun l hl => ?_) fun l hl _ => by simp
    · have : D.lst (told.map tS) = lD told := rfl
      simp [this, et]
    · have ey : evE con (runF con wf Γ (n + 2)) (.lc 6 (.dat (.var 3)) (.cmp .ne (.var 6) (.var 5)) (.var 6)) [.own (.lst s'.ds), .dat (.lst (names.map .str)), .dat (.int m), .dat (lD told), sl, .dat (tS l), .un] = .ok (lD (told.filter fun o => !decide (o = l))) [.own (.lst s'.ds), .dat (.lst (names.map .str)), .dat (.int m), .dat (lD told), sl, .dat (tS l), .un] :=
        lc_fm (enc := tS) (s := .un) (xs := told) (fun o => !decide (o = l)) tS (by simp) (by simp) rfl (fun _ h => nomatch h) (fun o ho => by simp) (fun o ho _ => by simp)
      simp [ey, e_g_holds h17 h19]
  simp [GL.b_law_g_drawn_lots, er, e, ez]
/-! ### lots bent and loose -/
theorem xS_insT {i : Nat} {n : Int} {x : D} {g : Fm} {xs : List D} (h1 : xs.length < 16777216) (h2 : 0 ≤ n) (h3 : n < 2 ^ 63) : kIns3 i n x g (some xs) = .nx (g.set i (.own (.lst (xs.take n.toNat ++ [x] ++ xs.drop n.toNat)))) := by
  rw [xS_ins3, if_pos ⟨by rw [sizeLine_eq]; exact h1, h2, h3⟩]
def Okl (N B : Nat) (ls : List (List Str)) : Prop := ls.length ≤ N ∧ ∀ l ∈ ls, Lot l ∧ l.length ≤ B
theorem e_bent (h8 : Γ 8 = some GL.f_law_pick) (h9 : Γ 9 = some GL.f_law_shuffled) (h16 : Γ 16 = some GL.f_law_g_lot) (hf : Γ 22 = some GL.f_law_g_bent_lots)
    (s : S4) (names : List Str) (lots : List (List Str)) (N B : Nat) (ln : names.length ≤ 20) (l1 : 1 ≤ names.length) (hN : N ≤ 1000) (hB : B ≤ 1000) (hb : 20 ≤ B) (ok : Okl N B lots) :
    ∃ (ls : List (List Str)) (s' : S4), runF con wf Γ (n + 3) 22 [.own (.lst s.ds), .dat (.lst (names.map .str)), .dat (lD lots)] = .ok (.own (.lst (ls.map tS))) [.own (.lst s'.ds), .un, .un] ∧ Okl (N + 1) (B + 1) ls := by
  obtain ⟨okn, okl⟩ := ok
  have i4 : (4 : Int) < 1073741824 := by omega
  have iL : (lots.length : Int) < 1073741824 := by omega
  have iN : (names.length : Int) < 1073741824 := by omega
  have iN1 : (names.length : Int) + 1 < 1073741824 := by omega
  obtain ⟨kd, hkd⟩ : ∃ kd, kd = pk s 4 := ⟨_, rfl⟩
  obtain ⟨s1, hs1⟩ : ∃ s1, s1 = nk s 4 := ⟨_, rfl⟩
  obtain ⟨k, hk⟩ : ∃ k, k = pk s1 lots.length := ⟨_, rfl⟩
  obtain ⟨s2, hs2⟩ : ∃ s2, s2 = nk s1 lots.length := ⟨_, rfl⟩
  have k0 : 0 ≤ k := by rw [hk]; exact pk_nn _ _
  have e0 : ∀ q : Int, lend [2] 0 [.own (.lst s1.ds), .dat (.lst (names.map .str)), .own (.lst (lots.map tS)), .dat (.int q), .un] = some [.un, .dat (.lst (names.map .str)), .dat (.lst (lots.map tS)), .dat (.int q), .un] := fun q => by simp [lend, O.frz]
  have e1 : ∀ q : Int, lend [2] 0 [.own (.lst s2.ds), .dat (.lst (names.map .str)), .own (.lst (lots.map tS)), .dat (.int q), .dat (.int k)] = some [.un, .dat (.lst (names.map .str)), .dat (.lst (lots.map tS)), .dat (.int q), .dat (.int k)] := fun q => by simp [lend, O.frz]
  have hset : ∀ l : List Str, l.length ≤ B + 1 → Lot (setS l) ∧ (setS l).length ≤ B + 1 := fun l h => ⟨setS_lot l, Nat.le_trans (setS_len l) h⟩
  obtain ⟨i, hi⟩ : ∃ i, i = pk (shs s2 names) (names.length + 1) := ⟨_, rfl⟩
  obtain ⟨xs, hxs⟩ : ∃ xs, xs = cut (sh s2 names) none (some i) := ⟨_, rfl⟩
  have hlen : xs.length ≤ 20 := by
    rw [hxs]; unfold cut
    have := sh_len s2 names
    rw [List.length_take, List.length_drop]; omega
  have z1 := e_shuffled (con := con) (wf := wf) (n := n) h8 h9 D.str s2 names (.lst (names.map .str)) (.lst _) (by omega)
  have z2 := e_g_lot (con := con) (wf := wf) (n := n + 1) h16 (Rw.lst (xs.map D.str)) (show xs.length < 4000 by omega)
  have z3 : cut ((sh s2 names).map D.str) none (some i) = xs.map D.str := by rw [cut_map, hxs]
  have hk63 : k < 2 ^ 63 := by
    by_cases h : lots.length = 0
    · rw [hk, h]; simp [pk]
    · have := pk_lt s1 lots.length (by omega)
      rw [← hk] at this; omega
  have hl24 : (lots.map tS).length < 16777216 := by simp; omega
  have ok4 : Okl (N + 1) (B + 1) (lots.take k.toNat ++ [setS xs] ++ lots.drop k.toNat) := by
    refine ⟨by simp; omega, fun l hl => ?_⟩
    simp only [List.mem_append, List.mem_singleton] at hl
    rcases hl with (q | q) | q
    · have := okl l (List.mem_of_mem_take q); exact ⟨this.1, by omega⟩
    · subst q; have := setS_len xs; exact ⟨setS_lot xs, by omega⟩
    · have := okl l (List.mem_of_mem_drop q); exact ⟨this.1, by omega⟩
  have ok1 : Okl (N + 1) (B + 1) lots := ⟨by omega, fun l hl => ⟨(okl l hl).1, by have := (okl l hl).2; omega⟩⟩
  rw [run_of hf rfl rfl]
  have p4 := e_pick (con := con) (wf := wf) (n := n + 1) h8 s 4 i4
  rw [← hkd, ← hs1] at p4
  have pL := e_pick (con := con) (wf := wf) (n := n + 1) h8 s1 lots.length iL
  rw [← hk, ← hs2] at pL
  by_cases hz : lots.length = 0
  · -- no lot: one is put in
    refine ⟨lots.take k.toNat ++ [setS xs] ++ lots.drop k.toNat, nk (shs s2 names) (names.length + 1), ?_, ok4⟩
    have pL : runF con wf Γ (n + 2) 8 [.own (.lst s1.ds), .dat (.int 0)] = .ok (.dat (.int k)) [.own (.lst s2.ds), .un] := by simpa [hz] using pL
    by_cases q0 : kd = 0
    · simp [GL.b_law_g_bent_lots, p4, pL, e0, e1, hz, q0, z1, e_pick h8 _ _ iN1, ← hi, z3, z2, xS_insT hl24 k0 hk63, -xS_ins3]
    · by_cases q1 : kd = 1
      · simp [GL.b_law_g_bent_lots, p4, pL, e0, e1, hz, q0, q1, z1, e_pick h8 _ _ iN1, ← hi, z3, z2, xS_insT hl24 k0 hk63, -xS_ins3]
      · by_cases q2 : kd = 2
        · simp [GL.b_law_g_bent_lots, p4, pL, e0, e1, hz, q0, q1, q2, z1, e_pick h8 _ _ iN1, ← hi, z3, z2, xS_insT hl24 k0 hk63, -xS_ins3]
        · simp [GL.b_law_g_bent_lots, p4, pL, e0, e1, hz, q0, q1, q2, z1, e_pick h8 _ _ iN1, ← hi, z3, z2, xS_insT hl24 k0 hk63, -xS_ins3]
  have hpos : 0 < lots.length := by omega
  have kl : k < lots.length := by rw [hk]; exact pk_lt _ _ (by omega)
  have kt : k.toNat < lots.length := by omega
  have at1 : atI (lots.map tS) k = some (tS lots[k.toNat]) := by rw [atI_map, atI_int lots k k0 kl]; rfl
  by_cases q0 : kd = 0
  · refine ⟨lots.eraseIdx k.toNat, s2, ?_, ?_, ?_⟩
    · simp [GL.b_law_g_bent_lots, p4, pL, e0, e1, hpos, q0, popO_map tS lots k k0 kl]
    · rw [List.length_eraseIdx]; split <;> omega
    · exact fun l hl => ok1.2 l (List.mem_of_mem_eraseIdx hl)
  by_cases q1 : kd = 1
  · obtain ⟨j, hj⟩ : ∃ j, j = pk s2 names.length := ⟨_, rfl⟩
    have j0 : 0 ≤ j := by rw [hj]; exact pk_nn _ _
    have jl : j < names.length := by rw [hj]; exact pk_lt _ _ (by omega)
    have at2 : atI (names.map D.str) j = some (.str (names[j.toNat]'(by omega))) := by rw [atI_map, atI_int names j j0 jl]; rfl
    generalize names[j.toNat]'(by omega) = x at at2
    obtain ⟨l, hl⟩ : ∃ l, l = lots[k.toNat] := ⟨_, rfl⟩
    rw [← hl] at at1
    have hB' := (okl l (by rw [hl]; exact List.getElem_mem kt)).2
    have c1 : binD .add (tS l) (.tup [.str x]) = some (tS (l ++ [x])) := by
      have e := bin_catT (l.map .str) [.str x] (by simp; omega)
      simpa [tS] using e
    have z4 := e_g_lot (con := con) (wf := wf) (n := n + 1) h16 (Rw.tup ((l ++ [x]).map D.str)) (show (l ++ [x]).length < 4000 by simp; omega)
    rw [show D.tup ((l ++ [x]).map D.str) = tS (l ++ [x]) from rfl] at z4
    have ix : ixN lots.length k = some k.toNat := ixN_int k0 kl
    have pN := e_pick (con := con) (wf := wf) (n := n + 1) h8 s2 names.length iN
    rw [← hj] at pN
    refine ⟨lots.set k.toNat (setS (l ++ [x])), nk s2 names.length, ?_, ?_, ?_⟩
    · simp [GL.b_law_g_bent_lots, p4, pL, e0, e1, hpos, q0, q1, at1, pN, at2, c1, z4, ix, List.map_set]
    · rw [List.length_set]; omega
    · intro l' hl'
      rcases List.mem_or_eq_of_mem_set hl' with q | q
      · exact ok1.2 l' q
      · subst q
        have := setS_len (l ++ [x])
        rw [List.length_append, List.length_singleton] at this
        exact ⟨setS_lot _, by omega⟩
  by_cases q2 : kd = 2
  · obtain ⟨j, hj⟩ : ∃ j, j = pk s2 lots.length := ⟨_, rfl⟩
    have j0 : 0 ≤ j := by rw [hj]; exact pk_nn _ _
    have jl : j < lots.length := by rw [hj]; exact pk_lt _ _ (by omega)
    have pN := e_pick (con := con) (wf := wf) (n := n + 1) h8 s2 lots.length iL
    rw [← hj] at pN
    refine ⟨lots.take j.toNat ++ [lots[k.toNat]] ++ lots.drop j.toNat, nk s2 lots.length, ?_, ?_, ?_⟩
    · simp [GL.b_law_g_bent_lots, p4, pL, e0, e1, hpos, q0, q1, q2, at1, pN, xS_insT hl24 j0 (by omega), -xS_ins3]
    · simp; omega
    · intro l hl
      simp only [List.mem_append, List.mem_singleton] at hl
      rcases hl with (q | q) | q
      · exact ok1.2 l (List.mem_of_mem_take q)
      · subst q; exact ok1.2 _ (List.getElem_mem kt)
      · exact ok1.2 l (List.mem_of_mem_drop q)
  · refine ⟨lots.take k.toNat ++ [setS xs] ++ lots.drop k.toNat, nk (shs s2 names) (names.length + 1), ?_, ok4⟩
    simp [GL.b_law_g_bent_lots, p4, pL, e0, e1, hpos, q0, q1, q2, z1, e_pick h8 _ _ iN1, ← hi, z3, z2, xS_insT hl24 k0 hk63, -xS_ins3]
theorem e_loose (h8 : Γ 8 = some GL.f_law_pick) (h9 : Γ 9 = some GL.f_law_shuffled) (hf : Γ 23 = some GL.f_law_g_loose) (s : S4) (ls : List (List Str)) (hl : ∀ l ∈ ls, l.length ≤ 2000) :
    ∃ (ms : List (List Str)) (s' : S4), runF con wf Γ (n + 3) 23 [.own (.lst s.ds), .dat (lD ls)] = .ok (.own (.lst (ms.map fun m => .lst (m.map .str)))) [.own (.lst s'.ds), .un] ∧ Paired (fun l m => m.length ≤ l.length + 1 ∧ ∀ x, x ∈ m ↔ x ∈ l) ls ms := by
  rw [run_of hf rfl rfl]
  obtain ⟨ms, h, e, ⟨s', rfl⟩, hp⟩ := lc_sty (con := con) (call := runF con wf Γ (n + 2)) (j := 2) (it := .dat (.var 1)) (e := .call 9 (.ref 0 (.val (.bin .add (.bif .lst (.cons (.var 2) (.nil))) (.bif .lst (.cons (.slc (.var 2) (.no) (.at (.cst (.int 1)))) (.nil)))) (.nil)))) (g := [.own (.lst s.ds), .dat (lD ls), .un]) (xs := ls) (enc := tS) (enc' := fun m : List Str => D.lst (m.map .str)) (s := .un)
    (fun h => ∃ s' : S4, h = [.own (.lst s'.ds), .dat (lD ls), .un]) (fun l m => m.length ≤ l.length + 1 ∧ ∀ x, x ∈ m ↔ x ∈ l) (by simp) rfl rfl (fun _ h => nomatch h) ⟨s, rfl⟩ (by
      rintro l hl' h ⟨s', rfl⟩
      have := hl l hl'
      have c1 : cut (l.map D.str) none (some 1) = (l.take 1).map D.str := by rw [show (some (1 : Int)) = some ((1 : Nat) : Int) from rfl, cut_take, List.map_take]
      have c2 : binD .add (.lst (l.map D.str)) (.lst ((l.take 1).map D.str)) = some (.lst ((l ++ l.take 1).map D.str)) := by
        rw [bin_catL _ _ (by simp; omega)]; simp
      have z := e_shuffled (con := con) (wf := wf) (n := n) h8 h9 D.str s' (l ++ l.take 1) (.lst ((l ++ l.take 1).map .str)) (.lst _) (by simp; omega)
      refine ⟨sh s' (l ++ l.take 1), [.own (.lst (shs s' (l ++ l.take 1)).ds), .dat (lD ls), .dat (tS l)], ?_, ⟨_, rfl⟩, ?_, ?_⟩
      · have c3 : slcD (tS l) none (some 1) = some (.tup ((l.take 1).map D.str)) := by rw [tS, slc_t, c1]
        simp [c3, c2, z, -List.map_append, -List.map_take]
      · rw [sh_len]; simp; omega
      · intro x
        rw [sh_mem, List.mem_append]
        exact ⟨fun q => q.elim id fun q => List.mem_of_mem_take q, .inl⟩)
  refine ⟨ms, s', ?_, hp⟩
  simp [GL.b_law_g_loose, e]
end
end DL

set_option Elab.async false
set_option linter.all false
set_option autoImplicit false
set_option maxRecDepth 100000
set_option maxHeartbeats 2000000
/-! K67m: the mathematics of k67. -/
namespace DL
open PySem L2
theorem mem_subs_go (l : List Str) : ∀ (xs : List Str) (ls : List (List Str)), l ∈ xs.foldl (fun ls x => ls ++ ls.map (· ++ [x])) ls ↔ ∃ a ∈ ls, ∃ b, b.Sublist xs ∧ l = a ++ b
  | [], ls => by
    constructor
    · intro h; exact ⟨l, h, [], .slnil, by simp⟩
    · rintro ⟨a, ha, b, hb, rfl⟩
      have : b = [] := by simpa using hb
      subst this; simpa using ha
  | x :: xs, ls => by
    rw [List.foldl_cons, mem_subs_go l xs]
    constructor
    · rintro ⟨a, ha, b, hb, rfl⟩
      rcases List.mem_append.mp ha with h | h
      · exact ⟨a, h, b, hb.cons x, rfl⟩
      · obtain ⟨c, hc, rfl⟩ := List.mem_map.mp h
        exact ⟨c, hc, x :: b, hb.cons₂ x, by simp⟩
    · rintro ⟨a, ha, b, hb, rfl⟩
      cases hb with
      | cons _ h => exact ⟨a, List.mem_append_left _ ha, b, h, rfl⟩
      | @cons_cons b' _ _ h => exact ⟨a ++ [x], List.mem_append_right _ (List.mem_map.mpr ⟨a, ha, rfl⟩), b', h, by simp⟩
theorem mem_subs (l xs : List Str) : l ∈ subs xs ↔ l.Sublist xs := by
  unfold subs
  rw [mem_subs_go]
  constructor
  · rintro ⟨a, ha, b, hb, rfl⟩
    have : a = [] := by simpa using ha
    subst this; simpa using hb
  · intro h; exact ⟨[], by simp, l, h, by simp⟩
/-! the first one in an ordered list -/
theorem find_min {P : List Str → Bool} : ∀ {A : List (List Str)} {l : List Str}, (A.Pairwise fun a b => leK kLot a b = true) → A.find? P = some l → ∀ m ∈ A, P m = true → leK kLot l m = true
  | [], l, _, h => by cases h
  | a :: A, l, hp, h => by
    intro m hm hP
    rw [List.pairwise_cons] at hp
    rw [List.find?_cons] at h
    cases q : P a with
    | true =>
      rw [q] at h
      cases h
      rcases List.mem_cons.mp hm with e | e
      · subst e
        have := leK_total kLot m m
        simpa using this
      · exact hp.1 m e
    | false =>
      rw [q] at h
      rcases List.mem_cons.mp hm with e | e
      · subst e; rw [q] at hP; cases hP
      · exact find_min hp.2 h m e hP
theorem find_same {P : List Str → Bool} {A B : List (List Str)} (hA : A.Pairwise fun a b => leK kLot a b = true) (hB : B.Pairwise fun a b => leK kLot a b = true) (sub : ∀ a ∈ A, a ∈ B) (low : ∀ b ∈ B, P b = true → ∃ a ∈ A, P a = true ∧ leK kLot a b = true) : A.find? P = B.find? P := by
  cases e1 : A.find? P with
  | none =>
    cases e2 : B.find? P with
    | none => rfl
    | some b =>
      obtain ⟨a, ha, hp, _⟩ := low b (List.mem_of_find?_eq_some e2) (List.find?_some e2)
      exact absurd hp (List.find?_eq_none.mp e1 a ha)
  | some a =>
    have ha := List.mem_of_find?_eq_some e1
    have pa := List.find?_some e1
    cases e2 : B.find? P with
    | none => exact absurd pa (List.find?_eq_none.mp e2 a (sub a ha))
    | some b =>
      obtain ⟨a', ha', pa', l'⟩ := low b (List.mem_of_find?_eq_some e2) (List.find?_some e2)
      have l1 := find_min hB e2 a (sub a ha) pa
      have l2 := find_min hA e1 a' ha' pa'
      rw [le_antisymm inj_lot l1 (leK_trans kLot _ _ _ l2 l')]
/-! lots as parts -/
theorem lot_sub : ∀ {c a : List Str}, (c.Pairwise fun x y => leK PyData.str x y = true) → Lot a → (∀ x ∈ a, x ∈ c) → a.Sublist c
  | [], a, _, _, h => by
    cases a with
    | nil => exact .slnil
    | cons x a => exact absurd (h x List.mem_cons_self) (by simp)
  | y :: c, a, hc, ha, h => by
    rw [List.pairwise_cons] at hc
    by_cases q : y ∈ a
    · cases a with
      | nil => cases q
      | cons z a =>
        have ha' := ha
        unfold Lot at ha
        rw [List.pairwise_cons] at ha
        have hzy : z = y := by
          rcases List.mem_cons.mp (h z List.mem_cons_self) with e | e
          · exact e
          · rcases List.mem_cons.mp q with e' | e'
            · exact e'.symm
            · exact le_antisymm inj_str (sLe_of_lt (ha.1 y e')) (hc.1 z e)
        subst hzy
        refine List.Sublist.cons₂ z (lot_sub hc.2 ha.2 fun x hx => ?_)
        rcases List.mem_cons.mp (h x (List.mem_cons_of_mem _ hx)) with e | e
        · subst e
          have := ha.1 x hx
          rw [sLt, lt_irr] at this; cases this
        · exact e
    · refine List.Sublist.cons y (lot_sub hc.2 ha fun x hx => ?_)
      rcases List.mem_cons.mp (h x hx) with e | e
      · subst e; exact absurd hx q
      · exact e
theorem Lot.sorted {l : List Str} (h : Lot l) : l.Pairwise fun x y => leK PyData.str x y = true := by
  unfold Lot at h; exact h.imp fun q => sLe_of_lt q
theorem Lot.of_sorted {l : List Str} (h : l.Pairwise fun x y => leK PyData.str x y = true) (n : l.Nodup) : Lot l := by
  unfold Lot
  exact (h.and n).imp fun q => sLt_of_ne q.1 q.2
theorem uniq_lt : ∀ {xs : List Str}, ¬ xs.Nodup → (uniq xs).length < xs.length
  | [], h => absurd List.nodup_nil h
  | y :: ys, h => by
    have := uniq_len ys
    unfold uniq
    split
    · simp; omega
    · next q =>
      have := uniq_lt (xs := ys) fun e => h (List.nodup_cons.mpr ⟨q, e⟩)
      simp; omega
theorem setS_lt {xs : List Str} (h : ¬ xs.Nodup) : (setS xs).length < xs.length := by
  unfold setS
  rw [sortP_len]; exact uniq_lt h
theorem mem_within (a b : List Str) : within a b = true ↔ ∀ x ∈ a, x ∈ b := by simp [within]
theorem meets_iff (l : List Str) (ls : List (List Str)) : meetsA l ls = true ↔ ∀ o ∈ ls, ∃ x ∈ o, x ∈ l := by simp [meetsA]
theorem holds_iff (l : List Str) (ls : List (List Str)) : holdsO l ls = true ↔ ∃ o ∈ ls, ∀ x ∈ o, x ∈ l := by simp [holdsO, within]
theorem meets_congr {a b : List Str} (h : ∀ x, x ∈ a ↔ x ∈ b) (ls : List (List Str)) : meetsA a ls = meetsA b ls := by
  rw [Bool.eq_iff_iff, meets_iff, meets_iff]; simp [h]
theorem holds_congr {a b : List Str} (h : ∀ x, x ∈ a ↔ x ∈ b) (ls : List (List Str)) : holdsO a ls = holdsO b ls := by
  rw [Bool.eq_iff_iff, holds_iff, holds_iff]; simp [h]
/-! each lot once -/
theorem addL_go : ∀ (zs acc : List (List Str)), ∃ r, zs.foldl addL acc = acc ++ r ∧ r.Sublist zs ∧ ∀ z ∈ zs, z ∈ acc ++ r
  | [], acc => ⟨[], by simp, .slnil, by simp⟩
  | z :: zs, acc => by
    rw [List.foldl_cons]
    by_cases h : acc.getLast? = some z
    · rw [show addL acc z = acc from if_pos h]
      obtain ⟨r, e, s, m⟩ := addL_go zs acc
      refine ⟨r, e, s.cons z, fun x hx => ?_⟩
      rcases List.mem_cons.mp hx with q | q
      · subst q; exact List.mem_append_left _ (List.mem_of_getLast? h)
      · exact m x q
    · rw [show addL acc z = acc ++ [z] from if_neg h]
      obtain ⟨r, e, s, m⟩ := addL_go zs (acc ++ [z])
      refine ⟨z :: r, by rw [e]; simp, s.cons₂ z, fun x hx => ?_⟩
      rcases List.mem_cons.mp hx with q | q
      · subst q; simp
      · have := m x q; simpa using this
theorem lotSorted_mem (ls : List (List Str)) (l : List Str) : l ∈ lotSorted ls ↔ l ∈ ls := by
  obtain ⟨r, e, s, m⟩ := addL_go (ordL ls) []
  unfold lotSorted
  rw [e, List.nil_append]
  constructor
  · intro h; exact (ordL_mem ls l).mp (s.subset h)
  · intro h; simpa using m l ((ordL_mem ls l).mpr h)
theorem lotSorted_pw (ls : List (List Str)) : (lotSorted ls).Pairwise fun a b => leK kLot a b = true := by
  obtain ⟨r, e, s, m⟩ := addL_go (ordL ls) []
  unfold lotSorted
  rw [e, List.nil_append]
  exact (ordL_pw ls).sublist s
theorem addL_nodup : ∀ (zs acc : List (List Str)), ((acc ++ zs).Pairwise fun a b => leK kLot a b = true) → acc.Nodup → (zs.foldl addL acc).Nodup
  | [], acc, _, h => h
  | z :: zs, acc, hp, h => by
    rw [List.foldl_cons]
    by_cases q : acc.getLast? = some z
    · rw [show addL acc z = acc from if_pos q]
      exact addL_nodup zs acc (hp.sublist (List.Sublist.append_left (List.sublist_cons_self z zs) acc)) h
    · rw [show addL acc z = acc ++ [z] from if_neg q]
      refine addL_nodup zs (acc ++ [z]) (by simpa using hp) ?_
      rw [List.nodup_append]
      refine ⟨h, by simp, fun a ha b hb e => ?_⟩
      simp at hb
      subst hb; subst e
      rcases List.eq_nil_or_concat acc with rfl | ⟨ini, l, rfl⟩
      · cases ha
      · rw [List.concat_eq_append] at *
        simp only [List.getLast?_append, List.getLast?_singleton, Option.some_or] at q
        rw [List.append_assoc, List.pairwise_append] at hp
        obtain ⟨_, h2, h3⟩ := hp
        rcases List.mem_append.mp ha with w | w
        · have l1 := h3 a w l (by simp)
          rw [List.singleton_append, List.pairwise_cons] at h2
          have l2 := h2.1 a (by simp)
          exact q (by rw [le_antisymm inj_lot l1 l2])
        · simp at w; exact q (by rw [w])
theorem lotSorted_nodup (ls : List (List Str)) : (lotSorted ls).Nodup := addL_nodup (ordL ls) [] (by simpa using ordL_pw ls) List.nodup_nil
/-! the law's walk and the program's -/
theorem judge_due (names names' : List Str) (hn : ∀ x, x ∈ names' ↔ x ∈ names) (H K : List (List Str)) : judgeM names' H K = dueM names H K := by
  have e : setS names' = setS names := setS_of (setS_lot names) fun x => (hn x).trans (mem_setS x names).symm
  have key : ∀ P : List Str → Bool, (∀ a b : List Str, (∀ x, x ∈ a ↔ x ∈ b) → P a = P b) → (ordL (subs (setS names))).find? P = (lotSorted (subs (sortP PyData.str names))).find? P := fun P hP => by
    refine find_same (ordL_pw _) (lotSorted_pw _) (fun a ha => ?_) fun b hb pb => ?_
    · rw [lotSorted_mem, mem_subs]
      rw [ordL_mem, mem_subs] at ha
      refine lot_sub (sortP_pw _ _) ?_ fun x hx => (sortP_mem _ _ _).mpr ((mem_setS _ _).mp (ha.subset hx))
      have := setS_lot names
      unfold Lot at this ⊢
      exact this.sublist ha
    · rw [lotSorted_mem, mem_subs] at hb
      refine ⟨setS b, ?_, ?_, ?_⟩
      · rw [ordL_mem, mem_subs]
        exact lot_sub (setS_lot names).sorted (setS_lot b) fun x hx => (mem_setS _ _).mpr ((sortP_mem _ _ _).mp (hb.subset ((mem_setS _ _).mp hx)))
      · rw [hP (setS b) b fun x => mem_setS x b]; exact pb
      · by_cases nb : b.Nodup
        · rw [setS_id (Lot.of_sorted ((sortP_pw _ _).sublist hb) nb)]
          have := leK_total kLot b b
          simpa using this
        · exact lt_size (setS_lt nb)
  unfold judgeM dueM
  rw [e, key]
  intro a b h
  rw [meets_congr h, meets_congr h, holds_congr h, holds_congr h]
/-! no lot holds another one -/
def Anti (ls : List (List Str)) : Prop := ls.Nodup ∧ ∀ a ∈ ls, ∀ b ∈ ls, a ≠ b → within a b = false
theorem anti_none {ls : List (List Str)} (h : Anti ls) : dblAt ls = none := by
  unfold dblAt
  rw [List.find?_eq_none]
  intro i hi
  have hi : i < ls.length := by simpa using hi
  have e : ls.getD i [] = ls[i] := by rw [List.getD, List.getElem?_eq_getElem hi]; rfl
  rw [e]
  intro q
  rw [holds_iff] at q
  obtain ⟨o, ho, hx⟩ := q
  have hd : ls = ls.take i ++ ls[i] :: ls.drop (i + 1) := by rw [List.getElem_cons_drop, List.take_append_drop]
  have hne : o ≠ ls[i] := by
    intro e
    have n := h.1
    rw [hd, List.nodup_append, List.nodup_cons] at n
    unfold rem1 at ho
    rcases List.mem_append.mp ho with w | w
    · exact n.2.2 o w ls[i] List.mem_cons_self e
    · exact n.2.1.1 (e ▸ w)
  have hm : o ∈ ls := by
    unfold rem1 at ho
    rcases List.mem_append.mp ho with w | w
    · exact List.mem_of_mem_take w
    · exact List.mem_of_mem_drop w
  have := h.2 o hm ls[i] (List.getElem_mem hi) hne
  rw [(mem_within _ _).mpr hx] at this
  cases this
theorem drawn_anti (told : List (List Str)) : Anti (drawnL told) := by
  refine ⟨(lotSorted_nodup told).sublist List.filter_sublist, fun a ha b hb ne => ?_⟩
  unfold drawnL at ha hb
  rw [List.mem_filter] at ha hb
  have h2 := hb.2
  rw [Bool.not_eq_true'] at h2
  cases q : within a b with
  | false => rfl
  | true =>
    rw [← h2]
    symm
    rw [holds_iff]
    exact ⟨a, List.mem_filter.mpr ⟨(lotSorted_mem _ _).mp ha.1, by simp [ne]⟩, (mem_within a b).mp q⟩
theorem drawn_mem {told : List (List Str)} {l : List Str} (h : l ∈ drawnL told) : l ∈ told := by
  unfold drawnL at h
  exact (lotSorted_mem _ _).mp (List.mem_filter.mp h).1
theorem drawn_len (told : List (List Str)) : (drawnL told).length ≤ told.length := by
  unfold drawnL
  refine Nat.le_trans (List.length_filter_le _ _) ?_
  obtain ⟨r, e, s, m⟩ := addL_go (ordL told) []
  unfold lotSorted
  rw [e, List.nil_append]
  exact Nat.le_trans s.length_le (Nat.le_of_eq (ordL_len told))
/-! blockers -/
theorem blk_go (lots : List (List Str)) : ∀ (rows acc : List (List Str)), (rows.Pairwise fun a b => a.length ≤ b.length) → (acc.Pairwise fun a b => within a b = false) → (∀ a ∈ acc, ∀ b ∈ rows, a.length ≤ b.length) →
    ∃ r, rows.foldl (fun f r => if holdsO r f then f else if meetsA r lots then f ++ [r] else f) acc = acc ++ r ∧ r.Sublist rows ∧ (∀ f ∈ r, meetsA f lots = true) ∧ ((acc ++ r).Pairwise fun a b => within a b = false) ∧ ∀ row ∈ rows, meetsA row lots = true → ∃ g ∈ acc ++ r, within g row = true ∧ g.length ≤ row.length
  | [], acc, _, h, _ => ⟨[], by simp, .slnil, by simp, by simpa using h, by simp⟩
  | row :: rows, acc, hp, ha, hs => by
    rw [List.pairwise_cons] at hp
    rw [List.foldl_cons]
    cases c1 : holdsO row acc with
    | true =>
      obtain ⟨r, e, s, m, p, t⟩ := blk_go lots rows acc hp.2 ha fun a h b h' => hs a h b (List.mem_cons_of_mem _ h')
      refine ⟨r, by simpa using e, s.cons row, m, p, fun x hx mx => ?_⟩
      rcases List.mem_cons.mp hx with q | q
      · subst q
        obtain ⟨o, ho, hw⟩ := (holds_iff x acc).mp c1
        exact ⟨o, List.mem_append_left _ ho, (mem_within o x).mpr hw, hs o ho x List.mem_cons_self⟩
      · exact t x q mx
    | false =>
      cases c2 : meetsA row lots with
      | true =>
        obtain ⟨r, e, s, m, p, t⟩ := blk_go lots rows (acc ++ [row]) hp.2 (by
          rw [List.pairwise_append]
          refine ⟨ha, by simp, fun a h b h' => ?_⟩
          simp at h'
          subst h'
          cases q : within a b with
          | false => rfl
          | true => rw [← c1]; symm; rw [holds_iff]; exact ⟨a, h, (mem_within a b).mp q⟩) fun a h b h' => by
            rcases List.mem_append.mp h with w | w
            · exact hs a w b (List.mem_cons_of_mem _ h')
            · simp at w; subst w; exact hp.1 b h'
        refine ⟨row :: r, by simp only [Bool.false_eq_true, if_false, if_true]; rw [e]; simp, s.cons₂ row, fun f hf => ?_, by simpa using p, fun x hx mx => ?_⟩
        · rcases List.mem_cons.mp hf with q | q
          · subst q; exact c2
          · exact m f q
        · rcases List.mem_cons.mp hx with q | q
          · subst q; exact ⟨x, by simp, (mem_within x x).mpr fun _ h => h, Nat.le_refl _⟩
          · obtain ⟨g, hg, h1, h2⟩ := t x q mx
            exact ⟨g, by simpa using hg, h1, h2⟩
      | false =>
        obtain ⟨r, e, s, m, p, t⟩ := blk_go lots rows acc hp.2 ha fun a h b h' => hs a h b (List.mem_cons_of_mem _ h')
        refine ⟨r, by simpa using e, s.cons row, m, p, fun x hx mx => ?_⟩
        rcases List.mem_cons.mp hx with q | q
        · subst q; rw [c2] at mx; cases mx
        · exact t x q mx
/-- the blockers of lots of these names -/
theorem blk_spec (names : List Str) (H : List (List Str)) : ∃ F, blk (ordL (subs (sortP PyData.str names))) H = F ∧ Anti F ∧ (∀ f ∈ F, Lot f ∧ meetsA f H = true ∧ ∀ x ∈ f, x ∈ names) ∧ F.length ≤ 2 ^ names.length ∧ ∀ L : List Str, (∀ x ∈ L, x ∈ names) → meetsA L H = true → holdsO L F = true := by
  have hr : (ordL (subs (sortP PyData.str names))).Pairwise fun a b => a.length ≤ b.length := (ordL_pw _).imp fun q => le_size q
  obtain ⟨F, e, s, m, p, t⟩ := blk_go H (ordL (subs (sortP PyData.str names))) [] hr (by simp) (by simp)
  rw [List.nil_append] at e p t
  have row : ∀ f ∈ F, f.Sublist (sortP PyData.str names) := fun f hf => (mem_subs _ _).mp ((ordL_mem _ _).mp (s.subset hf))
  have inn : ∀ f ∈ F, ∀ x ∈ f, x ∈ names := fun f hf x hx => (sortP_mem _ _ _).mp ((row f hf).subset hx)
  have rows : ∀ L : List Str, (∀ x ∈ L, x ∈ names) → setS L ∈ ordL (subs (sortP PyData.str names)) := fun L hL => by
    rw [ordL_mem, mem_subs]
    exact lot_sub (sortP_pw _ _) (setS_lot L) fun x hx => (sortP_mem _ _ _).mpr (hL x ((mem_setS _ _).mp hx))
  have before : ∀ a ∈ F, ∀ b ∈ F, a.length < b.length → within a b = false := by
    have hs : F.Pairwise fun a b => a.length ≤ b.length := hr.sublist s
    have hb : F.Pairwise fun a b => (a.length < b.length → within a b = false) ∧ (b.length < a.length → within b a = false) := (p.and hs).imp fun {a b} q => ⟨fun _ => q.1, fun h => by have := q.2; omega⟩
    intro a ha b hb' hlt
    by_cases e : a = b
    · subst e; omega
    · rcases List.Pairwise.forall_of_forall_of_flip (R := fun a b : List Str => a.length < b.length → within a b = false) (fun x _ h => by omega) (hb.imp fun q => q.1) (hb.imp fun q => q.2) ha hb' with z
      exact z hlt
  have nd : ∀ f ∈ F, f.Nodup := fun f hf => by
    by_cases h : f.Nodup
    · exact h
    · have h1 := setS_lt h
      have h2 : meetsA (setS f) H = true := by rw [meets_congr fun x => mem_setS x f]; exact m f hf
      obtain ⟨g, hg, h3, h4⟩ := t (setS f) (rows f (inn f hf)) h2
      have h5 := before g hg f hf (by omega)
      rw [(mem_within g f).mpr fun x hx => (mem_setS x f).mp ((mem_within _ _).mp h3 x hx)] at h5
      cases h5
  have lot : ∀ f ∈ F, Lot f := fun f hf => Lot.of_sorted ((sortP_pw _ _).sublist (row f hf)) (nd f hf)
  refine ⟨F, e, ⟨?_, fun a ha b hb ne => ?_⟩, fun f hf => ⟨lot f hf, m f hf, inn f hf⟩, ?_, fun L hL hm => ?_⟩
  · exact p.imp fun {a b} q e => by subst e; rw [(mem_within a a).mpr fun _ h => h] at q; cases q
  · cases q : within a b with
    | false => rfl
    | true =>
      have hsub := lot_sub (lot b hb).sorted (lot a ha) ((mem_within a b).mp q)
      have hl := hsub.length_le
      by_cases h : a.length < b.length
      · rw [before a ha b hb h] at q; cases q
      · exact absurd (hsub.eq_of_length (by omega)) ne
  · refine Nat.le_trans s.length_le ?_
    rw [ordL_len]
    unfold subs
    rw [subs_len, sortP_len]; simp
  · obtain ⟨g, hg, h3, _⟩ := t (setS L) (rows L hL) (by rw [meets_congr fun x => mem_setS x L]; exact hm)
    rw [holds_iff]
    exact ⟨g, hg, fun x hx => (mem_setS _ _).mp ((mem_within _ _).mp h3 x hx)⟩
/-- lots and their blockers -/
theorem both_none (names : List Str) (H F : List (List Str)) (aH : Anti H) (aF : Anti F) (iH : ∀ l ∈ H, ∀ x ∈ l, x ∈ names) (mF : ∀ f ∈ F, meetsA f H = true) (cF : ∀ L : List Str, (∀ x ∈ L, x ∈ names) → meetsA L H = true → holdsO L F = true) : judgeM names H F = none ∧ judgeM names F H = none := by
  have m1 : ∀ l ∈ H, meetsA l F = true := fun l hl => by
    rw [meets_iff]
    intro f hf
    obtain ⟨x, h1, h2⟩ := (meets_iff f H).mp (mF f hf) l hl
    exact ⟨x, h2, h1⟩
  have c2 : ∀ L : List Str, (∀ x ∈ L, x ∈ names) → meetsA L F = true → holdsO L H = true := fun L hL hm => by
    cases q : holdsO L H with
    | true => rfl
    | false =>
      have hC : meetsA (names.filter fun x => !decide (x ∈ L)) H = true := by
        rw [meets_iff]
        intro h hh
        have hn : ¬ ∀ x ∈ h, x ∈ L := fun w => by
          rw [(holds_iff L H).mpr ⟨h, hh, w⟩] at q; cases q
        have : ∃ x ∈ h, x ∉ L := by
          cases e : h.find? (fun x => !decide (x ∈ L)) with
          | some x => exact ⟨x, List.mem_of_find?_eq_some e, by simpa using List.find?_some e⟩
          | none => exact absurd (fun x hx => by simpa using List.find?_eq_none.mp e x hx) hn
        obtain ⟨x, h1, h2⟩ := this
        exact ⟨x, h1, List.mem_filter.mpr ⟨iH h hh x h1, by simp [h2]⟩⟩
      obtain ⟨f, hf, hw⟩ := (holds_iff _ F).mp (cF _ (fun x hx => (List.mem_filter.mp hx).1) hC)
      obtain ⟨x, h1, h2⟩ := (meets_iff L F).mp hm f hf
      have := (List.mem_filter.mp (hw x h1)).2
      simp at this
      exact absurd h2 this
  have third : ∀ l ∈ ordL (subs (setS names)), (meetsA l H = true → holdsO l F = true) ∧ (meetsA l F = true → holdsO l H = true) := fun l hl => by
    rw [ordL_mem, mem_subs] at hl
    have hn : ∀ x ∈ l, x ∈ names := fun x hx => (mem_setS _ _).mp (hl.subset hx)
    exact ⟨cF l hn, c2 l hn⟩
  have f1 : H.find? (fun l => !meetsA l F) = none := List.find?_eq_none.mpr fun l hl => by simp [m1 l hl]
  have f2 : F.find? (fun l => !meetsA l H) = none := List.find?_eq_none.mpr fun l hl => by simp [mF l hl]
  have f3 : (ordL (subs (setS names))).find? (fun l => (meetsA l H && !holdsO l F) || (meetsA l F && !holdsO l H)) = none := List.find?_eq_none.mpr fun l hl => by
    obtain ⟨a, b⟩ := third l hl
    cases q1 : meetsA l H <;> cases q2 : meetsA l F <;> simp_all
  have f4 : (ordL (subs (setS names))).find? (fun l => (meetsA l F && !holdsO l H) || (meetsA l H && !holdsO l F)) = none := List.find?_eq_none.mpr fun l hl => by
    obtain ⟨a, b⟩ := third l hl
    cases q1 : meetsA l H <;> cases q2 : meetsA l F <;> simp_all
  constructor
  · simp only [judgeM, anti_none aH, anti_none aF, f1, f3]
  · simp only [judgeM, anti_none aH, anti_none aF, f2, f4]
end DL

set_option Elab.async false
set_option linter.all false
set_option autoImplicit false
set_option maxRecDepth 100000
set_option maxHeartbeats 4000000
/-! the defs of k67; printed by gen.py -/
namespace K67
open PySem DL L2
def top (i : Nat) : Stmt := PySem.Challenge.pw_nobodytwice_k67_lists_of_blockers_judged.main.body.getD i (.Pass ⟨0, 0, 0, 0⟩)
abbrev s_lot_of : Stmt := top 1
def d_lot_of : DI := { x := "lot_of", st := s_lot_of, ps := ["names"], N := ["names"], fd := GL.f_lot_of, lam := false }
abbrev s_within : Stmt := top 2
def d_within : DI := { x := "within", st := s_within, ps := ["part", "lot"], N := ["part", "lot", "name"], fd := GL.f_within, lam := false }
abbrev s_lots_by_order : Stmt := top 4
def d_lots_by_order : DI := { x := "lots_by_order", st := s_lots_by_order, ps := ["names"], N := ["names", "lots", "name", "lot"], fd := GL.f_lots_by_order, lam := true }
abbrev s_meets_all : Stmt := top 5
def d_meets_all : DI := { x := "meets_all", st := s_meets_all, ps := ["lot", "others"], N := ["lot", "others", "other", "name"], fd := GL.f_meets_all, lam := false }
abbrev s_holds_one : Stmt := top 6
def d_holds_one : DI := { x := "holds_one", st := s_holds_one, ps := ["lot", "others"], N := ["lot", "others", "other"], fd := GL.f_holds_one, lam := false }
abbrev s_first_doubled : Stmt := top 7
def d_first_doubled : DI := { x := "first_doubled", st := s_first_doubled, ps := ["lots"], N := ["lots", "at"], fd := GL.f_first_doubled, lam := false }
abbrev s_judge_lists : Stmt := top 8
def d_judge_lists : DI := { x := "judge_lists", st := s_judge_lists, ps := ["names", "helpers", "hinderers"], N := ["names", "helpers", "hinderers", "helping", "hindering", "lots", "lot"], fd := GL.f_judge_lists, lam := false }
abbrev s_law_source : Stmt := top 10
def d_law_source : DI := { x := "_law_source", st := s_law_source, ps := ["script", "at"], N := ["script", "at", "seed", "cell", "great"], fd := GL.f_law_source, lam := false }
abbrev s_law_pick : Stmt := top 11
def d_law_pick : DI := { x := "_law_pick", st := s_law_pick, ps := ["s", "many"], N := ["s", "many", "digit"], fd := GL.f_law_pick, lam := false }
abbrev s_law_shuffled : Stmt := top 12
def d_law_shuffled : DI := { x := "_law_shuffled", st := s_law_shuffled, ps := ["s", "things"], N := ["s", "things", "left", "told", "k"], fd := GL.f_law_shuffled, lam := false }
abbrev s_law_keywords : Stmt := top 13
def d_law_keywords : DI := { x := "_law_keywords", st := s_law_keywords, ps := [], N := ["kept"], fd := GL.f_law_keywords, lam := false }
abbrev s_law_names : Stmt := top 14
def d_law_names : DI := { x := "_law_names", st := s_law_names, ps := ["s", "many"], N := ["s", "many", "letters", "signs", "told", "kept", "alike", "stem", "k", "word", "j"], fd := GL.f_law_names, lam := false }
abbrev s_law_same : Stmt := top 15
def d_law_same : DI := { x := "_law_same", st := s_law_same, ps := ["answer", "due"], N := ["answer", "due", "kinds", "k", "key"], fd := GL.f_law_same, lam := false }
abbrev s_law_lot_sorted : Stmt := top 16
def d_law_lot_sorted : DI := { x := "_law_lot_sorted", st := s_law_lot_sorted, ps := ["lots"], N := ["lots", "found", "lot"], fd := GL.f_law_lot_sorted, lam := true }
abbrev s_law_blockers : Stmt := top 17
def d_law_blockers : DI := { x := "_law_blockers", st := s_law_blockers, ps := ["names", "lots"], N := ["names", "lots", "rows", "name", "found", "row", "one"], fd := GL.f_law_blockers, lam := true }
abbrev s_law_e_lots : Stmt := top 18
def d_law_e_lots : DI := { x := "_law_e_lots", st := s_law_e_lots, ps := ["names"], N := ["names", "found", "one", "lot"], fd := GL.f_law_e_lots, lam := false }
abbrev s_law_g_lot : Stmt := top 19
def d_law_g_lot : DI := { x := "_law_g_lot", st := s_law_g_lot, ps := ["names"], N := ["names"], fd := GL.f_law_g_lot, lam := false }
abbrev s_law_g_inside : Stmt := top 20
def d_law_g_inside : DI := { x := "_law_g_inside", st := s_law_g_inside, ps := ["names", "lot"], N := ["names", "lot", "name"], fd := GL.f_law_g_inside, lam := false }
abbrev s_law_g_meets : Stmt := top 21
def d_law_g_meets : DI := { x := "_law_g_meets", st := s_law_g_meets, ps := ["lot", "lots"], N := ["lot", "lots", "one", "name"], fd := GL.f_law_g_meets, lam := false }
abbrev s_law_g_holds : Stmt := top 22
def d_law_g_holds : DI := { x := "_law_g_holds", st := s_law_g_holds, ps := ["lot", "lots"], N := ["lot", "lots", "one"], fd := GL.f_law_g_holds, lam := false }
abbrev s_law_g_due : Stmt := top 23
def d_law_g_due : DI := { x := "_law_g_due", st := s_law_g_due, ps := ["names", "helping", "hindering"], N := ["names", "helping", "hindering", "lots", "k", "lot", "one", "other", "name"], fd := GL.f_law_g_due, lam := false }
abbrev s_law_g_drawn_lots : Stmt := top 24
def d_law_g_drawn_lots : DI := { x := "_law_g_drawn_lots", st := s_law_g_drawn_lots, ps := ["s", "names", "many"], N := ["s", "names", "many", "told", "k", "lot", "one"], fd := GL.f_law_g_drawn_lots, lam := false }
abbrev s_law_g_bent_lots : Stmt := top 25
def d_law_g_bent_lots : DI := { x := "_law_g_bent_lots", st := s_law_g_bent_lots, ps := ["s", "names", "lots"], N := ["s", "names", "lots", "kind", "k"], fd := GL.f_law_g_bent_lots, lam := false }
abbrev s_law_g_loose : Stmt := top 26
def d_law_g_loose : DI := { x := "_law_g_loose", st := s_law_g_loose, ps := ["s", "lots"], N := ["s", "lots", "lot"], fd := GL.f_law_g_loose, lam := false }
abbrev s_law : Stmt := top 27
def d_law : DI := { x := "law", st := s_law, ps := ["script"], N := ["script", "s", "names", "helping", "hindering", "lists", "turn", "two", "one", "other", "due", "given", "before", "lot"], fd := GL.f_law, lam := false }
def keys : List Nat := [0, 1, 2, 3, 4, 5, 6, 7, 8, 9, 10, 11, 12, 13, 14, 15, 16, 17, 18, 19, 20, 21, 22, 23, 24]
def defs : List DI := [d_lot_of, d_within, d_lots_by_order, d_meets_all, d_holds_one, d_first_doubled, d_judge_lists, d_law_source, d_law_pick, d_law_shuffled, d_law_keywords, d_law_names, d_law_same, d_law_lot_sorted, d_law_blockers, d_law_e_lots, d_law_g_lot, d_law_g_inside, d_law_g_meets, d_law_g_holds, d_law_g_due, d_law_g_drawn_lots, d_law_g_bent_lots, d_law_g_loose, d_law]
def G0 : Sg := { cons := [], fns := fun k => (dsOf keys defs k).map (·.x), lam := false }
theorem ck_lot_of : ckD G0 d_lot_of = true := by decide +kernel
theorem ck_within : ckD G0 d_within = true := by decide +kernel
theorem ck_lots_by_order : ckD G0 d_lots_by_order = true := by decide +kernel
theorem ck_meets_all : ckD G0 d_meets_all = true := by decide +kernel
theorem ck_holds_one : ckD G0 d_holds_one = true := by decide +kernel
theorem ck_first_doubled : ckD G0 d_first_doubled = true := by decide +kernel
theorem ck_judge_lists : ckD G0 d_judge_lists = true := by decide +kernel
theorem ck_law_source : ckD G0 d_law_source = true := by decide +kernel
theorem ck_law_pick : ckD G0 d_law_pick = true := by decide +kernel
theorem ck_law_shuffled : ckD G0 d_law_shuffled = true := by decide +kernel
theorem ck_law_keywords : ckD G0 d_law_keywords = true := by decide +kernel
theorem ck_law_names : ckD G0 d_law_names = true := by decide +kernel
theorem ck_law_same : ckD G0 d_law_same = true := by decide +kernel
theorem ck_law_lot_sorted : ckD G0 d_law_lot_sorted = true := by decide +kernel
theorem ck_law_blockers : ckD G0 d_law_blockers = true := by decide +kernel
theorem ck_law_e_lots : ckD G0 d_law_e_lots = true := by decide +kernel
theorem ck_law_g_lot : ckD G0 d_law_g_lot = true := by decide +kernel
theorem ck_law_g_inside : ckD G0 d_law_g_inside = true := by decide +kernel
theorem ck_law_g_meets : ckD G0 d_law_g_meets = true := by decide +kernel
theorem ck_law_g_holds : ckD G0 d_law_g_holds = true := by decide +kernel
theorem ck_law_g_due : ckD G0 d_law_g_due = true := by decide +kernel
theorem ck_law_g_drawn_lots : ckD G0 d_law_g_drawn_lots = true := by decide +kernel
theorem ck_law_g_bent_lots : ckD G0 d_law_g_bent_lots = true := by decide +kernel
theorem ck_law_g_loose : ckD G0 d_law_g_loose = true := by decide +kernel
theorem ck_law : ckD G0 d_law = true := by decide +kernel
/-- the defs by number -/
def Γ : Nat → Option Fd := fdOf (dsOf keys defs)
theorem q_lot_of : Γ 0 = some GL.f_lot_of := rfl
theorem q_within : Γ 1 = some GL.f_within := rfl
theorem q_lots_by_order : Γ 2 = some GL.f_lots_by_order := rfl
theorem q_meets_all : Γ 3 = some GL.f_meets_all := rfl
theorem q_holds_one : Γ 4 = some GL.f_holds_one := rfl
theorem q_first_doubled : Γ 5 = some GL.f_first_doubled := rfl
theorem q_judge_lists : Γ 6 = some GL.f_judge_lists := rfl
theorem q_law_source : Γ 7 = some GL.f_law_source := rfl
theorem q_law_pick : Γ 8 = some GL.f_law_pick := rfl
theorem q_law_shuffled : Γ 9 = some GL.f_law_shuffled := rfl
theorem q_law_keywords : Γ 10 = some GL.f_law_keywords := rfl
theorem q_law_names : Γ 11 = some GL.f_law_names := rfl
theorem q_law_same : Γ 12 = some GL.f_law_same := rfl
theorem q_law_lot_sorted : Γ 13 = some GL.f_law_lot_sorted := rfl
theorem q_law_blockers : Γ 14 = some GL.f_law_blockers := rfl
theorem q_law_e_lots : Γ 15 = some GL.f_law_e_lots := rfl
theorem q_law_g_lot : Γ 16 = some GL.f_law_g_lot := rfl
theorem q_law_g_inside : Γ 17 = some GL.f_law_g_inside := rfl
theorem q_law_g_meets : Γ 18 = some GL.f_law_g_meets := rfl
theorem q_law_g_holds : Γ 19 = some GL.f_law_g_holds := rfl
theorem q_law_g_due : Γ 20 = some GL.f_law_g_due := rfl
theorem q_law_g_drawn_lots : Γ 21 = some GL.f_law_g_drawn_lots := rfl
theorem q_law_g_bent_lots : Γ 22 = some GL.f_law_g_bent_lots := rfl
theorem q_law_g_loose : Γ 23 = some GL.f_law_g_loose := rfl
theorem q_law : Γ 24 = some GL.f_law := rfl
end K67

set_option Elab.async false
set_option linter.all false
set_option autoImplicit false
set_option maxRecDepth 100000
set_option maxHeartbeats 4000000
/-! K67n: the law of k67. -/
namespace K67
open PySem DL L2
def con0 : Nat → Option D := fun _ => none
abbrev LL := List (List Str)
def pE (p : LL × LL) : List D := [lD p.1, lD p.2]
theorem _root_.DL.Okl.mono {N B N' B' : Nat} {ls : LL} (h : Okl N B ls) (hN : N ≤ N') (hB : B ≤ B') : Okl N' B' ls := ⟨Nat.le_trans h.1 hN, fun l hl => ⟨(h.2 l hl).1, Nat.le_trans (h.2 l hl).2 hB⟩⟩
theorem same_rD (n : Nat) (r : Option (Str × List Str)) (h : ∀ p, r = some p → p.2.length ≤ 1000000) : runF con0 1000 Γ (n + 3) 12 [.dat (rD r), .dat (rD r)] = .ok (.dat (.bl true)) [.un, .un] := by
  refine e_same q_law_same (n := n + 2) (Pl.le (n := 2) (by omega) ?_)
  cases r with
  | none => exact .inl rfl
  | some p =>
    refine .inr ⟨[.str p.1, tS p.2], .inl rfl, by simp, fun x hx => ?_⟩
    simp at hx
    rcases hx with rfl | rfl
    · exact .inl rfl
    · exact Pl.tS _ (h p rfl)
theorem judge_call {n : Nat} (nd hd kd : D) (names : List Str) (hs ks : List (Bool × List Str)) (rn : Rw nd (names.map .str)) (rh : Rw hd (hs.map rowE)) (rk : Rw kd (ks.map rowE)) (ln : names.length ≤ 20) (lh : hs.length ≤ 100000) (lk : ks.length ≤ 100000) (ah : ∀ p ∈ hs, p.2.length < 4000) (ak : ∀ p ∈ ks, p.2.length < 4000) :
    runF con0 1000 Γ (n + 4) 6 [.dat nd, .dat hd, .dat kd] = .ok (.dat (rD (judgeM names (hs.map fun p => setS p.2) (ks.map fun p => setS p.2)))) [.un, .un, .un] :=
  e_judge_lists q_lot_of q_within q_lots_by_order q_meets_all q_holds_one q_first_doubled q_judge_lists nd hd kd names hs ks rn rh rk ln lh lk ah ak
/-- handed in as tuples -/
theorem map_true (H : LL) (hH : ∀ l ∈ H, Lot l) : (H.map fun l => (true, l)).map rowE = H.map tS ∧ ((H.map fun l => (true, l)).map fun p : Bool × List Str => setS p.2) = H := by
  constructor
  · simp [List.map_map, Function.comp_def, rowE]
  · rw [List.map_map]
    conv => rhs; rw [← List.map_id H]
    exact List.map_congr_left fun l hl => setS_id (hH l hl)
theorem judge_lots {n : Nat} (nd hd kd : D) (names : List Str) (H K : LL) (rn : Rw nd (names.map .str)) (rh : Rw hd (H.map tS)) (rk : Rw kd (K.map tS)) (ln : names.length ≤ 20) (oH : Okl 1000 1000 H) (oK : Okl 1000 1000 K) :
    runF con0 1000 Γ (n + 4) 6 [.dat nd, .dat hd, .dat kd] = .ok (.dat (rD (judgeM names H K))) [.un, .un, .un] := by
  have h1 := map_true H fun l hl => (oH.2 l hl).1
  have h2 := map_true K fun l hl => (oK.2 l hl).1
  have z := judge_call (n := n) nd hd kd names (H.map fun l => (true, l)) (K.map fun l => (true, l)) rn (by rw [h1.1]; exact rh) (by rw [h2.1]; exact rk) ln (by have := oH.1; simp; omega) (by have := oK.1; simp; omega)
    (fun p hp => by obtain ⟨l, hl, rfl⟩ := List.mem_map.mp hp; have := (oH.2 l hl).2; simp; omega) (fun p hp => by obtain ⟨l, hl, rfl⟩ := List.mem_map.mp hp; have := (oK.2 l hl).2; simp; omega)
  rw [h1.2, h2.2] at z
  exact z
theorem paired_len {α β : Type} {r : α → β → Prop} : ∀ {xs : List α} {ys : List β}, Paired r xs ys → xs.length = ys.length
  | _, _, .nil => rfl
  | _, _, .cons _ t => by simp [paired_len t]
theorem paired_set : ∀ {K ms : LL}, Paired (fun l m : List Str => m.length ≤ l.length + 1 ∧ ∀ x, x ∈ m ↔ x ∈ l) K ms → (∀ l ∈ K, Lot l) → (ms.map fun m => setS m) = K
  | _, _, .nil, _ => rfl
  | _, _, .cons h t, a => by
    rw [List.map_cons, paired_set t fun l hl => a l (List.mem_cons_of_mem _ hl), setS_of (a _ List.mem_cons_self) h.2]
theorem paired_bd {B : Nat} : ∀ {K ms : LL}, Paired (fun l m : List Str => m.length ≤ l.length + 1 ∧ ∀ x, x ∈ m ↔ x ∈ l) K ms → (∀ l ∈ K, l.length ≤ B) → ∀ m ∈ ms, m.length ≤ B + 1
  | _, _, .nil, _, _, h => by cases h
  | _, _, .cons h t, a, m, hm => by
    rcases List.mem_cons.mp hm with e | e
    · subst e; have := a _ List.mem_cons_self; have := h.1; omega
    · exact paired_bd t (fun l hl => a l (List.mem_cons_of_mem _ hl)) m e
theorem judge_loose {n : Nat} (nd hd kd : D) (names : List Str) (H K ms : LL) (rn : Rw nd (names.map .str)) (rh : Rw hd (H.map tS)) (rk : Rw kd (ms.map fun m => .lst (m.map .str))) (ln : names.length ≤ 20) (oH : Okl 1000 1000 H) (oK : Okl 1000 1000 K) (hp : Paired (fun l m : List Str => m.length ≤ l.length + 1 ∧ ∀ x, x ∈ m ↔ x ∈ l) K ms) :
    runF con0 1000 Γ (n + 4) 6 [.dat nd, .dat hd, .dat kd] = .ok (.dat (rD (judgeM names H K))) [.un, .un, .un] := by
  have h1 := map_true H fun l hl => (oH.2 l hl).1
  have lm := paired_len hp
  have hb := paired_bd hp fun l hl => (oK.2 l hl).2
  have z := judge_call (n := n) nd hd kd names (H.map fun l => (true, l)) (ms.map fun l => (false, l)) rn (by rw [h1.1]; exact rh) (by rw [List.map_map]; exact rk) ln (by have := oH.1; simp; omega) (by have := oK.1; simp; omega)
    (fun p hp => by obtain ⟨l, hl, rfl⟩ := List.mem_map.mp hp; have := (oH.2 l hl).2; simp; omega) (fun p hp => by obtain ⟨l, hl, rfl⟩ := List.mem_map.mp hp; have := hb l hl; simp; omega)
  rw [h1.2, List.map_map, show ((fun p : Bool × List Str => setS p.2) ∘ fun l => (false, l)) = fun m => setS m from rfl, paired_set hp fun l hl => (oK.2 l hl).1] at z
  exact z
theorem due_bd (names : List Str) (ln : names.length ≤ 20) (H K : LL) (oH : Okl 1000 1000 H) (oK : Okl 1000 1000 K) : ∀ p, dueM names H K = some p → p.2.length ≤ 1000000 := by
  have gd : ∀ (L : LL) (i : Nat), Okl 1000 1000 L → (L.getD i []).length ≤ 1000000 := fun L i o => by
    rw [List.getD]
    cases e : L[i]? with
    | none => simp
    | some l => have := (o.2 l (List.mem_of_getElem? e)).2; simp; omega
  intro p hp
  unfold dueM at hp
  split at hp
  · cases hp; exact gd _ _ oH
  · split at hp
    · cases hp; exact gd _ _ oK
    · split at hp
      · next l e => cases hp; have := (oH.2 l (List.mem_of_find?_eq_some e)).2; show l.length ≤ 1000000; omega
      · split at hp
        · next l e =>
          cases hp
          have := (mem_subs _ _).mp ((lotSorted_mem _ _).mp (List.mem_of_find?_eq_some e))
          have := this.length_le
          rw [sortP_len] at this
          show l.length ≤ 1000000; omega
        · cases hp

/-! ### the turns -/
theorem at_1 {α : Type} (a b : α) (xs : List α) : atI (a :: b :: xs) 1 = some b := by
  rw [show (1 : Int) = ((1 : Nat) : Int) from rfl, atI_nat _ 1 (by simp)]; rfl
theorem lD_eq (ls : LL) : D.lst (ls.map tS) = lD ls := rfl
/-- one of the lists is bent -/
theorem turn_8 (n : Nat) (ns : List Int) (names : List Str) (ln : names.length ≤ 20) (l1 : 1 ≤ names.length) (hlp hnd : D) :
    ∀ (xs : List Nat) (g : Fm), (xs.length ≤ 4 ∧ ∃ (s : S4) (ps : List (LL × LL)) (t w : DL.Slot), g = [.dat (.scr ns), .own (.lst s.ds), .dat (.lst (names.map .str)), .dat hlp, .dat hnd, .own (.lst (ps.map fun p => .tup (pE p))), t, w, .un, .un, .un, .un, .un, .un] ∧ ps.length + xs.length = 6 ∧ 2 ≤ ps.length ∧ ∀ p ∈ ps, Okl (104 - xs.length) (104 - xs.length) p.1 ∧ Okl (104 - xs.length) (104 - xs.length) p.2) →
    ∃ g', forB con0 (runF con0 1000 Γ (n + 5)) 1000 6 none (brF [false]) GL.l_law_8 (xs.map fun (k : Nat) => D.int (k : Int)) g = .nx g' ∧ ∃ (s : S4) (ps : List (LL × LL)) (t w : DL.Slot), g' = [.dat (.scr ns), .own (.lst s.ds), .dat (.lst (names.map .str)), .dat hlp, .dat hnd, .own (.lst (ps.map fun p => .tup (pE p))), t, w, .un, .un, .un, .un, .un, .un] ∧ ps.length = 6 ∧ ∀ p ∈ ps, Okl 104 104 p.1 ∧ Okl 104 104 p.2 := by
  intro xs g h
  obtain ⟨g', e, -, s, ps, t, w, h1, h2, h3, h4⟩ := for_inv (con := con0) (call := runF con0 1000 Γ (n + 5)) (wf := 1000) (br := brF [false]) (j := 6) (enc := fun (k : Nat) => D.int (k : Int)) (b := GL.l_law_8)
    (fun xs g => xs.length ≤ 4 ∧ ∃ (s : S4) (ps : List (LL × LL)) (t w : DL.Slot), g = [.dat (.scr ns), .own (.lst s.ds), .dat (.lst (names.map .str)), .dat hlp, .dat hnd, .own (.lst (ps.map fun p => .tup (pE p))), t, w, .un, .un, .un, .un, .un, .un] ∧ ps.length + xs.length = 6 ∧ 2 ≤ ps.length ∧ ∀ p ∈ ps, Okl (104 - xs.length) (104 - xs.length) p.1 ∧ Okl (104 - xs.length) (104 - xs.length) p.2)
    (by
      rintro x xs g ⟨hx, s, ps, t, w, rfl, h1, h2, h3⟩
      rw [List.length_cons] at hx h1 h3
      have i2 : (2 : Int) < 1073741824 := by omega
      obtain ⟨k, hk⟩ : ∃ k, k = pk s 2 := ⟨_, rfl⟩
      have k0 : 0 ≤ k := by rw [hk]; exact pk_nn _ _
      have k1 : k < 2 := by rw [hk]; exact pk_lt _ _ (by omega)
      have p1 := e_pick (con := con0) (wf := 1000) (n := n + 4) q_law_pick s 2 i2
      rw [← hk] at p1
      have p2 := e_pick (con := con0) (wf := 1000) (n := n + 4) q_law_pick (nk s 2) 2 i2
      have at1 : atI (ps.map fun p => D.tup (pE p)) k = some (.tup (pE (ps[k.toNat]'(by omega)))) := by rw [atI_map, atI_int ps k k0 (by omega)]; rfl
      have op := h3 (ps[k.toNat]'(by omega)) (List.getElem_mem _)
      generalize ps[k.toNat]'(by omega) = p at at1 op
      simp only [pE] at at1
      have hl : ps.length < 16777216 := by omega
      have up : ∀ p ∈ ps, Okl (104 - xs.length) (104 - xs.length) p.1 ∧ Okl (104 - xs.length) (104 - xs.length) p.2 := fun p hp => ⟨(h3 p hp).1.mono (by omega) (by omega), (h3 p hp).2.mono (by omega) (by omega)⟩
      by_cases c : pk (nk s 2) 2 = 0
      · obtain ⟨ls, s', e, ok⟩ := e_bent (con := con0) (wf := 1000) (n := n + 2) q_law_pick q_law_shuffled q_law_g_lot q_law_g_bent_lots (nk (nk s 2) 2) names p.2 (104 - (xs.length + 1)) (104 - (xs.length + 1)) ln l1 (by omega) (by omega) (by omega) op.2
        refine ⟨_, .inl ?_, by omega, s', ps ++ [(p.1, ls)], .dat (.int x), .dat (.tup (pE p)), rfl, by simp; omega, by simp; omega, ?_⟩
        · simp [GL.l_law_8, p1, p2, c, at1, pE, e, DL.sizeLine_eq, hl, at_1, lD_eq]
        · intro q hq
          rcases List.mem_append.mp hq with z | z
          · exact up q z
          · simp at z; subst z
            exact ⟨op.1.mono (by omega) (by omega), ok.mono (by omega) (by omega)⟩
      · obtain ⟨ls, s', e, ok⟩ := e_bent (con := con0) (wf := 1000) (n := n + 2) q_law_pick q_law_shuffled q_law_g_lot q_law_g_bent_lots (nk (nk s 2) 2) names p.1 (104 - (xs.length + 1)) (104 - (xs.length + 1)) ln l1 (by omega) (by omega) (by omega) op.1
        refine ⟨_, .inl ?_, by omega, s', ps ++ [(ls, p.2)], .dat (.int x), .dat (.tup (pE p)), rfl, by simp; omega, by simp; omega, ?_⟩
        · simp [GL.l_law_8, p1, p2, c, at1, pE, e, DL.sizeLine_eq, hl, at_1, lD_eq]
        · intro q hq
          rcases List.mem_append.mp hq with z | z
          · exact up q z
          · simp at z; subst z
            exact ⟨ok.mono (by omega) (by omega), op.2.mono (by omega) (by omega)⟩) xs g h
  exact ⟨g', e, s, ps, t, w, h1, by simpa using h2, by simpa using h4⟩
theorem pure_lists : ∀ ms : LL, pureL (ms.map fun m => D.lst (m.map .str)) = true ∧ depL (ms.map fun m => D.lst (m.map .str)) ≤ 1
  | [] => by simp [pureL, depL]
  | m :: ms => by
    have := pure_lists ms
    simp [pureL, depL, D.pure, D.dep, pureL_strs, depL_strs, this]
theorem pure_lots : ∀ ms : LL, pureL (ms.map tS) = true ∧ depL (ms.map tS) ≤ 1
  | [] => by simp [pureL, depL]
  | m :: ms => by
    have := pure_lots ms
    simp [pureL, depL, pure_tS, dep_tS, this]
/-- one couple is judged -/
theorem turn_12 (n : Nat) (ns : List Int) (names : List Str) (ln : names.length ≤ 20) (hlp hnd : D) (t w : DL.Slot) (pd : List D) (xs : List (LL × LL)) (g : Fm) (ok : ∀ p ∈ xs, Okl 1000 1000 p.1 ∧ Okl 1000 1000 p.2)
    (h : ∃ (s : S4) (a b c d e : DL.Slot), g = [.dat (.scr ns), .own (.lst s.ds), .dat (.lst (names.map .str)), .dat hlp, .dat hnd, .own (.lst pd), t, w, a, b, c, d, e, .un]) :
    ∃ g', forT con0 (runF con0 1000 Γ (n + 5)) 1000 [8, 9] (some 5) (brF [false]) GL.l_law_12 (xs.map fun p => .tup (pE p)) g = .nx g' ∧ ∃ (s : S4) (a b c d e : DL.Slot), g' = [.dat (.scr ns), .own (.lst s.ds), .dat (.lst (names.map .str)), .dat hlp, .dat hnd, .own (.lst pd), t, w, a, b, c, d, e, .un] := by
  obtain ⟨g', e, -, h'⟩ := forT_inv (con := con0) (call := runF con0 1000 Γ (n + 5)) (wf := 1000) (br := brF [false]) (js := [8, 9]) (keep := some 5) (enc := pE) (b := GL.l_law_12)
    (fun xs g => (∀ p ∈ xs, Okl 1000 1000 p.1 ∧ Okl 1000 1000 p.2) ∧ ∃ (s : S4) (a b c d e : DL.Slot), g = [.dat (.scr ns), .own (.lst s.ds), .dat (.lst (names.map .str)), .dat hlp, .dat hnd, .own (.lst pd), t, w, a, b, c, d, e, .un])
    (by
      rintro ⟨H, K⟩ xs g ⟨ok, s, a, b, c, d, e, rfl⟩
      refine ⟨rfl, ?_⟩
      obtain ⟨oH, oK⟩ := ok (H, K) List.mem_cons_self
      simp only [] at oH oK
      have z1 := e_due (con := con0) (wf := 1000) (n := n + 2) q_law_lot_sorted q_law_e_lots q_law_g_inside q_law_g_meets q_law_g_holds q_law_g_due names H K ln (by have := oH.1; omega) (by have := oK.1; omega)
      obtain ⟨ms, s', z2, hp⟩ := e_loose (con := con0) (wf := 1000) (n := n + 2) q_law_pick q_law_shuffled q_law_g_loose s K (fun l hl => by have := (oK.2 l hl).2; omega)
      have z3 := e_shuffled (con := con0) (wf := 1000) (n := n + 3) q_law_pick q_law_shuffled D.str s' names (.lst (names.map .str)) (.lst _) (by omega)
      have z4 := judge_loose (n := n + 1) (.lst ((sh s' names).map .str)) (lD H) (.tup (ms.map fun m => .lst (m.map .str))) (sh s' names) H K ms (.lst _) (.lst _) (.tup _) (by rw [sh_len]; exact ln) oH oK hp
      rw [judge_due names (sh s' names) (fun x => sh_mem s' names x) H K] at z4
      have z5 := same_rD (n + 2) (dueM names H K) (due_bd names ln H K oH oK)
      generalize dueM names H K = r at z1 z4 z5
      obtain ⟨m0, hm0⟩ : ∃ m0, m0 = ms.map fun m => D.lst (m.map .str) := ⟨_, rfl⟩
      rw [← hm0] at z2 z4
      have z6 : ∀ (x y z u : DL.Slot), evE con0 (runF con0 1000 Γ (n + 5)) (.lc 13 (.dat (.idx (.var 11) (.cst (.int 1)))) (.is (.cst (.bl true))) (.bif .lst (.cons (.var 13) (.nil)))) [.dat (.scr ns), .own (.lst s'.ds), .dat (.lst (names.map .str)), .dat hlp, .dat hnd, .own (.lst pd), t, w, x, y, z, .dat (.lst [lD H, .lst m0]), u, .un] = .ok (.lst m0) [.dat (.scr ns), .own (.lst s'.ds), .dat (.lst (names.map .str)), .dat hlp, .dat hnd, .own (.lst pd), t, w, x, y, z, .dat (.lst [lD H, .lst m0]), u, .un] := by
        intro x y z u
        rw [hm0]
        exact lc_m (enc := fun m : List Str => D.lst (m.map .str)) (s := .un) (xs := ms) (fun m => D.lst (m.map .str)) (by simp [at_1]) (by simp) rfl (fun _ h => nomatch h) (fun m hm => by simp)
      have z7 : cmpO .ne (.lst [lD H, .lst m0]) (.lst [lD H, .lst m0]) = some false := by
        have q1 := pure_lists ms
        have q2 := pure_lots H
        rw [← hm0] at q1
        have q3 : (D.lst [lD H, .lst m0]).pure = true := by simp [D.pure, pureL, lD, q1.1, q2.1]
        have q4 : (D.lst [lD H, .lst m0]).dep ≤ 60 := by
          have := q1.2
          have := q2.2
          simp only [D.dep, depL, lD]; omega
        rw [cmpO_ne (by simp [eqOk, q3, q4]), D.eqv_self _ q3]; rfl
      refine ⟨_, ?_, ?_, fun p hp => ok p (List.mem_cons_of_mem _ hp), shs s' names, .dat (lD H), .dat (lD K), .dat (rD r), .dat (.lst [lD H, .lst m0]), .dat (.lst [lD H, .lst m0]), rfl⟩
      · simp [pE, setAll, GL.l_law_12, z1, z2, z3, lD_eq, at_1, z6, z4, z5, z7]
      · intro i hi
        cases hi
        rfl) xs g ⟨ok, h⟩
  exact ⟨g', e, h'⟩
/-! ### the law -/
theorem tup_lD (ls : LL) : bifD .tup [lD ls] = some (.tup (ls.map tS)) := rfl
theorem math (ns : List Int) (hn : ns.length ≤ 63) : ∃ ss, runF con0 1000 Γ 14 24 [.dat (.scr ns)] = .ok (.dat (.bl true)) ss := by
  have i4 : (4 : Int) < 1073741824 := by omega
  have i5 : (5 : Int) < 1073741824 := by omega
  have i6 : (6 : Int) < 1073741824 := by omega
  rw [run_of q_law rfl rfl]
  obtain ⟨s, z0⟩ := e_source (con := con0) (wf := 1000) (n := 12) q_law_source ns 7 (by omega)
  have z1 := e_pick (con := con0) (wf := 1000) (n := 12) q_law_pick s 5 i5
  obtain ⟨m, hm⟩ : ∃ m : Nat, (m : Int) = 1 + pk s 5 := ⟨(1 + pk s 5).toNat, by have := pk_nn s 5; omega⟩
  have hm5 : m ≤ 5 := by have := pk_lt s 5 (by omega); omega
  have hm1 : 1 ≤ m := by have := pk_nn s 5; omega
  obtain ⟨names, s1, z2, ln, -⟩ := e_names (con := con0) (wf := 1000) (n := 11) q_law_pick q_law_keywords q_law_names (nk s 5) m (by omega)
  rw [hm] at z2
  have z3 := e_pick (con := con0) (wf := 1000) (n := 12) q_law_pick s1 6 i6
  obtain ⟨m6, hm6⟩ : ∃ m : Nat, (m : Int) = pk s1 6 := ⟨(pk s1 6).toNat, by have := pk_nn s1 6; omega⟩
  have hm6' : m6 ≤ 6 := by have := pk_lt s1 6 (by omega); omega
  obtain ⟨told, s2, z4, lt, ht⟩ := e_drawn (con := con0) (wf := 1000) (n := 10) q_law_pick q_law_shuffled q_law_lot_sorted q_law_g_lot q_law_g_inside q_law_g_holds q_law_g_drawn_lots (nk s1 6) names m6 (by omega) (by omega)
  rw [hm6] at z4
  obtain ⟨H, hH⟩ : ∃ H, H = drawnL told := ⟨_, rfl⟩
  rw [← hH] at z4
  have oH : Okl 100 20 H := ⟨by have := drawn_len told; rw [hH]; omega, fun l hl => by rw [hH] at hl; have := ht l (drawn_mem hl); exact ⟨this.1, this.2.1⟩⟩
  have nH : ∀ l ∈ H, ∀ x ∈ l, x ∈ names := fun l hl => by rw [hH] at hl; exact (ht l (drawn_mem hl)).2.2
  have aH : Anti H := by rw [hH]; exact drawn_anti told
  have z5 := e_blockers (con := con0) (wf := 1000) (n := 11) q_law_blockers names H (by omega)
  obtain ⟨F, hF, aF, pF, lF, cF⟩ := blk_spec names H
  rw [hF] at z5
  have oF : Okl 100 20 F := ⟨Nat.le_trans lF (Nat.le_trans (Nat.pow_le_pow_right (by omega) (show names.length ≤ 5 by omega)) (by omega)), fun f hf => ⟨(pF f hf).1, by
    have h1 := lot_sub (setS_lot names).sorted (pF f hf).1 fun x hx => (mem_setS x names).mpr ((pF f hf).2.2 x hx)
    have := h1.length_le
    have := setS_len names
    omega⟩⟩
  obtain ⟨j1, j2⟩ := both_none names H F aH aF nH (fun f hf => (pF f hf).2.1) cF
  have w1 := judge_lots (n := 9) (.lst (names.map .str)) (lD H) (lD F) names H F (.lst _) (.lst _) (.lst _) (by omega) (oH.mono (by omega) (by omega)) (oF.mono (by omega) (by omega))
  have w2 := judge_lots (n := 9) (.lst (names.map .str)) (lD F) (lD H) names F H (.lst _) (.lst _) (.lst _) (by omega) (oF.mono (by omega) (by omega)) (oH.mono (by omega) (by omega))
  have w3 := judge_lots (n := 9) (.tup (names.map .str)) (.tup (H.map tS)) (lD F) names H F (.tup _) (.tup _) (.lst _) (by omega) (oH.mono (by omega) (by omega)) (oF.mono (by omega) (by omega))
  rw [j1] at w1 w3
  rw [j2] at w2
  obtain ⟨g8, z8, s3, ps, t8, w8, rfl, lps, ops⟩ := turn_8 8 ns names (by omega) (by omega) (lD H) (lD F) [0, 1, 2, 3] [.dat (.scr ns), .own (.lst s2.ds), .dat (.lst (names.map .str)), .dat (lD H), .dat (lD F), .own (.lst ([(H, F), (F, H)].map fun p => .tup (pE p))), .un, .un, .un, .un, .un, .un, .un, .un] ⟨by simp, s2, [(H, F), (F, H)], .un, .un, rfl, by simp, by simp, by
    intro p hp
    simp at hp
    rcases hp with rfl | rfl
    · exact ⟨oH.mono (by simp) (by simp), oF.mono (by simp) (by simp)⟩
    · exact ⟨oF.mono (by simp) (by simp), oH.mono (by simp) (by simp)⟩⟩
  have z9 := e_shuffled (con := con0) (wf := 1000) (n := 11) q_law_pick q_law_shuffled tS s3 H (lD H) (.lst _) (by have := oH.1; omega)
  have z10 := e_pick (con := con0) (wf := 1000) (n := 12) q_law_pick (shs s3 H) 4 i4
  obtain ⟨m4, hm4⟩ : ∃ m : Nat, (m : Int) = pk (shs s3 H) 4 := ⟨(pk (shs s3 H) 4).toNat, by have := pk_nn (shs s3 H) 4; omega⟩
  have hm4' : m4 ≤ 4 := by have := pk_lt (shs s3 H) 4 (by omega); omega
  obtain ⟨told', s4, z11, lt', ht'⟩ := e_drawn (con := con0) (wf := 1000) (n := 10) q_law_pick q_law_shuffled q_law_lot_sorted q_law_g_lot q_law_g_inside q_law_g_holds q_law_g_drawn_lots (nk (shs s3 H) 4) names m4 (by omega) (by omega)
  rw [hm4] at z11
  obtain ⟨K, hK⟩ : ∃ K, K = drawnL told' := ⟨_, rfl⟩
  rw [← hK] at z11
  have oK : Okl 1000 1000 K := ⟨by have := drawn_len told'; rw [hK]; omega, fun l hl => by rw [hK] at hl; have := ht' l (drawn_mem hl); exact ⟨this.1, by omega⟩⟩
  have oS : Okl 1000 1000 (sh s3 H) := ⟨by rw [sh_len]; have := oH.1; omega, fun l hl => by have := oH.2 l ((sh_mem _ _ _).mp hl); exact ⟨this.1, by omega⟩⟩
  obtain ⟨pd, hpd⟩ : ∃ pd, pd = (ps ++ [(sh s3 H, K)]).map fun p => D.tup (pE p) := ⟨_, rfl⟩
  obtain ⟨g12, z12, s5, a, b, c, d, e, rfl⟩ := turn_12 8 ns names (by omega) (lD H) (lD F) t8 w8 pd (ps ++ [(sh s3 H, K)]) [.dat (.scr ns), .own (.lst s4.ds), .dat (.lst (names.map .str)), .dat (lD H), .dat (lD F), .own (.lst pd), t8, w8, .un, .un, .un, .un, .un, .un] (fun p hp => by
    rcases List.mem_append.mp hp with q | q
    · exact ⟨(ops p q).1.mono (by omega) (by omega), (ops p q).2.mono (by omega) (by omega)⟩
    · simp at q; subst q; exact ⟨oS, oK⟩) ⟨s4, .un, .un, .un, .un, .un, rfl⟩
  have z8' : forB con0 (runF con0 1000 Γ 13) 1000 6 none (brF [false]) GL.l_law_8 (nats 4) [.dat (.scr ns), .own (.lst s2.ds), .dat (.lst (names.map .str)), .dat (lD H), .dat (lD F), .own (.lst [.tup [lD H, lD F], .tup [lD F, lD H]]), .un, .un, .un, .un, .un, .un, .un, .un] = _ := z8
  have hps : ps.length < 16777216 := by omega
  have epd : (ps.map fun p => D.tup (pE p)) ++ [.tup [lD (sh s3 H), lD K]] = pd := by rw [hpd, List.map_append]; rfl
  have er : rngD 0 (4 : Int) = some (nats 4) := rngD_nat (n := 4) (by omega)
  rw [← hpd] at z12
  refine ⟨[.un], ?_⟩
  simp [GL.b_law, z0, z1, z2, z3, z4, lD_eq, z5, w1, w2, rD, er, z8', z9, z10, z11, DL.sizeLine_eq, hps, epd, z12, tup_lD, w3]
end K67

set_option Elab.async false
set_option linter.all false
set_option autoImplicit false
set_option maxRecDepth 100000
set_option maxHeartbeats 4000000
namespace K67
open PySem PySem.Spec PyProof.Rows DL L2
theorem binds_all : ∀ d ∈ defs, BindsOk d := by
  intro d hd
  simp only [defs, List.mem_cons, List.not_mem_nil, or_false] at hd
  rcases hd with rfl | rfl | rfl | rfl | rfl | rfl | rfl | rfl | rfl | rfl | rfl | rfl | rfl | rfl | rfl | rfl | rfl | rfl | rfl | rfl | rfl | rfl | rfl | rfl | rfl
  · exact fun _ _ _ _ _ _ us hl => match us, hl with | [_], _ => rfl
  · exact fun _ _ _ _ _ _ us hl => match us, hl with | [_, _], _ => rfl
  · exact fun _ _ _ _ _ _ us hl => match us, hl with | [_], _ => rfl
  · exact fun _ _ _ _ _ _ us hl => match us, hl with | [_, _], _ => rfl
  · exact fun _ _ _ _ _ _ us hl => match us, hl with | [_, _], _ => rfl
  · exact fun _ _ _ _ _ _ us hl => match us, hl with | [_], _ => rfl
  · exact fun _ _ _ _ _ _ us hl => match us, hl with | [_, _, _], _ => rfl
  · exact fun _ _ _ _ _ _ us hl => match us, hl with | [_, _], _ => rfl
  · exact fun _ _ _ _ _ _ us hl => match us, hl with | [_, _], _ => rfl
  · exact fun _ _ _ _ _ _ us hl => match us, hl with | [_, _], _ => rfl
  · exact fun _ _ _ _ _ _ us hl => match us, hl with | [], _ => rfl
  · exact fun _ _ _ _ _ _ us hl => match us, hl with | [_, _], _ => rfl
  · exact fun _ _ _ _ _ _ us hl => match us, hl with | [_, _], _ => rfl
  · exact fun _ _ _ _ _ _ us hl => match us, hl with | [_], _ => rfl
  · exact fun _ _ _ _ _ _ us hl => match us, hl with | [_, _], _ => rfl
  · exact fun _ _ _ _ _ _ us hl => match us, hl with | [_], _ => rfl
  · exact fun _ _ _ _ _ _ us hl => match us, hl with | [_], _ => rfl
  · exact fun _ _ _ _ _ _ us hl => match us, hl with | [_, _], _ => rfl
  · exact fun _ _ _ _ _ _ us hl => match us, hl with | [_, _], _ => rfl
  · exact fun _ _ _ _ _ _ us hl => match us, hl with | [_, _], _ => rfl
  · exact fun _ _ _ _ _ _ us hl => match us, hl with | [_, _, _], _ => rfl
  · exact fun _ _ _ _ _ _ us hl => match us, hl with | [_, _, _], _ => rfl
  · exact fun _ _ _ _ _ _ us hl => match us, hl with | [_, _, _], _ => rfl
  · exact fun _ _ _ _ _ _ us hl => match us, hl with | [_, _], _ => rfl
  · exact fun _ _ _ _ _ _ us hl => match us, hl with | [_], _ => rfl
theorem ck_all : defs.all (ckD { cons := [], fns := fun k => (dsOf keys defs k).map (·.x), lam := false }) = true := by
  show defs.all (ckD G0) = true
  simp only [defs, List.all_cons, List.all_nil, Bool.and_true, Bool.and_eq_true]
  exact ⟨ck_lot_of, ck_within, ck_lots_by_order, ck_meets_all, ck_holds_one, ck_first_doubled, ck_judge_lists, ck_law_source, ck_law_pick, ck_law_shuffled, ck_law_keywords, ck_law_names, ck_law_same, ck_law_lot_sorted, ck_law_blockers, ck_law_e_lots, ck_law_g_lot, ck_law_g_inside, ck_law_g_meets, ck_law_g_holds, ck_law_g_due, ck_law_g_drawn_lots, ck_law_g_bent_lots, ck_law_g_loose, ck_law⟩
theorem all_mk {l : PySem.W.OpenLaw} {w : World} {K : PySem.W.Frag} {h : Heap} {mg : Str → Option Value} {fa f0 f1 f2 f3 f4 f5 f6 f7 f8 f9 f10 f11 f12 f13 f14 f15 f16 f17 f18 f19 f20 f21 f22 f23 f24 cc2 cc13 cc14 P2 P13 P14 : Addr} (X : K.In h) (G : h.Ns mainGlobals mg) (hfa : mg "law" = some (.ref fa))
    (TB : ∀ (x : Str) (c P : Addr), (((["lots_by_order", "_law_lot_sorted", "_law_blockers"] : List Str).any fun y => decide (y = x)) = true) → PySem.W.tabIn K x = some (c, P) → PySem.W.CodeHd h c P ∧ h.get? P = some { cls := .none, data := .fields #[] })
    {od0 an0 od1 an1 od2 an2 oy2 od3 an3 od4 an4 od5 an5 od6 an6 od7 an7 od8 an8 od9 an9 od10 an10 od11 an11 od12 an12 od13 an13 oy13 od14 an14 oy14 od15 an15 od16 an16 od17 an17 od18 an18 od19 an19 od20 an20 od21 an21 od22 an22 od23 an23 od24 an24 : Option Addr} {sl0 sl1 sl2 sl3 sl4 sl5 sl6 sl7 sl8 sl9 sl10 sl11 sl12 sl13 sl14 sl15 sl16 sl17 sl18 sl19 sl20 sl21 sl22 sl23 sl24 ow2 ow13 ow14 : Array (Option Value)} {oc0 kV0 dc0 pm0 ct0 cd0 oc1 kV1 dc1 pm1 ct1 cd1 oc2 kV2 dc2 pm2 ct2 oz2 oc3 kV3 dc3 pm3 ct3 cd3 oc4 kV4 dc4 pm4 ct4 cd4 oc5 kV5 dc5 pm5 ct5 cd5 oc6 kV6 dc6 pm6 ct6 cd6 oc7 kV7 dc7 pm7 ct7 cd7 oc8 kV8 dc8 pm8 ct8 cd8 oc9 kV9 dc9 pm9 ct9 cd9 oc10 kV10 dc10 pm10 ct10 cd10 oc11 kV11 dc11 pm11 ct11 cd11 oc12 kV12 dc12 pm12 ct12 cd12 oc13 kV13 dc13 pm13 ct13 oz13 oc14 kV14 dc14 pm14 ct14 oz14 oc15 kV15 dc15 pm15 ct15 cd15 oc16 kV16 dc16 pm16 ct16 cd16 oc17 kV17 dc17 pm17 ct17 cd17 oc18 kV18 dc18 pm18 ct18 cd18 oc19 kV19 dc19 pm19 ct19 cd19 oc20 kV20 dc20 pm20 ct20 cd20 oc21 kV21 dc21 pm21 ct21 cd21 oc22 kV22 dc22 pm22 ct22 cd22 oc23 kV23 dc23 pm23 ct23 cd23 oc24 kV24 dc24 pm24 ct24 cd24 : Value} {vs2 vs13 vs14 : Array Value}
    (a0 : PySem.W.nsIn K mainGlobals "lot_of" = some (some (.ref f0)))
    (l0 : K.lookup f0 = some ⟨oc0, od0, .func (PySem.W.fnOf "lot_of" "lot_of" (defArgs s_lot_of) (defBody s_lot_of) (defScope s_lot_of) .none kV0 dc0 pm0 an0 cd0 ct0), sl0⟩)
    (c0 : PySem.W.codeIn K cd0 "lot_of" = true)
    (k0 : PySem.W.keepIn K (.ref f0) = true)
    (a1 : PySem.W.nsIn K mainGlobals "within" = some (some (.ref f1)))
    (l1 : K.lookup f1 = some ⟨oc1, od1, .func (PySem.W.fnOf "within" "within" (defArgs s_within) (defBody s_within) (defScope s_within) .none kV1 dc1 pm1 an1 cd1 ct1), sl1⟩)
    (c1 : PySem.W.codeIn K cd1 "within" = true)
    (k1 : PySem.W.keepIn K (.ref f1) = true)
    (a2 : PySem.W.nsIn K mainGlobals "lots_by_order" = some (some (.ref f2)))
    (l2 : K.lookup f2 = some ⟨oc2, od2, .func (PySem.W.fnOf "lots_by_order" "lots_by_order" (defArgs s_lots_by_order) (defBody s_lots_by_order) (defScope s_lots_by_order) .none kV2 dc2 pm2 an2 (.ref cc2) ct2), sl2⟩)
    (c2 : PySem.W.codeIn K (.ref cc2) "lots_by_order" = true)
    (k2 : PySem.W.keepIn K (.ref f2) = true)
    (t2 : K.lookup cc2 = some ⟨oz2, oy2, .fields vs2, ow2⟩)
    (u2 : (vs2[11]? : Option Value) = some (.ref P2))
    (n2 : K.lookup P2 = none)
    (a3 : PySem.W.nsIn K mainGlobals "meets_all" = some (some (.ref f3)))
    (l3 : K.lookup f3 = some ⟨oc3, od3, .func (PySem.W.fnOf "meets_all" "meets_all" (defArgs s_meets_all) (defBody s_meets_all) (defScope s_meets_all) .none kV3 dc3 pm3 an3 cd3 ct3), sl3⟩)
    (c3 : PySem.W.codeIn K cd3 "meets_all" = true)
    (k3 : PySem.W.keepIn K (.ref f3) = true)
    (a4 : PySem.W.nsIn K mainGlobals "holds_one" = some (some (.ref f4)))
    (l4 : K.lookup f4 = some ⟨oc4, od4, .func (PySem.W.fnOf "holds_one" "holds_one" (defArgs s_holds_one) (defBody s_holds_one) (defScope s_holds_one) .none kV4 dc4 pm4 an4 cd4 ct4), sl4⟩)
    (c4 : PySem.W.codeIn K cd4 "holds_one" = true)
    (k4 : PySem.W.keepIn K (.ref f4) = true)
    (a5 : PySem.W.nsIn K mainGlobals "first_doubled" = some (some (.ref f5)))
    (l5 : K.lookup f5 = some ⟨oc5, od5, .func (PySem.W.fnOf "first_doubled" "first_doubled" (defArgs s_first_doubled) (defBody s_first_doubled) (defScope s_first_doubled) .none kV5 dc5 pm5 an5 cd5 ct5), sl5⟩)
    (c5 : PySem.W.codeIn K cd5 "first_doubled" = true)
    (k5 : PySem.W.keepIn K (.ref f5) = true)
    (a6 : PySem.W.nsIn K mainGlobals "judge_lists" = some (some (.ref f6)))
    (l6 : K.lookup f6 = some ⟨oc6, od6, .func (PySem.W.fnOf "judge_lists" "judge_lists" (defArgs s_judge_lists) (defBody s_judge_lists) (defScope s_judge_lists) .none kV6 dc6 pm6 an6 cd6 ct6), sl6⟩)
    (c6 : PySem.W.codeIn K cd6 "judge_lists" = true)
    (k6 : PySem.W.keepIn K (.ref f6) = true)
    (a7 : PySem.W.nsIn K mainGlobals "_law_source" = some (some (.ref f7)))
    (l7 : K.lookup f7 = some ⟨oc7, od7, .func (PySem.W.fnOf "_law_source" "_law_source" (defArgs s_law_source) (defBody s_law_source) (defScope s_law_source) .none kV7 dc7 pm7 an7 cd7 ct7), sl7⟩)
    (c7 : PySem.W.codeIn K cd7 "_law_source" = true)
    (k7 : PySem.W.keepIn K (.ref f7) = true)
    (a8 : PySem.W.nsIn K mainGlobals "_law_pick" = some (some (.ref f8)))
    (l8 : K.lookup f8 = some ⟨oc8, od8, .func (PySem.W.fnOf "_law_pick" "_law_pick" (defArgs s_law_pick) (defBody s_law_pick) (defScope s_law_pick) .none kV8 dc8 pm8 an8 cd8 ct8), sl8⟩)
    (c8 : PySem.W.codeIn K cd8 "_law_pick" = true)
    (k8 : PySem.W.keepIn K (.ref f8) = true)
    (a9 : PySem.W.nsIn K mainGlobals "_law_shuffled" = some (some (.ref f9)))
    (l9 : K.lookup f9 = some ⟨oc9, od9, .func (PySem.W.fnOf "_law_shuffled" "_law_shuffled" (defArgs s_law_shuffled) (defBody s_law_shuffled) (defScope s_law_shuffled) .none kV9 dc9 pm9 an9 cd9 ct9), sl9⟩)
    (c9 : PySem.W.codeIn K cd9 "_law_shuffled" = true)
    (k9 : PySem.W.keepIn K (.ref f9) = true)
    (a10 : PySem.W.nsIn K mainGlobals "_law_keywords" = some (some (.ref f10)))
    (l10 : K.lookup f10 = some ⟨oc10, od10, .func (PySem.W.fnOf "_law_keywords" "_law_keywords" (defArgs s_law_keywords) (defBody s_law_keywords) (defScope s_law_keywords) .none kV10 dc10 pm10 an10 cd10 ct10), sl10⟩)
    (c10 : PySem.W.codeIn K cd10 "_law_keywords" = true)
    (k10 : PySem.W.keepIn K (.ref f10) = true)
    (a11 : PySem.W.nsIn K mainGlobals "_law_names" = some (some (.ref f11)))
    (l11 : K.lookup f11 = some ⟨oc11, od11, .func (PySem.W.fnOf "_law_names" "_law_names" (defArgs s_law_names) (defBody s_law_names) (defScope s_law_names) .none kV11 dc11 pm11 an11 cd11 ct11), sl11⟩)
    (c11 : PySem.W.codeIn K cd11 "_law_names" = true)
    (k11 : PySem.W.keepIn K (.ref f11) = true)
    (a12 : PySem.W.nsIn K mainGlobals "_law_same" = some (some (.ref f12)))
    (l12 : K.lookup f12 = some ⟨oc12, od12, .func (PySem.W.fnOf "_law_same" "_law_same" (defArgs s_law_same) (defBody s_law_same) (defScope s_law_same) .none kV12 dc12 pm12 an12 cd12 ct12), sl12⟩)
    (c12 : PySem.W.codeIn K cd12 "_law_same" = true)
    (k12 : PySem.W.keepIn K (.ref f12) = true)
    (a13 : PySem.W.nsIn K mainGlobals "_law_lot_sorted" = some (some (.ref f13)))
    (l13 : K.lookup f13 = some ⟨oc13, od13, .func (PySem.W.fnOf "_law_lot_sorted" "_law_lot_sorted" (defArgs s_law_lot_sorted) (defBody s_law_lot_sorted) (defScope s_law_lot_sorted) .none kV13 dc13 pm13 an13 (.ref cc13) ct13), sl13⟩)
    (c13 : PySem.W.codeIn K (.ref cc13) "_law_lot_sorted" = true)
    (k13 : PySem.W.keepIn K (.ref f13) = true)
    (t13 : K.lookup cc13 = some ⟨oz13, oy13, .fields vs13, ow13⟩)
    (u13 : (vs13[11]? : Option Value) = some (.ref P13))
    (n13 : K.lookup P13 = none)
    (a14 : PySem.W.nsIn K mainGlobals "_law_blockers" = some (some (.ref f14)))
    (l14 : K.lookup f14 = some ⟨oc14, od14, .func (PySem.W.fnOf "_law_blockers" "_law_blockers" (defArgs s_law_blockers) (defBody s_law_blockers) (defScope s_law_blockers) .none kV14 dc14 pm14 an14 (.ref cc14) ct14), sl14⟩)
    (c14 : PySem.W.codeIn K (.ref cc14) "_law_blockers" = true)
    (k14 : PySem.W.keepIn K (.ref f14) = true)
    (t14 : K.lookup cc14 = some ⟨oz14, oy14, .fields vs14, ow14⟩)
    (u14 : (vs14[11]? : Option Value) = some (.ref P14))
    (n14 : K.lookup P14 = none)
    (a15 : PySem.W.nsIn K mainGlobals "_law_e_lots" = some (some (.ref f15)))
    (l15 : K.lookup f15 = some ⟨oc15, od15, .func (PySem.W.fnOf "_law_e_lots" "_law_e_lots" (defArgs s_law_e_lots) (defBody s_law_e_lots) (defScope s_law_e_lots) .none kV15 dc15 pm15 an15 cd15 ct15), sl15⟩)
    (c15 : PySem.W.codeIn K cd15 "_law_e_lots" = true)
    (k15 : PySem.W.keepIn K (.ref f15) = true)
    (a16 : PySem.W.nsIn K mainGlobals "_law_g_lot" = some (some (.ref f16)))
    (l16 : K.lookup f16 = some ⟨oc16, od16, .func (PySem.W.fnOf "_law_g_lot" "_law_g_lot" (defArgs s_law_g_lot) (defBody s_law_g_lot) (defScope s_law_g_lot) .none kV16 dc16 pm16 an16 cd16 ct16), sl16⟩)
    (c16 : PySem.W.codeIn K cd16 "_law_g_lot" = true)
    (k16 : PySem.W.keepIn K (.ref f16) = true)
    (a17 : PySem.W.nsIn K mainGlobals "_law_g_inside" = some (some (.ref f17)))
    (l17 : K.lookup f17 = some ⟨oc17, od17, .func (PySem.W.fnOf "_law_g_inside" "_law_g_inside" (defArgs s_law_g_inside) (defBody s_law_g_inside) (defScope s_law_g_inside) .none kV17 dc17 pm17 an17 cd17 ct17), sl17⟩)
    (c17 : PySem.W.codeIn K cd17 "_law_g_inside" = true)
    (k17 : PySem.W.keepIn K (.ref f17) = true)
    (a18 : PySem.W.nsIn K mainGlobals "_law_g_meets" = some (some (.ref f18)))
    (l18 : K.lookup f18 = some ⟨oc18, od18, .func (PySem.W.fnOf "_law_g_meets" "_law_g_meets" (defArgs s_law_g_meets) (defBody s_law_g_meets) (defScope s_law_g_meets) .none kV18 dc18 pm18 an18 cd18 ct18), sl18⟩)
    (c18 : PySem.W.codeIn K cd18 "_law_g_meets" = true)
    (k18 : PySem.W.keepIn K (.ref f18) = true)
    (a19 : PySem.W.nsIn K mainGlobals "_law_g_holds" = some (some (.ref f19)))
    (l19 : K.lookup f19 = some ⟨oc19, od19, .func (PySem.W.fnOf "_law_g_holds" "_law_g_holds" (defArgs s_law_g_holds) (defBody s_law_g_holds) (defScope s_law_g_holds) .none kV19 dc19 pm19 an19 cd19 ct19), sl19⟩)
    (c19 : PySem.W.codeIn K cd19 "_law_g_holds" = true)
    (k19 : PySem.W.keepIn K (.ref f19) = true)
    (a20 : PySem.W.nsIn K mainGlobals "_law_g_due" = some (some (.ref f20)))
    (l20 : K.lookup f20 = some ⟨oc20, od20, .func (PySem.W.fnOf "_law_g_due" "_law_g_due" (defArgs s_law_g_due) (defBody s_law_g_due) (defScope s_law_g_due) .none kV20 dc20 pm20 an20 cd20 ct20), sl20⟩)
    (c20 : PySem.W.codeIn K cd20 "_law_g_due" = true)
    (k20 : PySem.W.keepIn K (.ref f20) = true)
    (a21 : PySem.W.nsIn K mainGlobals "_law_g_drawn_lots" = some (some (.ref f21)))
    (l21 : K.lookup f21 = some ⟨oc21, od21, .func (PySem.W.fnOf "_law_g_drawn_lots" "_law_g_drawn_lots" (defArgs s_law_g_drawn_lots) (defBody s_law_g_drawn_lots) (defScope s_law_g_drawn_lots) .none kV21 dc21 pm21 an21 cd21 ct21), sl21⟩)
    (c21 : PySem.W.codeIn K cd21 "_law_g_drawn_lots" = true)
    (k21 : PySem.W.keepIn K (.ref f21) = true)
    (a22 : PySem.W.nsIn K mainGlobals "_law_g_bent_lots" = some (some (.ref f22)))
    (l22 : K.lookup f22 = some ⟨oc22, od22, .func (PySem.W.fnOf "_law_g_bent_lots" "_law_g_bent_lots" (defArgs s_law_g_bent_lots) (defBody s_law_g_bent_lots) (defScope s_law_g_bent_lots) .none kV22 dc22 pm22 an22 cd22 ct22), sl22⟩)
    (c22 : PySem.W.codeIn K cd22 "_law_g_bent_lots" = true)
    (k22 : PySem.W.keepIn K (.ref f22) = true)
    (a23 : PySem.W.nsIn K mainGlobals "_law_g_loose" = some (some (.ref f23)))
    (l23 : K.lookup f23 = some ⟨oc23, od23, .func (PySem.W.fnOf "_law_g_loose" "_law_g_loose" (defArgs s_law_g_loose) (defBody s_law_g_loose) (defScope s_law_g_loose) .none kV23 dc23 pm23 an23 cd23 ct23), sl23⟩)
    (c23 : PySem.W.codeIn K cd23 "_law_g_loose" = true)
    (k23 : PySem.W.keepIn K (.ref f23) = true)
    (a24 : PySem.W.nsIn K mainGlobals "law" = some (some (.ref f24)))
    (l24 : K.lookup f24 = some ⟨oc24, od24, .func (PySem.W.fnOf "law" "law" (defArgs s_law) (defBody s_law) (defScope s_law) .none kV24 dc24 pm24 an24 cd24 ct24), sl24⟩)
    (c24 : PySem.W.codeIn K cd24 "law" = true)
    (k24 : PySem.W.keepIn K (.ref f24) = true)
    (z_len : PySem.W.nsIn K mainGlobals "len" = some none)
    (z_abs : PySem.W.nsIn K mainGlobals "abs" = some none)
    (z_int : PySem.W.nsIn K mainGlobals "int" = some none)
    (z_str : PySem.W.nsIn K mainGlobals "str" = some none)
    (z_min : PySem.W.nsIn K mainGlobals "min" = some none)
    (z_max : PySem.W.nsIn K mainGlobals "max" = some none)
    (z_list : PySem.W.nsIn K mainGlobals "list" = some none)
    (z_tuple : PySem.W.nsIn K mainGlobals "tuple" = some none)
    (z_sum : PySem.W.nsIn K mainGlobals "sum" = some none)
    (z_any : PySem.W.nsIn K mainGlobals "any" = some none)
    (z_all : PySem.W.nsIn K mainGlobals "all" = some none)
    (z_dict : PySem.W.nsIn K mainGlobals "dict" = some none)
    (z_bool : PySem.W.nsIn K mainGlobals "bool" = some none)
    (z_range : PySem.W.nsIn K mainGlobals "range" = some none)
    (z_enumerate : PySem.W.nsIn K mainGlobals "enumerate" = some none)
    (z_isinstance : PySem.W.nsIn K mainGlobals "isinstance" = some none)
    (z_sorted : PySem.W.nsIn K mainGlobals "sorted" = some none)
    (z_set : PySem.W.nsIn K mainGlobals "set" = some none)
    (PU : [P2, P13, P14].Nodup)
    : LamX.LawAtS l w K (L2.CX l.prog w) (7 * 14) 63 "script" mg fa h := by
  have FF : AllF K defs [(f0, cd0), (f1, cd1), (f2, .ref cc2), (f3, cd3), (f4, cd4), (f5, cd5), (f6, cd6), (f7, cd7), (f8, cd8), (f9, cd9), (f10, cd10), (f11, cd11), (f12, cd12), (f13, .ref cc13), (f14, .ref cc14), (f15, cd15), (f16, cd16), (f17, cd17), (f18, cd18), (f19, cd19), (f20, cd20), (f21, cd21), (f22, cd22), (f23, cd23), (f24, cd24)] := (.cons (dfact (d := d_lot_of) a0 l0 c0 k0) (.cons (dfact (d := d_within) a1 l1 c1 k1) (.cons (dfact (d := d_lots_by_order) a2 l2 c2 k2) (.cons (dfact (d := d_meets_all) a3 l3 c3 k3) (.cons (dfact (d := d_holds_one) a4 l4 c4 k4) (.cons (dfact (d := d_first_doubled) a5 l5 c5 k5) (.cons (dfact (d := d_judge_lists) a6 l6 c6 k6) (.cons (dfact (d := d_law_source) a7 l7 c7 k7) (.cons (dfact (d := d_law_pick) a8 l8 c8 k8) (.cons (dfact (d := d_law_shuffled) a9 l9 c9 k9) (.cons (dfact (d := d_law_keywords) a10 l10 c10 k10) (.cons (dfact (d := d_law_names) a11 l11 c11 k11) (.cons (dfact (d := d_law_same) a12 l12 c12 k12) (.cons (dfact (d := d_law_lot_sorted) a13 l13 c13 k13) (.cons (dfact (d := d_law_blockers) a14 l14 c14 k14) (.cons (dfact (d := d_law_e_lots) a15 l15 c15 k15) (.cons (dfact (d := d_law_g_lot) a16 l16 c16 k16) (.cons (dfact (d := d_law_g_inside) a17 l17 c17 k17) (.cons (dfact (d := d_law_g_meets) a18 l18 c18 k18) (.cons (dfact (d := d_law_g_holds) a19 l19 c19 k19) (.cons (dfact (d := d_law_g_due) a20 l20 c20 k20) (.cons (dfact (d := d_law_g_drawn_lots) a21 l21 c21 k21) (.cons (dfact (d := d_law_g_bent_lots) a22 l22 c22 k22) (.cons (dfact (d := d_law_g_loose) a23 l23 c23 k23) (.cons (dfact (d := d_law) a24 l24 c24 k24) .nil)))))))))))))))))))))))))
  refine law_at (l := l) (w := w) keys defs [] (fun _ => none) 1000 14 24 d_law rfl rfl X G hfa [(f0, cd0), (f1, cd1), (f2, .ref cc2), (f3, cd3), (f4, cd4), (f5, cd5), (f6, cd6), (f7, cd7), (f8, cd8), (f9, cd9), (f10, cd10), (f11, cd11), (f12, cd12), (f13, .ref cc13), (f14, .ref cc14), (f15, cd15), (f16, cd16), (f17, cd17), (f18, cd18), (f19, cd19), (f20, cd20), (f21, cd21), (f22, cd22), (f23, cd23), (f24, cd24)] FF.facts binds_all [("lots_by_order", cc2, P2), ("_law_lot_sorted", cc13, P13), ("_law_blockers", cc14, P14)] ?tabs ?tabOf ?tabU ?hcon ?bi ?ty ?lib ck_all math
  case tabs =>
    intro t ht
    simp only [List.mem_cons, List.not_mem_nil, or_false] at ht
    rcases ht with rfl | rfl | rfl
    · exact have z := TB "lots_by_order" cc2 P2 (by decide +kernel) (tabIn_mk a2 l2 rfl t2 u2); ⟨z.2, z.1, n2⟩
    · exact have z := TB "_law_lot_sorted" cc13 P13 (by decide +kernel) (tabIn_mk a13 l13 rfl t13 u13); ⟨z.2, z.1, n13⟩
    · exact have z := TB "_law_blockers" cc14 P14 (by decide +kernel) (tabIn_mk a14 l14 rfl t14 u14); ⟨z.2, z.1, n14⟩
  case tabOf =>
    intro k d hd hl
    have hk : k < 25 := by have := List.getElem?_eq_some_iff.mp hd; exact this.1
    match k, hk, hd with
    | 0, _, hd => cases hd; exact absurd hl (by decide)
    | 1, _, hd => cases hd; exact absurd hl (by decide)
    | 2, _, hd => cases hd; exact ⟨_, _, P2, rfl, .head _⟩
    | 3, _, hd => cases hd; exact absurd hl (by decide)
    | 4, _, hd => cases hd; exact absurd hl (by decide)
    | 5, _, hd => cases hd; exact absurd hl (by decide)
    | 6, _, hd => cases hd; exact absurd hl (by decide)
    | 7, _, hd => cases hd; exact absurd hl (by decide)
    | 8, _, hd => cases hd; exact absurd hl (by decide)
    | 9, _, hd => cases hd; exact absurd hl (by decide)
    | 10, _, hd => cases hd; exact absurd hl (by decide)
    | 11, _, hd => cases hd; exact absurd hl (by decide)
    | 12, _, hd => cases hd; exact absurd hl (by decide)
    | 13, _, hd => cases hd; exact ⟨_, _, P13, rfl, .tail _ (.head _)⟩
    | 14, _, hd => cases hd; exact ⟨_, _, P14, rfl, .tail _ (.tail _ (.head _))⟩
    | 15, _, hd => cases hd; exact absurd hl (by decide)
    | 16, _, hd => cases hd; exact absurd hl (by decide)
    | 17, _, hd => cases hd; exact absurd hl (by decide)
    | 18, _, hd => cases hd; exact absurd hl (by decide)
    | 19, _, hd => cases hd; exact absurd hl (by decide)
    | 20, _, hd => cases hd; exact absurd hl (by decide)
    | 21, _, hd => cases hd; exact absurd hl (by decide)
    | 22, _, hd => cases hd; exact absurd hl (by decide)
    | 23, _, hd => cases hd; exact absurd hl (by decide)
    | 24, _, hd => cases hd; exact absurd hl (by decide)
    | _ + 25, hk, _ => omega
  case tabU =>
    exact tabU_of _ PU
  case hcon => intro T hT k x d hk; simp at hk
  case bi => exact fun b => match b with
    | .len => PySem.W.mg_none_of X G z_len
    | .abs => PySem.W.mg_none_of X G z_abs
    | .int => PySem.W.mg_none_of X G z_int
    | .str => PySem.W.mg_none_of X G z_str
    | .min => PySem.W.mg_none_of X G z_min
    | .max => PySem.W.mg_none_of X G z_max
    | .lst => PySem.W.mg_none_of X G z_list
    | .tup => PySem.W.mg_none_of X G z_tuple
    | .sum => PySem.W.mg_none_of X G z_sum
    | .any => PySem.W.mg_none_of X G z_any
    | .all => PySem.W.mg_none_of X G z_all
  case ty => exact fun b => match b with
    | .tup => PySem.W.mg_none_of X G z_tuple
    | .lst => PySem.W.mg_none_of X G z_list
    | .dic => PySem.W.mg_none_of X G z_dict
    | .bl => PySem.W.mg_none_of X G z_bool
    | .int => PySem.W.mg_none_of X G z_int
    | .str => PySem.W.mg_none_of X G z_str
  case lib => exact ⟨PySem.W.mg_none_of X G z_range, PySem.W.mg_none_of X G z_enumerate, PySem.W.mg_none_of X G z_isinstance, PySem.W.mg_none_of X G z_sorted, PySem.W.mg_none_of X G z_set⟩
end K67
open PySem PySem.W PyProof.Rows
set_option maxRecDepth 100000 in
set_option maxHeartbeats 0 in
theorem PySem.Challenge.cw_nobodytwice_k67_lists_of_blockers_judged_holds : PySem.Challenge.rw_nobodytwice_k67_lists_of_blockers_judged.Holds := by
  w_on; o_law; k_head; (case hw => w_witness2)
  k_fill
  refine DL.walk_D (l := PySem.Challenge.rw_nobodytwice_k67_lists_of_blockers_judged) 14 rfl rfl ⟨rfl, by decide, by decide⟩ (fun w h Y => by first | exact PySem.W.kIn_of Y | exact PySem.W.km_in_of Y) ?F
  case F =>
    intro w mg fa h KX G hmg TB
    refine' K67.all_mk KX G hmg (fun x c P hx ht => TB x c P (DL.some_of_any (p := fun x => List.find? (fun e => e.name == x) (recsOf _)) ?recs x hx) ht) ?a0 ?l0 ?c0 ?k0 ?a1 ?l1 ?c1 ?k1 ?a2 ?l2 ?c2 ?k2 ?t2 ?u2 ?n2 ?a3 ?l3 ?c3 ?k3 ?a4 ?l4 ?c4 ?k4 ?a5 ?l5 ?c5 ?k5 ?a6 ?l6 ?c6 ?k6 ?a7 ?l7 ?c7 ?k7 ?a8 ?l8 ?c8 ?k8 ?a9 ?l9 ?c9 ?k9 ?a10 ?l10 ?c10 ?k10 ?a11 ?l11 ?c11 ?k11 ?a12 ?l12 ?c12 ?k12 ?a13 ?l13 ?c13 ?k13 ?t13 ?u13 ?n13 ?a14 ?l14 ?c14 ?k14 ?t14 ?u14 ?n14 ?a15 ?l15 ?c15 ?k15 ?a16 ?l16 ?c16 ?k16 ?a17 ?l17 ?c17 ?k17 ?a18 ?l18 ?c18 ?k18 ?a19 ?l19 ?c19 ?k19 ?a20 ?l20 ?c20 ?k20 ?a21 ?l21 ?c21 ?k21 ?a22 ?l22 ?c22 ?k22 ?a23 ?l23 ?c23 ?k23 ?a24 ?l24 ?c24 ?k24 ?z_len ?z_abs ?z_int ?z_str ?z_min ?z_max ?z_list ?z_tuple ?z_sum ?z_any ?z_all ?z_dict ?z_bool ?z_range ?z_enumerate ?z_isinstance ?z_sorted ?z_set ?PU
    (case a0 => k_is)
    (case l0 => k_is)
    (case c0 => k_is)
    (case k0 => k_is)
    (case a1 => k_is)
    (case l1 => k_is)
    (case c1 => k_is)
    (case k1 => k_is)
    (case a2 => k_is)
    (case l2 => k_is)
    (case c2 => k_is)
    (case k2 => k_is)
    (case t2 => k_is)
    (case u2 => rfl)
    (case n2 => kernel_rfl)
    (case a3 => k_is)
    (case l3 => k_is)
    (case c3 => k_is)
    (case k3 => k_is)
    (case a4 => k_is)
    (case l4 => k_is)
    (case c4 => k_is)
    (case k4 => k_is)
    (case a5 => k_is)
    (case l5 => k_is)
    (case c5 => k_is)
    (case k5 => k_is)
    (case a6 => k_is)
    (case l6 => k_is)
    (case c6 => k_is)
    (case k6 => k_is)
    (case a7 => k_is)
    (case l7 => k_is)
    (case c7 => k_is)
    (case k7 => k_is)
    (case a8 => k_is)
    (case l8 => k_is)
    (case c8 => k_is)
    (case k8 => k_is)
    (case a9 => k_is)
    (case l9 => k_is)
    (case c9 => k_is)
    (case k9 => k_is)
    (case a10 => k_is)
    (case l10 => k_is)
    (case c10 => k_is)
    (case k10 => k_is)
    (case a11 => k_is)
    (case l11 => k_is)
    (case c11 => k_is)
    (case k11 => k_is)
    (case a12 => k_is)
    (case l12 => k_is)
    (case c12 => k_is)
    (case k12 => k_is)
    (case a13 => k_is)
    (case l13 => k_is)
    (case c13 => k_is)
    (case k13 => k_is)
    (case t13 => k_is)
    (case u13 => rfl)
    (case n13 => kernel_rfl)
    (case a14 => k_is)
    (case l14 => k_is)
    (case c14 => k_is)
    (case k14 => k_is)
    (case t14 => k_is)
    (case u14 => rfl)
    (case n14 => kernel_rfl)
    (case a15 => k_is)
    (case l15 => k_is)
    (case c15 => k_is)
    (case k15 => k_is)
    (case a16 => k_is)
    (case l16 => k_is)
    (case c16 => k_is)
    (case k16 => k_is)
    (case a17 => k_is)
    (case l17 => k_is)
    (case c17 => k_is)
    (case k17 => k_is)
    (case a18 => k_is)
    (case l18 => k_is)
    (case c18 => k_is)
    (case k18 => k_is)
    (case a19 => k_is)
    (case l19 => k_is)
    (case c19 => k_is)
    (case k19 => k_is)
    (case a20 => k_is)
    (case l20 => k_is)
    (case c20 => k_is)
    (case k20 => k_is)
    (case a21 => k_is)
    (case l21 => k_is)
    (case c21 => k_is)
    (case k21 => k_is)
    (case a22 => k_is)
    (case l22 => k_is)
    (case c22 => k_is)
    (case k22 => k_is)
    (case a23 => k_is)
    (case l23 => k_is)
    (case c23 => k_is)
    (case k23 => k_is)
    (case a24 => k_is)
    (case l24 => k_is)
    (case c24 => k_is)
    (case k24 => k_is)
    (case z_len => k_is)
    (case z_abs => k_is)
    (case z_int => k_is)
    (case z_str => k_is)
    (case z_min => k_is)
    (case z_max => k_is)
    (case z_list => k_is)
    (case z_tuple => k_is)
    (case z_sum => k_is)
    (case z_any => k_is)
    (case z_all => k_is)
    (case z_dict => k_is)
    (case z_bool => k_is)
    (case z_range => k_is)
    (case z_enumerate => k_is)
    (case z_isinstance => k_is)
    (case z_sorted => k_is)
    (case z_set => k_is)
    (case PU => decide)
    (case recs => decide +kernel)

