import PyProof.Rows.All
import Wide.All
import OpenK.AllK
import Wide.FinOn
import HandS.ForMost
import HandS.Exc
import HandS.WordsExc
import HandS.Words
import HandS.Walk
import HandS.Comp
import HandS.Wide
import HandS.IsInst
import HandS.More
import PyProof.Rows.RuleB_pow
import PyProof.CallFns
import HandS.SetFor
import HandS.Deep
import HandS.SortInts
import KE.KUnpackStar
import HandS.Dict
import HandS.Ends
import PySem.Challenge.RW_goalcolumn_k40_texts_shown
set_option Elab.async false
set_option linter.all false
set_option maxRecDepth 100000
set_option maxHeartbeats 2000000
namespace SL
open PySem PySem.Spec PyProof.Rows L2

/-! ### values as trees: tuples are data, lists and dicts are addresses -/
inductive W where
  | non | bl (b : Bool) | int (i : Int) | str (x : Str) | ref (a : Addr) | ty (n : String) | tup (ws : List W)
  /-- a list that stands still: its place, its items -/
  | cst (a : Addr) (ws : List W)

/-- a list that no one writes -/
def KL (K : PySem.W.Frag) (H : Hp) (a : Addr) (xs : List V) : Prop := SqL K H a xs ∧ ((∃ o, H a = some (.frz o (.lst xs))) ∨ SqL K (fun _ => none) a xs)
mutual
def rep (K : PySem.W.Frag) (H : Hp) : W → V → Prop
  | .non, v => v = .non
  | .bl b, v => v = .bl b
  | .int i, v => v = .int i
  | .str x, v => v = .str x
  | .ref a, v => v = .ref a
  | .ty n, v => v = .ty n
  | .tup ws, v => ∃ (t : Addr) (xs : List V), v = .ref t ∧ SqT K H t xs ∧ reps K H ws xs
  | .cst a ws, v => v = .ref a ∧ ∃ xs : List V, KL K H a xs ∧ reps K H ws xs
def reps (K : PySem.W.Frag) (H : Hp) : List W → List V → Prop
  | [], xs => xs = []
  | w :: ws, xs => ∃ (x : V) (r : List V), xs = x :: r ∧ rep K H w x ∧ reps K H ws r
end

/-- tuples and lists that no one writes stay -/
structure Tr (K : PySem.W.Frag) (H H' : Hp) : Prop where
  tup : ∀ t xs, SqT K H t xs → SqT K H' t xs
  cst : ∀ a xs, KL K H a xs → KL K H' a xs
theorem Tr.refl {K : PySem.W.Frag} (H : Hp) : Tr K H H := ⟨fun _ _ h => h, fun _ _ h => h⟩
theorem Tr.trans {K : PySem.W.Frag} {H H1 H2 : Hp} (a : Tr K H H1) (b : Tr K H1 H2) : Tr K H H2 := ⟨fun t xs h => b.tup t xs (a.tup t xs h), fun t xs h => b.cst t xs (a.cst t xs h)⟩

mutual
theorem rep_mono {K : PySem.W.Frag} {H H' : Hp} (tr : Tr K H H') : ∀ (w : W) (v : V), rep K H w v → rep K H' w v
  | .non, _, h => by simpa only [rep] using h
  | .bl _, _, h => by simpa only [rep] using h
  | .int _, _, h => by simpa only [rep] using h
  | .str _, _, h => by simpa only [rep] using h
  | .ref _, _, h => by simpa only [rep] using h
  | .ty _, _, h => by simpa only [rep] using h
  | .tup ws, v, h => by
    simp only [rep] at h ⊢
    obtain ⟨t, xs, e, hs, hr⟩ := h
    exact ⟨t, xs, e, tr.tup _ _ hs, reps_mono tr ws xs hr⟩
  | .cst a ws, v, h => by
    simp only [rep] at h ⊢
    obtain ⟨e, xs, hs, hr⟩ := h
    exact ⟨e, xs, tr.cst _ _ hs, reps_mono tr ws xs hr⟩
theorem reps_mono {K : PySem.W.Frag} {H H' : Hp} (tr : Tr K H H') : ∀ (ws : List W) (xs : List V), reps K H ws xs → reps K H' ws xs
  | [], _, h => by simpa only [reps] using h
  | w :: ws, xs, h => by
    simp only [reps] at h ⊢
    obtain ⟨x, r, e, h1, h2⟩ := h
    exact ⟨x, r, e, rep_mono tr w x h1, reps_mono tr ws r h2⟩
end
section
variable {K : PySem.W.Frag} {H H' : Hp}
theorem reps_nil {xs : List V} : reps K H [] xs ↔ xs = [] := by simp only [reps]
theorem reps_cons {w : W} {ws : List W} {xs : List V} : reps K H (w :: ws) xs ↔ ∃ (x : V) (r : List V), xs = x :: r ∧ rep K H w x ∧ reps K H ws r := by simp only [reps]
theorem reps_cc {w : W} {ws : List W} {x : V} {xs : List V} : reps K H (w :: ws) (x :: xs) ↔ rep K H w x ∧ reps K H ws xs := by
  rw [reps_cons]
  constructor
  · rintro ⟨y, r, e, h1, h2⟩
    injection e with e1 e2
    subst e1 e2
    exact ⟨h1, h2⟩
  · rintro ⟨h1, h2⟩
    exact ⟨x, xs, rfl, h1, h2⟩
theorem rep_tup {ws : List W} {v : V} : rep K H (.tup ws) v ↔ ∃ (t : Addr) (xs : List V), v = .ref t ∧ SqT K H t xs ∧ reps K H ws xs := by simp only [rep]
theorem rep_cst {a : Addr} {ws : List W} {v : V} : rep K H (.cst a ws) v ↔ v = .ref a ∧ ∃ xs : List V, KL K H a xs ∧ reps K H ws xs := by simp only [rep]
theorem rep_int {i : Int} {v : V} : rep K H (.int i) v ↔ v = .int i := by simp only [rep]
theorem rep_str {i : Str} {v : V} : rep K H (.str i) v ↔ v = .str i := by simp only [rep]
theorem rep_bl {i : Bool} {v : V} : rep K H (.bl i) v ↔ v = .bl i := by simp only [rep]
theorem rep_non {v : V} : rep K H .non v ↔ v = .non := by simp only [rep]
theorem rep_ref {a : Addr} {v : V} : rep K H (.ref a) v ↔ v = .ref a := by simp only [rep]
theorem rep_ty {a : String} {v : V} : rep K H (.ty a) v ↔ v = .ty a := by simp only [rep]
theorem reps_len : ∀ {ws : List W} {xs : List V}, reps K H ws xs → ws.length = xs.length
  | [], xs, h => by rw [reps_nil.mp h]; rfl
  | w :: ws, xs, h => by
    obtain ⟨x, r, rfl, _, h2⟩ := reps_cons.mp h
    rw [List.length_cons, List.length_cons, reps_len h2]
theorem reps_get : ∀ {ws : List W} {xs : List V} {i : Nat} {w : W}, reps K H ws xs → ws[i]? = some w → ∃ x, xs[i]? = some x ∧ rep K H w x
  | [], _, _, _, _, e => by simp at e
  | w :: ws, xs, 0, u, h, e => by
    obtain ⟨x, r, rfl, h1, _⟩ := reps_cons.mp h
    simp at e
    subst e
    exact ⟨x, rfl, h1⟩
  | w :: ws, xs, i + 1, u, h, e => by
    obtain ⟨x, r, rfl, _, h2⟩ := reps_cons.mp h
    obtain ⟨y, h3, h4⟩ := reps_get (i := i) h2 (by simpa using e)
    exact ⟨y, by simpa using h3, h4⟩
theorem reps_get' : ∀ {ws : List W} {xs : List V} {i : Nat} {x : V}, reps K H ws xs → xs[i]? = some x → ∃ w, ws[i]? = some w ∧ rep K H w x
  | [], xs, i, x, h, e => by rw [reps_nil.mp h] at e; simp at e
  | w :: ws, xs, 0, u, h, e => by
    obtain ⟨x, r, rfl, h1, _⟩ := reps_cons.mp h
    simp at e
    subst e
    exact ⟨w, rfl, h1⟩
  | w :: ws, xs, i + 1, u, h, e => by
    obtain ⟨x, r, rfl, _, h2⟩ := reps_cons.mp h
    obtain ⟨y, h3, h4⟩ := reps_get' (i := i) h2 (by simpa using e)
    exact ⟨y, by simpa using h3, h4⟩
theorem reps_app : ∀ {ws us : List W} {xs ys : List V}, reps K H ws xs → reps K H us ys → reps K H (ws ++ us) (xs ++ ys)
  | [], us, xs, ys, h, g => by rw [reps_nil.mp h]; exact g
  | w :: ws, us, xs, ys, h, g => by
    obtain ⟨x, r, rfl, h1, h2⟩ := reps_cons.mp h
    exact reps_cc.mpr ⟨h1, reps_app h2 g⟩
theorem reps_set : ∀ {ws : List W} {xs : List V} {w : W} {x : V} (i : Nat), reps K H ws xs → rep K H w x → reps K H (ws.set i w) (xs.set i x)
  | [], xs, w, x, i, h, g => by rw [reps_nil.mp h]; exact reps_nil.mpr rfl
  | u :: ws, xs, w, x, 0, h, g => by
    obtain ⟨y, r, rfl, h1, h2⟩ := reps_cons.mp h
    exact reps_cc.mpr ⟨g, h2⟩
  | u :: ws, xs, w, x, i + 1, h, g => by
    obtain ⟨y, r, rfl, h1, h2⟩ := reps_cons.mp h
    exact reps_cc.mpr ⟨h1, reps_set i h2 g⟩
theorem reps_take : ∀ {ws : List W} {xs : List V} (n : Nat), reps K H ws xs → reps K H (ws.take n) (xs.take n)
  | ws, xs, 0, _ => reps_nil.mpr rfl
  | [], xs, n + 1, h => by rw [reps_nil.mp h]; exact reps_nil.mpr rfl
  | w :: ws, xs, n + 1, h => by
    obtain ⟨y, r, rfl, h1, h2⟩ := reps_cons.mp h
    exact reps_cc.mpr ⟨h1, reps_take n h2⟩
theorem reps_drop : ∀ {ws : List W} {xs : List V} (n : Nat), reps K H ws xs → reps K H (ws.drop n) (xs.drop n)
  | ws, xs, 0, h => h
  | [], xs, n + 1, h => by rw [reps_nil.mp h]; exact reps_nil.mpr rfl
  | w :: ws, xs, n + 1, h => by
    obtain ⟨y, r, rfl, h1, h2⟩ := reps_cons.mp h
    exact reps_drop n h2
theorem reps_rev : ∀ {ws : List W} {xs : List V}, reps K H ws xs → reps K H ws.reverse xs.reverse
  | [], xs, h => by rw [reps_nil.mp h]; exact reps_nil.mpr rfl
  | w :: ws, xs, h => by
    obtain ⟨y, r, rfl, h1, h2⟩ := reps_cons.mp h
    rw [List.reverse_cons, List.reverse_cons]
    exact reps_app (reps_rev h2) (reps_cc.mpr ⟨h1, reps_nil.mpr rfl⟩)
theorem reps_ints : ∀ {ns : List Int} {xs : List V}, reps K H (ns.map W.int) xs ↔ xs = ns.map V.int
  | [], xs => reps_nil
  | n :: ns, xs => by
    rw [List.map_cons, reps_cons]
    constructor
    · rintro ⟨x, r, rfl, h1, h2⟩
      rw [rep_int.mp h1, reps_ints.mp h2]
      rfl
    · rintro rfl
      exact ⟨_, _, rfl, rep_int.mpr rfl, reps_ints.mpr rfl⟩
theorem reps_strs : ∀ {ns : List Str} {xs : List V}, reps K H (ns.map W.str) xs ↔ xs = ns.map V.str
  | [], xs => reps_nil
  | n :: ns, xs => by
    rw [List.map_cons, reps_cons]
    constructor
    · rintro ⟨x, r, rfl, h1, h2⟩
      rw [rep_str.mp h1, reps_strs.mp h2]
      rfl
    · rintro rfl
      exact ⟨_, _, rfl, rep_str.mpr rfl, reps_strs.mpr rfl⟩
theorem reps_bls : ∀ {ns : List Bool} {xs : List V}, reps K H (ns.map W.bl) xs ↔ xs = ns.map V.bl
  | [], xs => reps_nil
  | n :: ns, xs => by
    rw [List.map_cons, reps_cons]
    constructor
    · rintro ⟨x, r, rfl, h1, h2⟩
      rw [rep_bl.mp h1, reps_bls.mp h2]
      rfl
    · rintro rfl
      exact ⟨_, _, rfl, rep_bl.mpr rfl, reps_bls.mpr rfl⟩
end

/-! ### the world: what stands at some addresses -/
inductive MO where
  | lst (ws : List W)
  | dic (kvs : List (Key × W))
  | ins (C : Addr) (fs : List (Str × W))
abbrev Cells := List (Addr × MO)

def repKV {κ : Type} (K : PySem.W.Frag) (H : Hp) (kvs : List (κ × W)) (kvs' : List (κ × V)) : Prop := kvs.map (·.1) = kvs'.map (·.1) ∧ reps K H (kvs.map (·.2)) (kvs'.map (·.2))
def cellOk (K : PySem.W.Frag) (H : Hp) (a : Addr) : MO → Prop
  | .lst ws => ∃ xs, H a = some (.lst xs) ∧ reps K H ws xs
  | .dic kvs => ∃ kvs', H a = some (.dK kvs') ∧ repKV K H kvs kvs'
  | .ins C fs => ∃ dx fs', H a = some (.ins C dx fs') ∧ repKV K H fs fs'
structure RelC (K : PySem.W.Frag) (H : Hp) (Cs : Cells) : Prop where
  nd : (Cs.map (·.1)).Nodup
  ok : ∀ p ∈ Cs, cellOk K H p.1 p.2
/-- what is laid at a new place -/
theorem cell_some {K : PySem.W.Frag} {H : Hp} {a : Addr} {o : MO} (h : cellOk K H a o) : ∃ u, H a = some u := by
  cases o with
  | lst ws => obtain ⟨xs, e, _⟩ := h; exact ⟨_, e⟩
  | dic kvs => obtain ⟨xs, e, _⟩ := h; exact ⟨_, e⟩
  | ins C fs => obtain ⟨dx, xs, e, _⟩ := h; exact ⟨_, e⟩
def isTupO : HO → Bool
  | .tup _ => true
  | .frz _ _ => true
  | _ => false
theorem cell_ntup {K : PySem.W.Frag} {H : Hp} {a : Addr} {o : MO} (h : cellOk K H a o) : ∃ u, H a = some u ∧ isTupO u = false := by
  cases o with
  | lst ws => obtain ⟨xs, e, _⟩ := h; exact ⟨_, e, rfl⟩
  | dic kvs => obtain ⟨xs, e, _⟩ := h; exact ⟨_, e, rfl⟩
  | ins C fs => obtain ⟨dx, xs, e, _⟩ := h; exact ⟨_, e, rfl⟩
theorem repKV_mono {κ : Type} {K : PySem.W.Frag} {H H' : Hp} (tr : Tr K H H') {kvs : List (κ × W)} {kvs' : List (κ × V)} (h : repKV K H kvs kvs') : repKV K H' kvs kvs' := ⟨h.1, reps_mono tr _ _ h.2⟩
/-- an object that is as it was -/
theorem cell_keep {K : PySem.W.Frag} {H H' : Hp} {a : Addr} {o : MO} (tr : Tr K H H') (e : H' a = H a) (h : cellOk K H a o) : cellOk K H' a o := by
  cases o with
  | lst ws => obtain ⟨xs, h1, h2⟩ := h; exact ⟨xs, e.trans h1, reps_mono tr _ _ h2⟩
  | dic kvs => obtain ⟨xs, h1, h2⟩ := h; exact ⟨xs, e.trans h1, repKV_mono tr h2⟩
  | ins C fs => obtain ⟨dx, xs, h1, h2⟩ := h; exact ⟨dx, xs, e.trans h1, repKV_mono tr h2⟩
theorem tr_upd {K : PySem.W.Frag} {H : Hp} {a : Addr} {o' : HO} (h : ∀ u, H a = some u → isTupO u = false) : Tr K H (upd H a o') := by
  have ne : ∀ {t u}, H t = some u → isTupO u = true → t ≠ a := fun {t u} e f z => by
    subst z
    rw [h u e] at f
    cases f
  refine ⟨fun t xs hs => ?_, fun t xs hs => ?_⟩
  · rcases hs with (hs | ⟨q, hs⟩) | hs
    · exact .inl (.inl (by rw [upd_ne (ne hs rfl)]; exact hs))
    · exact .inl (.inr ⟨q, by rw [upd_ne (ne hs rfl)]; exact hs⟩)
    · exact .inr hs
  · obtain ⟨h1, ⟨o, h2⟩ | h2⟩ := hs
    · have e : upd H a o' t = some (.frz o (.lst xs)) := by rw [upd_ne (ne h2 rfl)]; exact h2
      exact ⟨.inl (.inr ⟨o, e⟩), .inl ⟨o, e⟩⟩
    · refine ⟨?_, .inr h2⟩
      rcases h2 with (h2 | ⟨o, h2⟩) | h2
      · cases h2
      · cases h2
      · exact .inr h2
theorem tr_new {K : PySem.W.Frag} {H : Hp} {a : Addr} {o : HO} (h : H a = none) : Tr K H (upd H a o) := tr_upd fun u e => by rw [h] at e; cases e
section
variable {K : PySem.W.Frag} {H H' : Hp} {Cs : Cells} {a : Addr}
theorem RelC.mem (R : RelC K H Cs) {o : MO} (h : (a, o) ∈ Cs) : cellOk K H a o := R.ok _ h
theorem RelC.fresh (R : RelC K H Cs) (h : H a = none) : a ∉ Cs.map (·.1) := fun hm => by
  obtain ⟨p, hp, rfl⟩ := List.mem_map.mp hm
  obtain ⟨u, e⟩ := cell_some (R.ok p hp)
  rw [h] at e
  cases e
/-- a new object -/
theorem RelC.new (R : RelC K H Cs) {u : HO} {o : MO} (h : H a = none) (hc : cellOk K (upd H a u) a o) : RelC K (upd H a u) ((a, o) :: Cs) := by
  have nf := R.fresh h
  refine ⟨?_, fun p hp => ?_⟩
  · rw [List.map_cons]
    exact List.nodup_cons.mpr ⟨nf, R.nd⟩
  · rcases List.mem_cons.mp hp with rfl | hp
    · exact hc
    · have hne : p.1 ≠ a := fun e => nf (List.mem_map.mpr ⟨p, hp, e⟩)
      exact cell_keep (tr_new h) (upd_ne hne) (R.ok p hp)
/-- a new thing that is not told of -/
theorem RelC.hid (R : RelC K H Cs) {u : HO} (h : H a = none) : RelC K (upd H a u) Cs := by
  have nf := R.fresh h
  refine ⟨R.nd, fun p hp => ?_⟩
  have hne : p.1 ≠ a := fun e => nf (List.mem_map.mpr ⟨p, hp, e⟩)
  exact cell_keep (tr_new h) (upd_ne hne) (R.ok p hp)
theorem RelC.perm {Ds : Cells} (R : RelC K H Cs) (h : Cs.Perm Ds) : RelC K H Ds := ⟨(h.map _).nodup_iff.mp R.nd, fun p hp => R.ok p (h.mem_iff.mpr hp)⟩
theorem RelC.sub {Ds : Cells} (R : RelC K H Cs) (h : Ds.Sublist Cs) : RelC K H Ds := ⟨R.nd.sublist (h.map _), fun p hp => R.ok p (h.mem hp)⟩
/-- an object is written -/
theorem RelC.write (R : RelC K H ((a, o) :: Cs)) {u : HO} {o' : MO} (hc : cellOk K (upd H a u) a o') : RelC K (upd H a u) ((a, o') :: Cs) := by
  have nd := R.nd
  rw [List.map_cons] at nd
  obtain ⟨nf, nd'⟩ := List.nodup_cons.mp nd
  have tr : Tr K H (upd H a u) := tr_upd fun v e => by
    obtain ⟨w, e1, e2⟩ := cell_ntup (R.ok (a, o) List.mem_cons_self)
    rw [e] at e1
    cases e1
    exact e2
  refine ⟨List.nodup_cons.mpr ⟨nf, nd'⟩, fun p hp => ?_⟩
  rcases List.mem_cons.mp hp with rfl | hp
  · exact hc
  · have hne : p.1 ≠ a := fun e => nf (List.mem_map.mpr ⟨p, hp, e⟩)
    exact cell_keep tr (upd_ne hne) (R.ok p (List.mem_cons_of_mem _ hp))
theorem RelC.tr_write (R : RelC K H ((a, o) :: Cs)) {u : HO} : Tr K H (upd H a u) := tr_upd fun v e => by
    obtain ⟨w, e1, e2⟩ := cell_ntup (R.ok (a, o) List.mem_cons_self)
    rw [e] at e1
    cases e1
    exact e2
end

/-! ### places in a world, found by instances -/
class At (a : Addr) (Cs : Cells) (o : outParam MO) : Prop where
  mem : (a, o) ∈ Cs
instance (priority := high) At.here {a : Addr} {o : MO} {Cs : Cells} : At a ((a, o) :: Cs) o := ⟨List.mem_cons_self⟩
instance At.there {a : Addr} {o : MO} {p : Addr × MO} {Cs : Cells} [h : At a Cs o] : At a (p :: Cs) o := ⟨List.mem_cons_of_mem _ h.mem⟩
class Take (a : Addr) (Cs : Cells) (o : outParam MO) (Ds : outParam Cells) : Prop where
  perm : Cs.Perm ((a, o) :: Ds)
instance (priority := high) Take.here {a : Addr} {o : MO} {Cs : Cells} : Take a ((a, o) :: Cs) o Cs := ⟨List.Perm.refl _⟩
instance Take.there {a : Addr} {o : MO} {p : Addr × MO} {Cs Ds : Cells} [h : Take a Cs o Ds] : Take a (p :: Cs) o (p :: Ds) := ⟨(h.perm.cons p).trans (List.Perm.swap _ _ _)⟩
/-- Ds is a part of Cs (in another order) -/
class Part (Ds Cs : Cells) : Prop where
  part : ∃ Fs : Cells, Cs.Perm (Ds ++ Fs)
instance (priority := high) Part.refl {Cs : Cells} : Part Cs Cs := ⟨[], by rw [List.append_nil]⟩
instance Part.nil {Cs : Cells} : Part [] Cs := ⟨Cs, List.Perm.refl _⟩
instance Part.cons {a : Addr} {o : MO} {Ds Cs Cs1 : Cells} [t : Take a Cs o Cs1] [h : Part Ds Cs1] : Part ((a, o) :: Ds) Cs := ⟨by
  obtain ⟨Fs, h1⟩ := h.part
  exact ⟨Fs, t.perm.trans (h1.cons _)⟩⟩
instance (priority := low) Part.skip {p : Addr × MO} {Ds Cs : Cells} [h : Part Ds Cs] : Part Ds (p :: Cs) := ⟨by
  obtain ⟨Fs, h1⟩ := h.part
  exact ⟨p :: Fs, (h1.cons p).trans (List.perm_middle.symm)⟩⟩
theorem RelC.to {K : PySem.W.Frag} {H : Hp} {Cs Ds : Cells} (R : RelC K H Cs) (h : Part Ds Cs) : RelC K H Ds := by
  obtain ⟨Fs, h1⟩ := h.part
  exact (R.perm h1).sub (List.sublist_append_left _ _)
theorem Part.trans {Cs Ds Es : Cells} (h : Part Ds Cs) (g : Part Es Ds) : Part Es Cs := by
  obtain ⟨Fs, h1⟩ := h.part
  obtain ⟨Gs, g1⟩ := g.part
  exact ⟨Gs ++ Fs, (h1.trans (g1.append_right Fs)).trans (by rw [List.append_assoc])⟩

/-! ### the frame -/
abbrev Rho := Nat → Option W
def Rho.put (ρ : Rho) (i : Nat) (w : W) : Rho := fun j => if j = i then some w else ρ j
def Rho.del (ρ : Rho) (i : Nat) : Rho := fun j => if j = i then none else ρ j
theorem Rho.put_same {ρ : Rho} {i : Nat} {w : W} : ρ.put i w i = some w := if_pos rfl
theorem Rho.put_ne {ρ : Rho} {i j : Nat} {w : W} (h : j ≠ i) : ρ.put i w j = ρ j := if_neg h
structure RelS (K : PySem.W.Frag) (n : Nat) (H : Hp) (σ : L2.St) (ρ : Rho) : Prop where
  len : σ.length = n
  at_ : ∀ i w, ρ i = some w → ∃ v, σ[i]? = some (some v) ∧ rep K H w v
section
variable {K : PySem.W.Frag} {n : Nat} {H H' : Hp} {σ : L2.St} {ρ : Rho}
theorem RelS.mono (R : RelS K n H σ ρ) (tr : Tr K H H') : RelS K n H' σ ρ := ⟨R.len, fun i w e => by
  obtain ⟨v, h1, h2⟩ := R.at_ i w e
  exact ⟨v, h1, rep_mono tr _ _ h2⟩⟩
theorem RelS.set (R : RelS K n H σ ρ) {i : Nat} {w : W} {v : V} (hi : i < n) (r : rep K H w v) : RelS K n H (σ.set i (some v)) (ρ.put i w) := ⟨by rw [List.length_set]; exact R.len, fun j u e => by
  by_cases hj : j = i
  · subst hj
    rw [Rho.put_same] at e
    cases e
    exact ⟨v, List.getElem?_set_self (by rw [R.len]; exact hi), r⟩
  · rw [Rho.put_ne hj] at e
    obtain ⟨x, h1, h2⟩ := R.at_ j u e
    exact ⟨x, by rw [List.getElem?_set_ne (Ne.symm hj)]; exact h1, h2⟩⟩
theorem RelS.weak (R : RelS K n H σ ρ) {ρ' : Rho} (h : ∀ i w, ρ' i = some w → ρ i = some w) : RelS K n H σ ρ' := ⟨R.len, fun i w e => R.at_ i w (h i w e)⟩
theorem RelS.del (R : RelS K n H σ ρ) (i : Nat) : RelS K n H (σ.set i none) (ρ.del i) := ⟨by rw [List.length_set]; exact R.len, fun j u e => by
  unfold Rho.del at e
  by_cases hj : j = i
  · rw [if_pos hj] at e
    cases e
  · rw [if_neg hj] at e
    obtain ⟨x, h1, h2⟩ := R.at_ j u e
    exact ⟨x, by rw [List.getElem?_set_ne (Ne.symm hj)]; exact h1, h2⟩⟩
end

/-! ### readings over trees -/
/-- what is wanted of an exception of an own class: its class, its value, the world -/
abbrev XW := Addr → W → Cells → Prop
abbrev ME := XW → Rho → Cells → (W → Cells → Prop) → Prop
abbrev MT := XW → Rho → Cells → (Bool → Cells → Prop) → Prop
abbrev MA := XW → Rho → Cells → (List W → Cells → Prop) → Prop
/-- the address of an exception's dict holds its value -/
def XVal (H : Hp) (d : Option Addr) (v : V) : Prop := ∃ dd, d = some dd ∧ H dd = some (.xd [(("value" : Str), v)])
structure LnkX (K : PySem.W.Frag) (n : Nat) (Wx : WX) (σ : L2.St) (H : Hp) (E : XW) : Prop where
  ex : ∀ C w Cs d v H', E C w Cs → Tr K H H' → RelC K H' Cs → rep K H' w v → XVal H' d v → Wx (.ref C) d σ H'
def liftE (X : Cx) (Wx : WX) (t : ME) : TE := fun σ H Q' => ∃ (ρ : Rho) (Cs : Cells) (E : XW) (Q : W → Cells → Prop), RelS X.K X.N.length H σ ρ ∧ RelC X.K H Cs ∧ t E ρ Cs Q ∧
  (∀ w Cs' v H', Q w Cs' → Tr X.K H H' → RelC X.K H' Cs' → rep X.K H' w v → Q' v H') ∧ LnkX X.K X.N.length Wx σ H E
def liftT (X : Cx) (Wx : WX) (t : MT) : TT := fun σ H Q' => ∃ (ρ : Rho) (Cs : Cells) (E : XW) (Q : Bool → Cells → Prop), RelS X.K X.N.length H σ ρ ∧ RelC X.K H Cs ∧ t E ρ Cs Q ∧
  (∀ b Cs' H', Q b Cs' → Tr X.K H H' → RelC X.K H' Cs' → Q' b H') ∧ LnkX X.K X.N.length Wx σ H E
def liftA (X : Cx) (Wx : WX) (t : MA) : TA := fun σ H Q' => ∃ (ρ : Rho) (Cs : Cells) (E : XW) (Q : List W → Cells → Prop), RelS X.K X.N.length H σ ρ ∧ RelC X.K H Cs ∧ t E ρ Cs Q ∧
  (∀ ws Cs' vs H', Q ws Cs' → Tr X.K H H' → RelC X.K H' Cs' → reps X.K H' ws vs → Q' vs H') ∧ LnkX X.K X.N.length Wx σ H E
def QE (X : Cx) (e : Expr) (t : ME) : Prop := ∀ Wx, Takes X Wx → PE X e (liftE X Wx t)
def QT (X : Cx) (e : Expr) (t : MT) : Prop := ∀ Wx, Takes X Wx → PT X e (liftT X Wx t)
def QA (X : Cx) (es : List Expr) (t : MA) : Prop := ∀ Wx, Takes X Wx → PA X es (liftA X Wx t)
theorem pe_imp {X : Cx} {e : Expr} {t t' : TE} (h : PE X e t) (k : ∀ σ H Q, t' σ H Q → t σ H Q) : PE X e t' := ⟨fun pins s σ H Q I q => h.run pins s σ H Q I (k σ H Q q)⟩
theorem pt_imp {X : Cx} {e : Expr} {t t' : TT} (h : PT X e t) (k : ∀ σ H Q, t' σ H Q → t σ H Q) : PT X e t' := ⟨fun pins s σ H Q I q => h.run pins s σ H Q I (k σ H Q q)⟩
theorem pa_imp {X : Cx} {e : List Expr} {t t' : TA} (h : PA X e t) (k : ∀ σ H Q, t' σ H Q → t σ H Q) : PA X e t' := ⟨fun pos pins s σ H Q I q => h.run pos pins s σ H Q I (k σ H Q q)⟩
theorem ps_imp {X : Cx} {e : Stmt} {t t' : TS} (h : PS X e t) (k : ∀ D σ H, t' D σ H → t D σ H) : PS X e t' := ⟨fun pins s σ H D I q => h.run pins s σ H D I (k D σ H q)⟩
theorem pss_imp {X : Cx} {e : List Stmt} {t t' : TS} (h : PSs X e t) (k : ∀ D σ H, t' D σ H → t D σ H) : PSs X e t' := ⟨fun pins s σ H D I q => h.run pins s σ H D I (k D σ H q)⟩
section
variable {K : PySem.W.Frag} {n : Nat} {Wx : WX} {σ : L2.St} {H H1 : Hp} {E : XW}
theorem LnkX.mono (L : LnkX K n Wx σ H E) (tr : Tr K H H1) : LnkX K n Wx σ H1 E := ⟨fun C w Cs d v H' e t2 rc rp xv => L.ex C w Cs d v H' e (tr.trans t2) rc rp xv⟩
end

/-! ### statements -/
structure EndsW where
  nx : Rho → Cells → Prop
  rt : W → Cells → Prop
  bk : Rho → Cells → Prop
  ct : Rho → Cells → Prop
  ex : Addr → W → Rho → Cells → Prop
abbrev MS := EndsW → Rho → Cells → Prop
structure LnkS (X : Cx) (Wx : WX) (H : Hp) (DW : EndsW) (D : Ends) : Prop where
  nx : ∀ ρ Cs σ H', DW.nx ρ Cs → Tr X.K H H' → RelS X.K X.N.length H' σ ρ → RelC X.K H' Cs → D.nx σ H'
  rt : ∀ w Cs v H', DW.rt w Cs → Tr X.K H H' → RelC X.K H' Cs → rep X.K H' w v → D.rt v H'
  bk : ∀ ρ Cs σ H', DW.bk ρ Cs → Tr X.K H H' → RelS X.K X.N.length H' σ ρ → RelC X.K H' Cs → D.bk σ H'
  ct : ∀ ρ Cs σ H', DW.ct ρ Cs → Tr X.K H H' → RelS X.K X.N.length H' σ ρ → RelC X.K H' Cs → D.ct σ H'
  ex : ∀ C w ρ Cs σ d v H', DW.ex C w ρ Cs → Tr X.K H H' → RelS X.K X.N.length H' σ ρ → RelC X.K H' Cs → rep X.K H' w v → XVal H' d v → Wx (.ref C) d σ H'
def liftS (X : Cx) (Wx : WX) (t : MS) : TS := fun D σ H => ∃ (ρ : Rho) (Cs : Cells) (DW : EndsW), RelS X.K X.N.length H σ ρ ∧ RelC X.K H Cs ∧ t DW ρ Cs ∧ LnkS X Wx H DW D
def QS (X : Cx) (s : Stmt) (t : MS) : Prop := ∀ Wx, Takes X Wx → PS X s (liftS X Wx t)
def QSs (X : Cx) (ss : List Stmt) (t : MS) : Prop := ∀ Wx, Takes X Wx → PSs X ss (liftS X Wx t)
section
variable {X : Cx} {Wx : WX} {H H1 : Hp} {DW : EndsW} {D : Ends}
theorem LnkS.mono (L : LnkS X Wx H DW D) (tr : Tr X.K H H1) : LnkS X Wx H1 DW D :=
  ⟨fun ρ Cs σ H' e t2 => L.nx ρ Cs σ H' e (tr.trans t2), fun w Cs v H' e t2 => L.rt w Cs v H' e (tr.trans t2), fun ρ Cs σ H' e t2 => L.bk ρ Cs σ H' e (tr.trans t2),
    fun ρ Cs σ H' e t2 => L.ct ρ Cs σ H' e (tr.trans t2), fun C w ρ Cs σ d v H' e t2 => L.ex C w ρ Cs σ d v H' e (tr.trans t2)⟩
/-- the exceptions of an expression, in a statement -/
theorem LnkS.lnkX (L : LnkS X Wx H DW D) {σ : L2.St} {ρ : Rho} (R : RelS X.K X.N.length H σ ρ) : LnkX X.K X.N.length Wx σ H (fun C w Cs => DW.ex C w ρ Cs) :=
  ⟨fun C w Cs d v H' e tr rc rp xv => L.ex C w ρ Cs σ d v H' e tr (R.mono tr) rc rp xv⟩
end
end SL
namespace SL
open PySem PySem.Spec PyProof.Rows L2

/-! ### defs -/
/-- as FnOk, where nothing is being shown around the call -/
structure FnG (P : Program) (w : World) (K : PySem.W.Frag) (mg : Str → Option Value) (base : Heap) (k : Nat) (f : Addr) (fd : FuncData) (ps : List Str) (sp : Sp) : Prop where
  len : ∀ vs H Q E, sp vs H Q E → vs.length = ps.length
  run : ∀ (A : Around) (outer : List Env) (s : Shared) (H : Hp) (args : Args) (us : List Value) (vs : List V) (Q : VK) (E : XK), Room k A → A.guards = some [] → Env0 P w K mg base A outer s H → BindsTo s fd args (ps.zip us) → Vals vs us → sp vs H Q E →
    codeAny (model P w) A (.call (.ref f) args) (CR (L2.CX P w) outer P w H s Q E) s
theorem FnG.mono {P : Program} {w : World} {K : PySem.W.Frag} {mg : Str → Option Value} {base : Heap} {j k : Nat} {f : Addr} {fd : FuncData} {ps : List Str} {sp : Sp} (F : FnG P w K mg base j f fd ps sp) (h : j ≤ k) :
    FnG P w K mg base k f fd ps sp := ⟨F.len, fun A outer s H args us vs Q E hr => F.run A outer s H args us vs Q E (hr.mono h)⟩
/-- one that is shown at each state apart -/
theorem FnG.of_each {P : Program} {w : World} {K : PySem.W.Frag} {mg : Str → Option Value} {base : Heap} {k : Nat} {f : Addr} {fd : FuncData} {ps : List Str} {sp : Sp} (len : ∀ vs H Q E, sp vs H Q E → vs.length = ps.length)
    (h : ∀ vs₀ H₀ Q₀ E₀, sp vs₀ H₀ Q₀ E₀ → ∃ sp', FnG P w K mg base k f fd ps sp' ∧ sp' vs₀ H₀ Q₀ E₀) : FnG P w K mg base k f fd ps sp :=
  ⟨len, fun A outer s H args us vs Q E hr hg he hb hv hs => by
    obtain ⟨sp', F, q⟩ := h vs H Q E hs
    exact F.run A outer s H args us vs Q E hr hg he hb hv q⟩

theorem Fun.okG {P : Program} {w : World} {K : PySem.W.Frag} {mg : Str → Option Value} {base : Heap} {x qual : Str} {st : Stmt} {f : Addr} {fd : FuncData} {N ps : List Str} {k : Nat} {sp : Sp} (F : Fun K x qual st f fd) (S : FnScope N ps (defScope st))
    (len : ∀ vs H Q E, sp vs H Q E → vs.length = ps.length)
    (hbody : ∀ (cdv : Value) (A : Around) (outer : List Env) (s : Shared) (H : Hp) (vs : List V) (Q : VK) (E : XK), Room k (A.deeper (envOfC qual (defScope st) s.heap.objs.size f cdv)) → A.guards = some [] → sp vs H Q E →
      ∃ t, PSs (cxOf (L2.CX P w) P w K mg base N qual (defScope st) f cdv A outer s H E) (defBody st) t ∧ t { nx := fun _ H' => Q .non H', rt := Q } (start N vs) H) : FnG P w K mg base (k + 1) f fd ps sp := by
  obtain ⟨oc, od, kV, doc, pm, an, cdv, ct, osl, rfl, lk, hcd⟩ := F.ex
  refine ⟨len, fun A outer s H args us vs Q E hr hgu e0 hb r hsp => ?_⟩
  have kh : ∀ b o, base.get? b = some o → s.heap.get? b = some o := fun b o e => (e0.bs b o e).1
  have KX := e0.mod.kin.keeps kh
  have lim := e0.mod.nolimit.keeps kh
  have kinds : ∀ y ∈ ps.zip us, (defScope st).names.lookup y.1 = some .local ∨ ((defScope st).names.lookup y.1 = some .cell ∧ ((cellsFrom (s.heap.objs.size + 1) (defScope st).names []).lookup y.1).isSome = true) := by
    rintro ⟨n, v⟩ hy
    cases S.par n (List.of_mem_zip hy).1 with
    | inl q => exact Or.inl q
    | inr q => exact Or.inr ⟨q, PySem.W.cellsFrom_some _ _ _ (Or.inl q)⟩
  refine codeAny_call_function hr.depth (KX _ _ lk) rfl S.co S.gen rfl (PySem.W.codeRec_of KX hcd) (hb _ _ _ _ (wpAny_newFunctionEnv_cells S.kind kinds fun env he s1 x => ?_))
  subst he
  refine ⟨lim.keeps x.toInCall.keep, codeAny_func ?_⟩
  obtain ⟨t, ht, hq⟩ := hbody cdv A outer s H vs Q E (hr.deeper _) hgu hsp
  refine wpAny_mono (ht.run [] s1 (L2.start N vs) H _ (inv_start S hr.hd e0 (len _ _ _ _ hsp) r x) hq) (fun fl s' hs => ?_) fun _ _ hs => hs
  cases fl with
  | ret u =>
    obtain ⟨v, σ', H', J, rv, q⟩ := hs
    exact ⟨v, H', J.os, J.bare, J.base, J.hok, rv, q⟩
  | next =>
    obtain ⟨σ', H', J, q⟩ := hs
    exact ⟨V.non, H', J.os, J.bare, J.base, J.hok, rfl, q⟩
  | brk => exact hs.elim fun _ h => h.elim fun _ h => h.2.elim
  | cont => exact hs.elim fun _ h => h.elim fun _ h => h.2.elim

section
variable {X : Cx} {k : Nat} {f : Addr} {fd : FuncData} {ps : List Str} {sp : Sp} {W : WX} {x : Str} {p pos : Pos} {e : Expr} {es : List Expr} {t : TA}
/-- the callee runs -/
theorem run_fnG {pins : List (Addr × Obj)} {σ : L2.St} {H : Hp} {s : Shared} {Q : VK} {us : List Value} {vs : List V} {args : Args} (F : FnG X.prog X.w X.K X.mg X.base k f fd ps sp) (hr : Room k X.A) (hgu : X.A.guards = some []) (tk : Takes X W)
    (I : Inv X pins σ H s) (hb : BindsTo s fd args (ps.zip us)) (r : Vals vs us) (h : sp vs H Q (fun c d H' => W c d σ H')) : codeAny (model X.prog X.w) X.A (.call (.ref f) args) (fun r s' => match r with
      | .ok (.ret u) => EP X pins σ Q u s'
      | .ok _ => False
      | .error e => X.xe e s') s := by
  refine codeAny_mono (F.run X.A X.stack s H args us vs Q _ hr hgu I.env0 hb r h) fun r s' hq => ?_
  cases r with
  | error e => exact tk e s' (XE.of_call I (fun _ _ _ h => h) hq)
  | ok fl =>
    cases fl with
    | ret u => exact I.after hq
    | next => exact False.elim hq
    | brk => exact False.elim hq
    | cont => exact False.elim hq
theorem run_callG {pins : List (Addr × Obj)} {σ : L2.St} {H : Hp} {s : Shared} {Q : VK} {us : List Value} {vs : List V} (F : FnG X.prog X.w X.K X.mg X.base k f fd ps sp) (hr : Room k X.A) (hgu : X.A.guards = some []) (tk : Takes X W) (hb : Binds X.K fd ps [])
    (I : Inv X pins σ H s) (r : Vals vs us) (h : sp vs H Q (fun c d H' => W c d σ H')) : wpAny (model X.prog X.w) X.A (call (.ref f) us) (EP X pins σ Q) X.xe s := by
  have hl : us.length = ps.length := by rw [← r.length]; exact F.len _ _ _ _ h
  have hb' := hb s us I.kIn (by rw [List.append_nil]; exact hl)
  rw [List.append_nil] at hb'
  refine wpAny_call (codeAny_mono (run_fnG F hr hgu tk I hb' r h) fun r s' hq => ?_)
  cases r with
  | error e => exact hq
  | ok fl =>
    cases fl with
    | ret u => exact hq
    | next => exact hq.elim
    | brk => exact hq.elim
    | cont => exact hq.elim
/-- f(e, ..) -/
def tCallG (sp : Sp) (W : WX) (t : TA) : TE := fun σ H Q => t σ H fun vs H1 => sp vs H1 Q (fun c d H' => W c d σ H')
theorem pe_callG (F : FnG X.prog X.w X.K X.mg X.base k f fd ps sp) (hr : Room k X.A) (hgu : X.A.guards = some []) (hg : Gl X x) (hm : X.mg x = some (.ref f)) (hk : PySem.W.keepIn X.K (.ref f) = true) (hb : Binds X.K fd ps []) (tk : Takes X W)
    (ha : PA X (e :: es) t) (hdb : (x == ("__debug__" : Str)) = false := by decide) (he : starEach (e :: es) X.env = (false, eval e X.env) :: starEach es X.env := by rfl) (hpl : (backTo pos (starEach es X.env)).any (·.1) = false := by rfl) :
    PE X (.Call (.Name x p) (e :: es) [] pos) (tCallG sp W t) := ⟨fun pins s σ H Q I h => wpAny_Call_Name_kw (ld_glob I hg hm (PySem.W.callWith_K (h₀ := X.base) I.ok.mod.kin hk (thn (ha.run pos pins s σ H _ I h) fun us s1 ⟨vs, H1, I1, r, q⟩ => ⟨I1.kIn, run_callG F hr hgu tk hb I1 r q⟩) he hpl) hdb)⟩
theorem pe_callG0 (F : FnG X.prog X.w X.K X.mg X.base k f fd ps sp) (hr : Room k X.A) (hgu : X.A.guards = some []) (hg : Gl X x) (hm : X.mg x = some (.ref f)) (hk : PySem.W.keepIn X.K (.ref f) = true) (hb : Binds X.K fd ps []) (tk : Takes X W)
    (hdb : (x == ("__debug__" : Str)) = false := by decide) : PE X (.Call (.Name x p) [] [] pos) (tCallG sp W tNil) :=
  ⟨fun pins s σ H Q I h => wpAny_Call_Name_kw (ld_glob I hg hm (PySem.W.callWith_K0 I.kIn hk (run_callG (us := []) F hr hgu tk hb I .nil h)) hdb)⟩
/-- f(a, k=b) -/
theorem pe_callGK {ks : List Str} {g : List Value → List Value → List Value} {gV : List V → List V → List V} {kw : Keyword} {kws : List Keyword} {tk' : TA} (F : FnG X.prog X.w X.K X.mg X.base k f fd ps sp) (hr : Room k X.A) (hgu : X.A.guards = some []) (hg : Gl X x) (hm : X.mg x = some (.ref f)) (hk : PySem.W.keepIn X.K (.ref f) = true) (hb : KBinds X.K fd ps ks g gV) (tk : Takes X W)
    (ha : PA X es t) (hkw : PK X (kw :: kws) tk') : True := trivial
end
end SL
namespace SL
open PySem PySem.Spec PyProof.Rows L2

abbrev WK := W → Cells → Prop
abbrev RW2 := W → W → Cells → WK → Prop
abbrev RW1 := W → Cells → WK → Prop
abbrev RWL := List W → Cells → WK → Prop
/-- the end of a step: from what is told of trees to what is told of values -/
def Fin (K : PySem.W.Frag) (H : Hp) (Q : WK) (Q' : VK) : Prop := ∀ w Cs v H', Q w Cs → Tr K H H' → RelC K H' Cs → rep K H' w v → Q' v H'
def Lk2 (K : PySem.W.Frag) (r : R2) (q : RW2) : Prop := ∀ x y vx vy H Cs Q Q', q x y Cs Q → RelC K H Cs → rep K H x vx → rep K H y vy → Fin K H Q Q' → r vx vy H Q'
def Lk1 (K : PySem.W.Frag) (r : V → Hp → VK → Prop) (q : RW1) : Prop := ∀ x vx H Cs Q Q', q x Cs Q → RelC K H Cs → rep K H x vx → Fin K H Q Q' → r vx H Q'
def LkL (K : PySem.W.Frag) (r : List V → Hp → VK → Prop) (q : RWL) : Prop := ∀ xs vs H Cs Q Q', q xs Cs Q → RelC K H Cs → reps K H xs vs → Fin K H Q Q' → r vs H Q'
section
variable {K : PySem.W.Frag} {H H1 : Hp} {Q : WK} {Q' : VK}
theorem Fin.mono (h : Fin K H Q Q') (tr : Tr K H H1) : Fin K H1 Q Q' := fun w Cs v H' e t2 rc rp => h w Cs v H' e (tr.trans t2) rc rp
theorem Fin.here (h : Fin K H Q Q') {w : W} {v : V} {Cs : Cells} (q : Q w Cs) (rc : RelC K H Cs) (rp : rep K H w v) : Q' v H := h w Cs v H q (Tr.refl H) rc rp
end

/-! ### combinators -/
def mVar (i : Nat) : ME := fun _ ρ Cs Q => ∃ w, ρ i = some w ∧ Q w Cs
def mC (w : W) : ME := fun _ _ Cs Q => Q w Cs
def mBin (q : RW2) (ta tb : ME) : ME := fun E ρ Cs Q => ta E ρ Cs fun x C1 => tb E ρ C1 fun y C2 => q x y C2 Q
def mUn (q : RW1) (ta : ME) : ME := fun E ρ Cs Q => ta E ρ Cs fun x C1 => q x C1 Q
def mNil : MA := fun _ _ Cs Q => Q [] Cs
def mCons (t : ME) (u : MA) : MA := fun E ρ Cs Q => t E ρ Cs fun x C1 => u E ρ C1 fun xs C2 => Q (x :: xs) C2
def mCB (q : RWL) (t : MA) : ME := fun E ρ Cs Q => t E ρ Cs fun xs C1 => q xs C1 Q
def mTest (t : ME) : MT := fun E ρ Cs Q => t E ρ Cs fun w C => ∃ b, w = .bl b ∧ Q b C
def mAnd (t u : MT) : MT := fun E ρ Cs Q => t E ρ Cs fun b C => (b = true → u E ρ C Q) ∧ (b = false → Q false C)
def mOr (t u : MT) : MT := fun E ρ Cs Q => t E ρ Cs fun b C => (b = true → Q true C) ∧ (b = false → u E ρ C Q)
def mNot (t : MT) : MT := fun E ρ Cs Q => t E ρ Cs fun b C => Q (!b) C
def mIf (c : MT) (t u : ME) : ME := fun E ρ Cs Q => c E ρ Cs fun b C => (b = true → t E ρ C Q) ∧ (b = false → u E ρ C Q)
def mAndV (t u : ME) : ME := fun E ρ Cs Q => t E ρ Cs fun w C => ∃ b, w = .bl b ∧ (b = true → u E ρ C Q) ∧ (b = false → Q (.bl false) C)
def mOrV (t u : ME) : ME := fun E ρ Cs Q => t E ρ Cs fun w C => ∃ b, w = .bl b ∧ (b = true → Q (.bl true) C) ∧ (b = false → u E ρ C Q)
def mNotV (t : ME) : ME := fun E ρ Cs Q => t E ρ Cs fun w C => ∃ b, w = .bl b ∧ Q (.bl (!b)) C
def mTup (t : MA) : ME := fun E ρ Cs Q => t E ρ Cs fun ws C => ws.length ≤ 1000 ∧ Q (.tup ws) C
def mLst (t : MA) : ME := fun E ρ Cs Q => t E ρ Cs fun ws C => ws.length ≤ 1000 ∧ ∀ p, Q (.ref p) ((p, .lst ws) :: C)
def mChain (q q' : RW2) (ta tb tc : ME) : ME := fun E ρ Cs Q => ta E ρ Cs fun x C1 => tb E ρ C1 fun y C2 => q x y C2 fun z C3 => ∃ k, z = .bl k ∧ (k = true → tc E ρ C3 fun u C4 => q' y u C4 Q) ∧ (k = false → Q (.bl false) C3)

theorem sz1000 {n : Nat} (h : n ≤ 1000) : n ≤ sizeLine := Nat.le_trans h (by decide)

section
variable {X : Cx} {a b c e : Expr} {es : List Expr} {ta tb tc : ME} {t u : MT} {pos p : Pos}
theorem qe_var (i : Nat) {x : Str} (hN : X.N[i]? = some x := by rfl) (hv : Vis X.env.scope x := by first | exact Or.inl rfl | exact Or.inr (Or.inl rfl) | exact Or.inr (Or.inr rfl)) (hd : (x == ("__debug__" : Str)) = false := by decide)
    (hcd : (x == ("__classdict__" : Str)) = false := by decide) : QE X (.Name x pos) (mVar i) := fun Wx _ => pe_imp (pe_var hN hv hd hcd) fun σ H Q' ⟨ρ, Cs, E, Q, R, C, ⟨w, e, q⟩, kQ, _⟩ => by
  obtain ⟨v, h1, h2⟩ := R.at_ i w e
  exact ⟨v, h1, kQ w Cs v H q (Tr.refl H) C h2⟩
theorem qe_const {w : W} {v : V} (h : PE X e (tC v)) (r : ∀ H, rep X.K H w v) : QE X e (mC w) := fun Wx _ => pe_imp h fun σ H Q' ⟨ρ, Cs, E, Q, R, C, q, kQ, _⟩ => kQ w Cs v H q (Tr.refl H) C (r H)
theorem qe_int {i j} : QE X (.Constant (.int i) j pos) (mC (.int i)) := qe_const pe_int fun _ => rep_int.mpr rfl
theorem qe_bl {i j} : QE X (.Constant (.bool i) j pos) (mC (.bl i)) := qe_const pe_bl fun _ => rep_bl.mpr rfl
theorem qe_non {j} : QE X (.Constant .none j pos) (mC .non) := qe_const pe_non fun _ => rep_non.mpr rfl
theorem qe_str {x j} : QE X (.Constant (.str x) j pos) (mC (.str x)) := qe_const pe_str fun _ => rep_str.mpr rfl
/-- a module's constant -/
theorem qe_glob {x : Str} {w : W} {v : V} {u : Value} (hg : Gl X x) (hm : X.mg x = some u) (r : RelV v u) (rp : ∀ H, rep X.K H w v) (hd : (x == ("__debug__" : Str)) = false := by decide) : QE X (.Name x pos) (mC w) := qe_const (pe_glob hg hm r hd) rp

theorem lift2 {r : R2} {q : RW2} (lk : Lk2 X.K r q) {Wx : WX} {σ : L2.St} {H : Hp} {Q' : VK} (h : liftE X Wx (mBin q ta tb) σ H Q') : tOp r (liftE X Wx ta) (liftE X Wx tb) σ H Q' := by
  obtain ⟨ρ, Cs, E, Q, R, C, h, kQ, kE⟩ := h
  exact ⟨ρ, Cs, E, _, R, C, h, fun x C1 vx H1 hx tr1 rc1 rx => ⟨ρ, C1, E, _, R.mono tr1, rc1, hx, fun y C2 vy H2 hy tr2 rc2 ry => lk x y vx vy H2 C2 Q Q' hy rc2 (rep_mono tr2 _ _ rx) ry fun w C3 v H3 hw tr3 rc3 rw3 => kQ w C3 v H3 hw ((tr1.trans tr2).trans tr3) rc3 rw3, kE.mono tr1⟩, kE⟩
theorem qe_bin {op : Operator} {r : R2} {q : RW2} (ho : OpR X (binaryOp op) r) (lk : Lk2 X.K r q) (ha : QE X a ta) (hb : QE X b tb) : QE X (.BinOp a op b pos) (mBin q ta tb) := fun Wx tk => pe_imp (pe_op ho (ha Wx tk) (hb Wx tk)) fun _ _ _ h => lift2 lk h
theorem qe_cmp {op : CmpOp} {r : R2} {q : RW2} (ho : OpR X (compareOp op) r) (lk : Lk2 X.K r q) (ha : QE X a ta) (hb : QE X b tb) (hm : behindInMarks op b = false) : QE X (.Compare a [op] [b] pos) (mBin q ta tb) := fun Wx tk => pe_imp (pe_cmpR ho (ha Wx tk) (hb Wx tk) hm) fun _ _ _ h => lift2 lk h
theorem qe_ix {r : R2} {q : RW2} (hr : IxR X r) (lk : Lk2 X.K r q) (ha : QE X a ta) (hb : QE X b tb) (hs : PlainIx b) : QE X (.Subscript a b pos) (mBin q ta tb) := fun Wx tk => pe_imp (pe_ix hr (ha Wx tk) (hb Wx tk) hs) fun _ _ _ h => lift2 lk h
theorem qe_un {op : UnaryOp} {r : V → Hp → VK → Prop} {q : RW1} (ho : UnR X (unaryOp op) r) (lk : Lk1 X.K r q) (ha : QE X a ta) : QE X (.UnaryOp op a pos) (mUn q ta) := fun Wx tk => pe_imp (pe_un ho (ha Wx tk)) fun σ H Q' ⟨ρ, Cs, E, Q, R, C, h, kQ, kE⟩ =>
  ⟨ρ, Cs, E, _, R, C, h, fun x C1 vx H1 hx tr1 rc1 rx => lk x vx H1 C1 Q Q' hx rc1 rx (Fin.mono kQ tr1), kE⟩
/-! tests -/
theorem lift_test {Wx : WX} {σ : L2.St} {H : Hp} {Q' : Bool → Hp → Prop} (h : liftT X Wx (mTest ta) σ H Q') : liftE X Wx ta σ H fun x H' => ∃ k, x = .bl k ∧ Q' k H' := by
  obtain ⟨ρ, Cs, E, Q, R, C, h, kQ, kE⟩ := h
  refine ⟨ρ, Cs, E, _, R, C, h, fun w C1 v H1 hw tr rc rp => ?_, kE⟩
  obtain ⟨b, rfl, q⟩ := hw
  exact ⟨b, rep_bl.mp rp, kQ b C1 H1 q tr rc⟩
theorem qt_cmp {op : CmpOp} {r : R2} {q : RW2} (ho : OpR X (compareOp op) r) (lk : Lk2 X.K r q) (ha : QE X a ta) (hb : QE X b tb) (hm : behindInMarks op b = false) : QT X (.Compare a [op] [b] pos) (mTest (mBin q ta tb)) := fun Wx tk => pt_imp (pt_cmpR ho (ha Wx tk) (hb Wx tk) hm) fun σ H Q' h => by
  obtain ⟨ρ, Cs, E, Q, R, C, h, kQ, kE⟩ := lift_test h
  exact lift2 (Q' := fun x H' => ∃ k, x = .bl k ∧ Q' k H') lk ⟨ρ, Cs, E, Q, R, C, h, kQ, kE⟩
/-- an expression that gives True or False, as a test -/
theorem qt_val (ha : QE X a ta) (he : ∀ whole, isTrue a X.env whole = (do let v ← whole; standAt a.pos; holding [v] (truthy v)) := by intro _; rfl) : QT X a (mTest ta) := fun Wx tk => pt_imp (pt_val (ha Wx tk) he) fun σ H Q' h => lift_test h
theorem qt_not (ha : QT X a t) : QT X (.UnaryOp .Not a pos) (mNot t) := fun Wx tk => pt_imp (pt_not (ha Wx tk)) fun σ H Q' ⟨ρ, Cs, E, Q, R, C, h, kQ, kE⟩ => ⟨ρ, Cs, E, _, R, C, h, fun b C1 H1 hb tr rc => kQ _ C1 H1 hb tr rc, kE⟩
/-- an and, an or as tests: from the right -/
structure QW (X : Cx) (e : Expr) (t : MT) : Prop where
  run : ∀ Wx, Takes X Wx → PW X e (liftT X Wx t)
theorem pw_imp {t t' : TT} (h : PW X e t) (k : ∀ σ H Q, t' σ H Q → t σ H Q) : PW X e t' := ⟨fun wh pins s σ H Q I q => h.run wh pins s σ H Q I (k σ H Q q)⟩
theorem qw_and1 (ha : QT X a t) : QW X (.BoolOp .And [a] pos) t := ⟨fun Wx tk => pw_and1 (ha Wx tk)⟩
theorem qw_or1 (ha : QT X a t) : QW X (.BoolOp .Or [a] pos) t := ⟨fun Wx tk => pw_or1 (ha Wx tk)⟩
theorem qw_and {rest : List Expr} (ha : QT X a t) (hb : QW X (.BoolOp .And (b :: rest) pos) u) : QW X (.BoolOp .And (a :: b :: rest) pos) (mAnd t u) := ⟨fun Wx tk => pw_imp (pw_and (ha Wx tk) (hb.run Wx tk)) fun σ H Q' ⟨ρ, Cs, E, Q, R, C, h, kQ, kE⟩ => ⟨ρ, Cs, E, _, R, C, h, fun k C1 H1 ⟨h1, h2⟩ tr rc => by
  cases k with
  | true =>
    rw [if_pos rfl]
    exact ⟨ρ, C1, E, Q, R.mono tr, rc, h1 rfl, fun k2 C2 H2 q tr2 rc2 => kQ k2 C2 H2 q (tr.trans tr2) rc2, kE.mono tr⟩
  | false =>
    rw [if_neg Bool.false_ne_true]
    exact kQ false C1 H1 (h2 rfl) tr rc, kE⟩⟩
theorem qw_or {rest : List Expr} (ha : QT X a t) (hb : QW X (.BoolOp .Or (b :: rest) pos) u) : QW X (.BoolOp .Or (a :: b :: rest) pos) (mOr t u) := ⟨fun Wx tk => pw_imp (pw_or (ha Wx tk) (hb.run Wx tk)) fun σ H Q' ⟨ρ, Cs, E, Q, R, C, h, kQ, kE⟩ => ⟨ρ, Cs, E, _, R, C, h, fun k C1 H1 ⟨h1, h2⟩ tr rc => by
  cases k with
  | true =>
    rw [if_pos rfl]
    exact kQ true C1 H1 (h1 rfl) tr rc
  | false =>
    rw [if_neg Bool.false_ne_true]
    exact ⟨ρ, C1, E, Q, R.mono tr, rc, h2 rfl, fun k2 C2 H2 q tr2 rc2 => kQ k2 C2 H2 q (tr.trans tr2) rc2, kE.mono tr⟩, kE⟩⟩
theorem QW.qt (h : QW X e t) : QT X e t := fun Wx tk => (h.run Wx tk).pt
theorem qe_if (hc : QT X c t) (ha : QE X a ta) (hb : QE X b tb) : QE X (.IfExp c a b pos) (mIf t ta tb) := fun Wx tk => pe_imp (pe_ifExp (hc Wx tk) (ha Wx tk) (hb Wx tk)) fun σ H Q' ⟨ρ, Cs, E, Q, R, C, h, kQ, kE⟩ => ⟨ρ, Cs, E, _, R, C, h, fun k C1 H1 ⟨h1, h2⟩ tr rc => by
  cases k with
  | true =>
    rw [if_pos rfl]
    exact ⟨ρ, C1, E, Q, R.mono tr, rc, h1 rfl, Fin.mono kQ tr, kE.mono tr⟩
  | false =>
    rw [if_neg Bool.false_ne_true]
    exact ⟨ρ, C1, E, Q, R.mono tr, rc, h2 rfl, Fin.mono kQ tr, kE.mono tr⟩, kE⟩
/-! values of and, or, not -/
theorem qe_one {op} (h : QE X a ta) : QE X (.BoolOp op [a] pos) ta := fun Wx tk => pe_one (h Wx tk)
theorem qe_and {rest : List Expr} (ha : QE X a ta) (hb : QE X (.BoolOp .And (b :: rest) pos) tb) : QE X (.BoolOp .And (a :: b :: rest) pos) (mAndV ta tb) := fun Wx tk => pe_imp (pe_and (ha Wx tk) (hb Wx tk)) fun σ H Q' ⟨ρ, Cs, E, Q, R, C, h, kQ, kE⟩ => ⟨ρ, Cs, E, _, R, C, h, fun w C1 v H1 hw tr rc rp => by
  obtain ⟨k, rfl, h1, h2⟩ := hw
  refine ⟨k, rep_bl.mp rp, ?_⟩
  cases k with
  | true =>
    rw [if_pos rfl]
    exact ⟨ρ, C1, E, Q, R.mono tr, rc, h1 rfl, Fin.mono kQ tr, kE.mono tr⟩
  | false =>
    rw [if_neg Bool.false_ne_true]
    exact kQ _ C1 _ H1 (h2 rfl) tr rc (rep_bl.mpr rfl), kE⟩
theorem qe_or {rest : List Expr} (ha : QE X a ta) (hb : QE X (.BoolOp .Or (b :: rest) pos) tb) : QE X (.BoolOp .Or (a :: b :: rest) pos) (mOrV ta tb) := fun Wx tk => pe_imp (pe_or (ha Wx tk) (hb Wx tk)) fun σ H Q' ⟨ρ, Cs, E, Q, R, C, h, kQ, kE⟩ => ⟨ρ, Cs, E, _, R, C, h, fun w C1 v H1 hw tr rc rp => by
  obtain ⟨k, rfl, h1, h2⟩ := hw
  refine ⟨k, rep_bl.mp rp, ?_⟩
  cases k with
  | true =>
    rw [if_pos rfl]
    exact kQ _ C1 _ H1 (h1 rfl) tr rc (rep_bl.mpr rfl)
  | false =>
    rw [if_neg Bool.false_ne_true]
    exact ⟨ρ, C1, E, Q, R.mono tr, rc, h2 rfl, Fin.mono kQ tr, kE.mono tr⟩, kE⟩
theorem qe_not (ha : QE X a ta) : QE X (.UnaryOp .Not a pos) (mNotV ta) := fun Wx tk => pe_imp (pe_not (ha Wx tk)) fun σ H Q' ⟨ρ, Cs, E, Q, R, C, h, kQ, kE⟩ => ⟨ρ, Cs, E, _, R, C, h, fun w C1 v H1 hw tr rc rp => by
  obtain ⟨k, rfl, h1⟩ := hw
  exact ⟨k, rep_bl.mp rp, kQ _ C1 _ H1 h1 tr rc (rep_bl.mpr rfl)⟩, kE⟩
/-! chains -/
theorem lift3 {r r' : R2} {q q' : RW2} (lk : Lk2 X.K r q) (lk' : Lk2 X.K r' q') {Wx : WX} {σ : L2.St} {H : Hp} {Q' : VK} (h : liftE X Wx (mChain q q' ta tb tc) σ H Q') : tChain r r' (liftE X Wx ta) (liftE X Wx tb) (liftE X Wx tc) σ H Q' := by
  obtain ⟨ρ, Cs, E, Q, R, C, h, kQ, kE⟩ := h
  refine ⟨ρ, Cs, E, _, R, C, h, fun x C1 vx H1 hx tr1 rc1 rx => ⟨ρ, C1, E, _, R.mono tr1, rc1, hx, fun y C2 vy H2 hy tr2 rc2 ry => lk x y vx vy H2 C2 _ _ hy rc2 (rep_mono tr2 _ _ rx) ry fun w C3 v H3 hw tr3 rc3 rw3 => ?_, kE.mono tr1⟩, kE⟩
  obtain ⟨k, rfl, h1, h2⟩ := hw
  have tr := (tr1.trans tr2).trans tr3
  refine ⟨k, rep_bl.mp rw3, ?_⟩
  cases k with
  | true =>
    rw [if_pos rfl]
    exact ⟨ρ, C3, E, _, R.mono tr, rc3, h1 rfl, fun z C4 vz H4 hz tr4 rc4 rz => lk' y z vy vz H4 C4 Q Q' hz rc4 (rep_mono (tr3.trans tr4) _ _ ry) rz (Fin.mono kQ (tr.trans tr4)), kE.mono tr⟩
  | false =>
    rw [if_neg Bool.false_ne_true]
    exact kQ _ C3 _ H3 (h2 rfl) tr rc3 (rep_bl.mpr rfl)
theorem qe_chain {op op' : CmpOp} {r r' : R2} {q q' : RW2} (ho : OpR X (compareOp op) r) (lk : Lk2 X.K r q) (ho' : OpR X (compareOp op') r') (lk' : Lk2 X.K r' q') (ha : QE X a ta) (hb : QE X b tb) (hc : QE X c tc)
    (hm : lastMarks [op, op'] [b, c] = false := by with_unfolding_all rfl) : QE X (.Compare a [op, op'] [b, c] pos) (mChain q q' ta tb tc) := fun Wx tk => pe_imp (pe_chain ho ho' (ha Wx tk) (hb Wx tk) (hc Wx tk) hm) fun _ _ _ h => lift3 lk lk' h
theorem qt_chain {op op' : CmpOp} {r r' : R2} {q q' : RW2} (ho : OpR X (compareOp op) r) (lk : Lk2 X.K r q) (ho' : OpR X (compareOp op') r') (lk' : Lk2 X.K r' q') (ha : QE X a ta) (hb : QE X b tb) (hc : QE X c tc)
    (hm : lastMarks [op, op'] [b, c] = false := by with_unfolding_all rfl) : QT X (.Compare a [op, op'] [b, c] pos) (mTest (mChain q q' ta tb tc)) := fun Wx tk => pt_imp (pt_chain ho ho' (ha Wx tk) (hb Wx tk) (hc Wx tk) hm) fun σ H Q' h => by
  obtain ⟨ρ, Cs, E, Q, R, C, h, kQ, kE⟩ := lift_test h
  exact lift3 (Q' := fun x H' => ∃ k, x = .bl k ∧ Q' k H') lk lk' ⟨ρ, Cs, E, Q, R, C, h, kQ, kE⟩
/-! argument lists, displays -/
theorem qa_nil : QA X [] mNil := fun Wx _ => pa_imp pa_nil fun σ H Q' ⟨ρ, Cs, E, Q, R, C, h, kQ, kE⟩ => kQ [] Cs [] H h (Tr.refl H) C (reps_nil.mpr rfl)
theorem liftCons {tr : MA} {Wx : WX} {σ : L2.St} {H : Hp} {Q' : List V → Hp → Prop} (h : liftA X Wx (mCons ta tr) σ H Q') : tCons (liftE X Wx ta) (liftA X Wx tr) σ H Q' := by
  obtain ⟨ρ, Cs, E, Q, R, C, h, kQ, kE⟩ := h
  exact ⟨ρ, Cs, E, _, R, C, h, fun x C1 vx H1 hx tr1 rc1 rx => ⟨ρ, C1, E, _, R.mono tr1, rc1, hx, fun xs C2 vs H2 hxs tr2 rc2 rxs => kQ (x :: xs) C2 (vx :: vs) H2 hxs (tr1.trans tr2) rc2 (reps_cc.mpr ⟨rep_mono tr2 _ _ rx, rxs⟩), kE.mono tr1⟩, kE⟩
theorem qa_cons {tr : MA} (ha : QE X e ta) (hr : QA X es tr) (hs : starEach (e :: es) X.env = (false, eval e X.env) :: starEach es X.env := by rfl) : QA X (e :: es) (mCons ta tr) := fun Wx tk => pa_imp (pa_cons (ha Wx tk) (hr Wx tk) hs) fun _ _ _ h => liftCons h
theorem qe_tup {x1} {t : MA} (h : QA X es t) : QE X (.Tuple es x1 pos) (mTup t) := fun Wx tk => pe_imp (pe_tup (h Wx tk)) fun σ H Q' ⟨ρ, Cs, E, Q, R, C, h, kQ, kE⟩ => ⟨ρ, Cs, E, _, R, C, h, fun ws C1 vs H1 ⟨hz, hq⟩ tr rc rp =>
  ⟨by rw [← reps_len rp]; exact sz1000 hz, fun p hp => kQ _ C1 _ _ hq (tr.trans (tr_new hp)) (rc.hid hp) (rep_tup.mpr ⟨p, vs, rfl, .inl (.inl upd_same), reps_mono (tr_new hp) _ _ rp⟩)⟩, kE⟩
theorem qe_lst {t : MA} (h : QA X es t) : QE X (.List es pos) (mLst t) := fun Wx tk => pe_imp (pe_lst (h Wx tk)) fun σ H Q' ⟨ρ, Cs, E, Q, R, C, h, kQ, kE⟩ => ⟨ρ, Cs, E, _, R, C, h, fun ws C1 vs H1 ⟨hz, hq⟩ tr rc rp =>
  ⟨by rw [← reps_len rp]; exact sz1000 hz, fun p hp => kQ _ _ _ _ (hq p) (tr.trans (tr_new hp)) (rc.new hp ⟨vs, upd_same, reps_mono (tr_new hp) _ _ rp⟩) (rep_ref.mpr rfl)⟩, kE⟩
/-! calls of built-ins -/
theorem liftCB {r : List V → Hp → VK → Prop} {q : RWL} {t : MA} (lk : LkL X.K r q) {Wx : WX} {σ : L2.St} {H : Hp} {Q' : VK} (h : liftE X Wx (mCB q t) σ H Q') : tCB r (liftA X Wx t) σ H Q' := by
  obtain ⟨ρ, Cs, E, Q, R, C, h, kQ, kE⟩ := h
  exact ⟨ρ, Cs, E, _, R, C, h, fun xs C1 vs H1 hx tr1 rc1 rx => lk xs vs H1 C1 Q Q' hx rc1 rx (Fin.mono kQ tr1), kE⟩
theorem qe_callB {id : String} {x : Str} {r : List V → Hp → VK → Prop} {q : RWL} {t : MA} (hc : CallR X (.builtin id) r) (lk : LkL X.K r q) (hg : Gl X x) (hm : X.mg x = none) (hv : bootBuiltins x = some (.builtin id)) (ha : QA X (e :: es) t)
    (he : starEach (e :: es) X.env = (false, eval e X.env) :: starEach es X.env := by rfl) (hpl : (backTo pos (starEach es X.env)).any (·.1) = false := by rfl) (hn : x ≠ "__name__" := by decide) (hdb : (x == ("__debug__" : Str)) = false := by decide) :
    QE X (.Call (.Name x p) (e :: es) [] pos) (mCB q t) := fun Wx tk => pe_imp (pe_callB hc hg hm hv (ha Wx tk) hn hdb he hpl) fun _ _ _ h => liftCB lk h
theorem qe_callTy {T : String} {x : Str} {r : List V → Hp → VK → Prop} {q : RWL} {t : MA} (hc : CallR X (.type T) r) (lk : LkL X.K r q) (hg : Gl X x) (hm : X.mg x = none) (hv : bootBuiltins x = some (.type T)) (ha : QA X (e :: es) t)
    (he : starEach (e :: es) X.env = (false, eval e X.env) :: starEach es X.env := by rfl) (hpl : (backTo pos (starEach es X.env)).any (·.1) = false := by rfl) (hn : x ≠ "__name__" := by decide) (hdb : (x == ("__debug__" : Str)) = false := by decide) :
    QE X (.Call (.Name x p) (e :: es) [] pos) (mCB q t) := fun Wx tk => pe_imp (pe_callTy hc hg hm hv (ha Wx tk) hn hdb he hpl) fun _ _ _ h => liftCB lk h
end

/-! ### statements -/
def sNext : MS := fun D ρ Cs => D.nx ρ Cs
def sSeq (t u : MS) : MS := fun D ρ Cs => t { D with nx := u D } ρ Cs
def sDrop (t : ME) : MS := fun D ρ Cs => t (fun C w Cs => D.ex C w ρ Cs) ρ Cs fun _ C => D.nx ρ C
def sRet (t : ME) : MS := fun D ρ Cs => t (fun C w Cs => D.ex C w ρ Cs) ρ Cs D.rt
def sRetN : MS := fun D _ Cs => D.rt .non Cs
def sIf (c : MT) (t u : MS) : MS := fun D ρ Cs => c (fun C w Cs => D.ex C w ρ Cs) ρ Cs fun b C => (b = true → t D ρ C) ∧ (b = false → u D ρ C)
def sNever : MS := fun _ _ _ => False
def sBreak : MS := fun D ρ Cs => D.bk ρ Cs
def sCont : MS := fun D ρ Cs => D.ct ρ Cs
/-- targets -/
abbrev MG := Rho → W → Cells → (Rho → Cells → Prop) → Prop
def gSet (i : Nat) : MG := fun ρ w Cs Q => Q (ρ.put i w) Cs
abbrev MGs := Rho → List W → Cells → (Rho → Cells → Prop) → Prop
def gsNil : MGs := fun ρ ws Cs Q => ws = [] ∧ Q ρ Cs
def gsCons (t : MG) (u : MGs) : MGs := fun ρ ws Cs Q => ∃ w r, ws = w :: r ∧ t ρ w Cs fun ρ' C' => u ρ' r C' Q
def gTupW (n : Nat) (t : MGs) : MG := fun ρ w Cs Q => ∃ ws, w = .tup ws ∧ ws.length = n ∧ t ρ ws Cs Q
def sAsg (t : ME) (g : MG) : MS := fun D ρ Cs => t (fun C w Cs => D.ex C w ρ Cs) ρ Cs fun w C => g ρ w C D.nx

section
variable {X : Cx} {a b c e : Expr} {es : List Expr} {ta tb tc : ME} {t u : MT} {pos p : Pos} {st : Stmt} {rest : List Stmt} {s1 s2 : MS}
/-- all slots but those of js are as they were -/
def Off (js : List Nat) (σ σ' : L2.St) : Prop := σ'.length = σ.length ∧ ∀ i, i ∉ js → σ'[i]? = σ[i]?
theorem Off.trans {js ks : List Nat} {σ σ1 σ2 : L2.St} (a : Off js σ σ1) (b : Off ks σ1 σ2) : Off (js ++ ks) σ σ2 := ⟨b.1.trans a.1, fun i hi => by
  rw [List.mem_append, not_or] at hi
  exact (b.2 i hi.2).trans (a.2 i hi.1)⟩
theorem Off.set {σ : L2.St} {i : Nat} {v : Option V} : Off [i] σ (σ.set i v) := ⟨List.length_set, fun j hj => List.getElem?_set_ne (fun e => hj (by simp [e]))⟩
def liftG (X : Cx) (js : List Nat) (t : MG) : TG := fun v σ H Q' => ∃ (ρ : Rho) (w : W) (Cs : Cells) (Q : Rho → Cells → Prop), RelS X.K X.N.length H σ ρ ∧ RelC X.K H Cs ∧ rep X.K H w v ∧ t ρ w Cs Q ∧ (∀ ρ' Cs' σ' H', Q ρ' Cs' → Tr X.K H H' → RelS X.K X.N.length H' σ' ρ' → RelC X.K H' Cs' → Off js σ σ' → Q' σ' H')
def liftGs (X : Cx) (js : List Nat) (t : MGs) : TGs := fun vs σ H Q' => ∃ (ρ : Rho) (ws : List W) (Cs : Cells) (Q : Rho → Cells → Prop), RelS X.K X.N.length H σ ρ ∧ RelC X.K H Cs ∧ reps X.K H ws vs ∧ t ρ ws Cs Q ∧ (∀ ρ' Cs' σ' H', Q ρ' Cs' → Tr X.K H H' → RelS X.K X.N.length H' σ' ρ' → RelC X.K H' Cs' → Off js σ σ' → Q' σ' H')
def QG (X : Cx) (js : List Nat) (e : Expr) (t : MG) : Prop := PG X e (liftG X js t)
def QGs (X : Cx) (js : List Nat) (es : List Expr) (t : MGs) : Prop := PGs X es (liftGs X js t)
theorem pg_imp {t t' : TG} (h : PG X e t) (k : ∀ v σ H Q, t' v σ H Q → t v σ H Q) : PG X e t' := ⟨fun pins s σ H v u Q I r q => h.run pins s σ H v u Q I r (k _ _ _ _ q)⟩
theorem pgs_imp {t t' : TGs} (h : PGs X es t) (k : ∀ v σ H Q, t' v σ H Q → t v σ H Q) : PGs X es t' := ⟨fun pins s σ H v u Q I r q => h.run pins s σ H v u Q I r (k _ _ _ _ q)⟩
theorem qg_name (i : Nat) {x : Str} (hN : X.N.Nodup) (hi : X.N[i]? = some x := by rfl) (hx : Loc X.env.scope x := by first | exact Or.inl rfl | exact Or.inr rfl) (hf : X.fn x = true ∨ X.env.scope.names.lookup x = some .local := by first | exact .inl rfl | exact .inr rfl | assumption) : QG X [i] (.Name x pos) (gSet i) :=
  pg_imp (pg_name hN hi hx hf) fun v σ H Q' ⟨ρ, w, Cs, Q, R, C, rp, h, kQ⟩ => kQ _ Cs _ H h (Tr.refl H) (R.set (List.getElem?_eq_some_iff.mp hi).1 rp) C Off.set
theorem qgs_nil : QGs X [] [] gsNil := pgs_imp pgs_nil fun vs σ H Q' ⟨ρ, ws, Cs, Q, R, C, rp, ⟨e, h⟩, kQ⟩ => by
  subst e
  exact ⟨reps_nil.mp rp, kQ ρ Cs σ H h (Tr.refl H) R C ⟨rfl, fun _ _ => rfl⟩⟩
theorem qgs_cons {js ks : List Nat} {g : MG} {gs : MGs} (h1 : QG X js e g) (h2 : QGs X ks es gs) (hs : (assignEach (e :: es) X.env).map (·.2) = assign e X.env :: (assignEach es X.env).map (·.2) := by rfl) : QGs X (js ++ ks) (e :: es) (gsCons g gs) :=
  pgs_imp (pgs_cons h1 h2 hs) fun vs σ H Q' ⟨ρ, ws, Cs, Q, R, C, rp, ⟨w, r, e, h⟩, kQ⟩ => by
    subst e
    obtain ⟨x, xs, rfl, r1, r2⟩ := reps_cons.mp rp
    exact ⟨x, xs, rfl, ρ, w, Cs, _, R, C, r1, h, fun ρ' C' σ' H' q tr R' rc of => ⟨ρ', r, C', Q, R', rc, reps_mono tr _ _ r2, q, fun ρ2 C2 σ2 H2 q2 tr2 R2 rc2 of2 => kQ ρ2 C2 σ2 H2 q2 (tr.trans tr2) R2 rc2 (of.trans of2)⟩⟩
theorem qg_tup {js : List Nat} {k n : Nat} {gs : MGs} (hc : X.calm = true) (h : QGs X js es gs) (hn : (assignEach es X.env).length = n := by rfl) (hst : (assignEach es X.env).findIdx? (·.1) = none := by rfl) : QG X js (.Tuple es k pos) (gTupW n gs) :=
  pg_imp (pg_tup hc h hn hst) fun v σ H Q' ⟨ρ, w, Cs, Q, R, C, rp, ⟨ws, e, hl, h⟩, kQ⟩ => by
    subst e
    obtain ⟨t, xs, rfl, h1, h2⟩ := rep_tup.mp rp
    exact ⟨t, xs, rfl, h1, by rw [← reps_len h2]; exact hl, ρ, ws, Cs, Q, R, C, h2, h, kQ⟩

/-! statements -/
theorem qss_nil : QSs X [] sNext := fun Wx _ => pss_imp pss_nil fun D σ H ⟨ρ, Cs, DW, R, C, h, L⟩ => L.nx ρ Cs σ H h (Tr.refl H) R C
theorem liftSeq {Wx : WX} {D : Ends} {σ : L2.St} {H : Hp} (h : liftS X Wx (sSeq s1 s2) D σ H) : tSeq (liftS X Wx s1) (liftS X Wx s2) D σ H := by
  obtain ⟨ρ, Cs, DW, R, C, h, L⟩ := h
  exact ⟨ρ, Cs, { DW with nx := s2 DW }, R, C, h, ⟨fun ρ' C' σ' H' q tr R' rc => ⟨ρ', C', DW, R', rc, q, L.mono tr⟩, L.rt, L.bk, L.ct, L.ex⟩⟩
theorem qss_cons (h1 : QS X st s1) (h2 : QSs X rest s2) : QSs X (st :: rest) (sSeq s1 s2) := fun Wx tk => pss_imp (pss_cons (h1 Wx tk) (h2 Wx tk)) fun _ _ _ h => liftSeq h
theorem qss_one (h1 : QS X st s1) : QSs X [st] s1 := fun Wx tk => pss_one (h1 Wx tk)
theorem qs_pass : QS X (.Pass pos) sNext := fun Wx _ => ps_imp ps_pass fun D σ H ⟨ρ, Cs, DW, R, C, h, L⟩ => L.nx ρ Cs σ H h (Tr.refl H) R C
theorem qs_break : QS X (.Break pos) sBreak := fun Wx _ => ps_imp ps_break fun D σ H ⟨ρ, Cs, DW, R, C, h, L⟩ => L.bk ρ Cs σ H h (Tr.refl H) R C
theorem qs_continue : QS X (.Continue pos) sCont := fun Wx _ => ps_imp ps_continue fun D σ H ⟨ρ, Cs, DW, R, C, h, L⟩ => L.ct ρ Cs σ H h (Tr.refl H) R C
theorem qs_never : QS X st sNever := fun Wx _ => ps_imp ps_never fun D σ H ⟨ρ, Cs, DW, R, C, h, L⟩ => h
theorem qss_never {sts : List Stmt} : QSs X sts sNever := fun Wx _ => pss_imp pss_never fun D σ H ⟨ρ, Cs, DW, R, C, h, L⟩ => h
theorem qs_expr (he : QE X e ta) (hs : swapsWith e none pos.line X.env = pure false := by rfl) : QS X (.Expr e pos) (sDrop ta) := fun Wx tk => ps_imp (ps_expr (he Wx tk) hs) fun D σ H ⟨ρ, Cs, DW, R, C, h, L⟩ =>
  ⟨ρ, Cs, _, _, R, C, h, fun w C1 v H1 q tr rc _ => L.nx ρ C1 σ H1 q tr (R.mono tr) rc, L.lnkX R⟩
theorem qs_ret (he : QE X e ta) : QS X (.Return (some e) pos) (sRet ta) := fun Wx tk => ps_imp (ps_ret (he Wx tk)) fun D σ H ⟨ρ, Cs, DW, R, C, h, L⟩ => ⟨ρ, Cs, _, _, R, C, h, fun w C1 v H1 q tr rc rp => L.rt w C1 v H1 q tr rc rp, L.lnkX R⟩
theorem qs_retN : QS X (.Return none pos) sRetN := fun Wx tk => ps_imp ps_retN fun D σ H ⟨ρ, Cs, DW, R, C, h, L⟩ => L.rt .non Cs .non H h (Tr.refl H) C (rep_non.mpr rfl)
theorem qs_if {as bs : List Stmt} (hc : QT X c t) (ha : QSs X as s1) (hb : QSs X bs s2) : QS X (.If c as bs pos) (sIf t s1 s2) := fun Wx tk => ps_imp (ps_if (hc Wx tk) (ha Wx tk) (hb Wx tk)) fun D σ H ⟨ρ, Cs, DW, R, C, h, L⟩ =>
  ⟨ρ, Cs, _, _, R, C, h, fun k C1 H1 ⟨h1, h2⟩ tr rc => by
    cases k with
    | true =>
      rw [if_pos rfl]
      exact ⟨ρ, C1, DW, R.mono tr, rc, h1 rfl, L.mono tr⟩
    | false =>
      rw [if_neg Bool.false_ne_true]
      exact ⟨ρ, C1, DW, R.mono tr, rc, h2 rfl, L.mono tr⟩, L.lnkX R⟩
theorem qs_asg {js : List Nat} {tg : Expr} {g : MG} (he : QE X e ta) (hg : QG X js tg g) (hs : swapsWithSole [tg] e pos.line X.env = pure false := by rfl) (hw : swappedStores [tg] e X.env = pure none := by rfl)
    (h1 : (assignEach [tg] X.env).map (·.2) = [assign tg X.env] := by rfl) : QS X (.Assign [tg] e pos) (sAsg ta g) := fun Wx tk => ps_imp (ps_asg (he Wx tk) hg hs hw h1) fun D σ H ⟨ρ, Cs, DW, R, C, h, L⟩ =>
  ⟨ρ, Cs, _, _, R, C, h, fun w C1 v H1 q tr rc rp => ⟨ρ, w, C1, _, R.mono tr, rc, rp, q, fun ρ' C' σ' H' q2 tr2 R2 rc2 _ => L.nx ρ' C' σ' H' q2 (tr.trans tr2) R2 rc2⟩, L.lnkX R⟩
theorem qs_set (i : Nat) {x : Str} {pos' : Pos} (hN : X.N.Nodup) (he : QE X e ta) (hi : X.N[i]? = some x := by rfl) (hx : Loc X.env.scope x := by first | exact Or.inl rfl | exact Or.inr rfl) (hs : swapsWith e (some (.Name x pos')) pos.line X.env = pure false := by rfl) (hf : X.fn x = true ∨ X.env.scope.names.lookup x = some .local := by first | exact .inl rfl | exact .inr rfl | assumption) :
    QS X (.Assign [.Name x pos'] e pos) (sAsg ta (gSet i)) := fun Wx tk => ps_imp (ps_set hN hi hx (he Wx tk) hs hf) fun D σ H ⟨ρ, Cs, DW, R, C, h, L⟩ =>
  ⟨ρ, Cs, _, _, R, C, h, fun w C1 v H1 q tr rc rp => L.nx _ C1 _ H1 q tr ((R.mono tr).set (List.getElem?_eq_some_iff.mp hi).1 rp) rc, L.lnkX R⟩
/-- a, b = x, y -/
def sPar (i j : Nat) (t : MA) : MS := fun D ρ Cs => t (fun C w Cs => D.ex C w ρ Cs) ρ Cs fun ws C => ∃ v w, ws = [v, w] ∧ D.nx ((ρ.put i v).put j w) C
theorem qs_par (i j : Nat) {x y : Str} {px py pt : Pos} {kt k2 pt2} {t : MA} (hc : X.calm = true) (hN : X.N.Nodup) (ha : QA X [a, b] t) (hw : swappedStores [.Tuple [.Name x px, .Name y py] kt pt] (.Tuple [a, b] k2 pt2) X.env = pure (some [x, y]) := by rfl)
    (hi : X.N[i]? = some x := by rfl) (hj : X.N[j]? = some y := by rfl) (hij : i ≠ j := by decide) (hx : X.env.scope.names.lookup x = some .local := by rfl) (hy : X.env.scope.names.lookup y = some .local := by rfl)
    (hs : swapsWithSole [.Tuple [.Name x px, .Name y py] kt pt] (.Tuple [a, b] k2 pt2) pos.line X.env = pure false := by rfl) :
    QS X (.Assign [.Tuple [.Name x px, .Name y py] kt pt] (.Tuple [a, b] k2 pt2) pos) (sPar i j t) := fun Wx tk => ps_imp (ps_par hc hN hi hj hij hx hy (ha Wx tk) hw hs) fun D σ H ⟨ρ, Cs, DW, R, C, h, L⟩ =>
  ⟨ρ, Cs, _, _, R, C, h, fun ws C1 vs H1 q tr rc rp => by
    obtain ⟨v, w, rfl, q⟩ := q
    obtain ⟨vx, r, rfl, r1, r2⟩ := reps_cons.mp rp
    obtain ⟨vy, r', rfl, r3, r4⟩ := reps_cons.mp r2
    obtain rfl := reps_nil.mp r4
    exact ⟨vx, vy, rfl, L.nx _ C1 _ H1 q tr (((R.mono tr).set (List.getElem?_eq_some_iff.mp hi).1 r1).set (List.getElem?_eq_some_iff.mp hj).1 r3) rc⟩, L.lnkX R⟩
/-- x op= e, x a name -/
def sAug (i : Nat) (q : RW2) (t : ME) : MS := fun D ρ Cs => ∃ x, ρ i = some x ∧ t (fun C w Cs => D.ex C w ρ Cs) ρ Cs fun y C => q x y C fun z C' => D.nx (ρ.put i z) C'
theorem qs_aug (i : Nat) {x : Str} {op : Operator} {ti : TIp} {q : RW2} {pos' : Pos} (hN : X.N.Nodup) (he : QE X e ta) (ho : PIp X op ti) (lk : Lk2 X.K ti q) (hi : X.N[i]? = some x := by rfl) (hx : Loc X.env.scope x := by first | exact Or.inl rfl | exact Or.inr rfl)
    (hf : X.fn x = true ∨ X.env.scope.names.lookup x = some .local := by first | exact .inl rfl | exact .inr rfl | assumption) : QS X (.AugAssign (.Name x pos') op e pos) (sAug i q ta) := fun Wx tk => ps_imp (ps_aug hN hi hx (he Wx tk) ho hf) fun D σ H ⟨ρ, Cs, DW, R, C, ⟨w, ew, h⟩, L⟩ => by
  obtain ⟨v, ev, rv⟩ := R.at_ i w ew
  exact ⟨v, ev, ρ, Cs, _, _, R, C, h, fun y C1 vy H1 hq tr rc ry => lk w y v vy H1 C1 _ _ hq rc (rep_mono tr _ _ rv) ry fun z C2 vz H2 q2 tr2 rc2 rz => L.nx _ C2 _ H2 q2 (tr.trans tr2) ((R.mono (tr.trans tr2)).set (List.getElem?_eq_some_iff.mp hi).1 rz) rc2, L.lnkX R⟩
/-- o[i] = v -/
abbrev RSet := W → W → W → Cells → (Cells → Prop) → Prop
def LkSet (K : PySem.W.Frag) (r : TSet) (q : RSet) : Prop := ∀ o i v vo vi vv H Cs (Q : Cells → Prop) (Q' : Hp → Prop), q o i v Cs Q → RelC K H Cs → rep K H o vo → rep K H i vi → rep K H v vv → (∀ Cs' H', Q Cs' → Tr K H H' → RelC K H' Cs' → Q' H') → r vo vi vv H Q'
def sStore (q : RSet) (tv to ti : ME) : MS := fun D ρ Cs => tv (fun C w Cs => D.ex C w ρ Cs) ρ Cs fun v C1 => to (fun C w Cs => D.ex C w ρ Cs) ρ C1 fun o C2 => ti (fun C w Cs => D.ex C w ρ Cs) ρ C2 fun i C3 => q o i v C3 fun C4 => D.nx ρ C4
theorem qs_store {o i v : Expr} {to ti tv : ME} {p2 : Pos} {r : TSet} {q : RSet} (hv : QE X v tv) (ho : QE X o to) (hi : QE X i ti) (hs : PSet X r) (lk : LkSet X.K r q)
    (ha : ∀ v, assign (.Subscript o i p2) X.env v = (do
      let ov ← holding [v] (eval o X.env)
      let iv ← holding [v, ov] (eval i X.env)
      standAt p2
      holding [v, ov, iv] (setItem ov iv v)
      release [v, ov, iv] []) := by intro _; rfl)
    (h1 : swapsWithSole [.Subscript o i p2] v pos.line X.env = pure false := by rfl) (h2 : swappedStores [.Subscript o i p2] v X.env = pure none := by rfl) (h3 : (assignEach [.Subscript o i p2] X.env).map (·.2) = [assign (.Subscript o i p2) X.env] := by rfl) :
    QS X (.Assign [.Subscript o i p2] v pos) (sStore q tv to ti) := fun Wx tk => ps_imp (ps_asg (hv Wx tk) (pg_sub (ho Wx tk) (hi Wx tk) hs ha) h1 h2 h3) fun D σ H ⟨ρ, Cs, DW, R, C, h, L⟩ =>
  ⟨ρ, Cs, _, _, R, C, h, fun w C1 vv H1 q1 tr1 rc1 rv => ⟨ρ, C1, _, _, R.mono tr1, rc1, q1, fun o' C2 vo H2 q2 tr2 rc2 ro => ⟨ρ, C2, _, _, R.mono (tr1.trans tr2), rc2, q2, fun i' C3 vi H3 q3 tr3 rc3 ri =>
    lk o' i' w vo vi vv H3 C3 _ _ q3 rc3 (rep_mono tr3 _ _ ro) ri (rep_mono (tr2.trans tr3) _ _ rv) fun C4 H4 q4 tr4 rc4 => L.nx ρ C4 σ H4 q4 (((tr1.trans tr2).trans tr3).trans tr4) (R.mono (((tr1.trans tr2).trans tr3).trans tr4)) rc4, (L.lnkX R).mono (tr1.trans tr2)⟩, (L.lnkX R).mono tr1⟩, L.lnkX R⟩
end
end SL
namespace SL
open PySem PySem.Spec PyProof.Rows L2

/-! ### what is walked -/
/-- n turns, while keep holds; the i-th thing is w if it i w -/
structure Wk where
  n : Nat
  keep : Cells → Prop
  it : Nat → W → Prop
structure WalkW (K : PySem.W.Frag) (H₀ : Hp) (J : It) (k : Wk) : Prop where
  goes : ∀ i H Cs, Tr K H₀ H → i < k.n → RelC K H Cs → k.keep Cs → J.go i H
  stops : ∀ H Cs, Tr K H₀ H → RelC K H Cs → k.keep Cs → J.stop k.n H
  yields : ∀ i H x H' Cs, Tr K H₀ H → i < k.n → RelC K H Cs → k.keep Cs → J.yld i H x H' → Tr K H H' ∧ (∀ Ds, RelC K H Ds → RelC K H' Ds) ∧ ∃ w, k.it i w ∧ rep K H' w x
abbrev MI := XW → Rho → Cells → (Wk → Cells → Prop) → Prop
def liftI (X : Cx) (Wx : WX) (t : MI) : TI := fun σ H R' => ∃ (ρ : Rho) (Cs : Cells) (E : XW) (Q : Wk → Cells → Prop), RelS X.K X.N.length H σ ρ ∧ RelC X.K H Cs ∧ t E ρ Cs Q ∧
  (∀ k Cs' H' J, Q k Cs' → Tr X.K H H' → RelC X.K H' Cs' → WalkW X.K H' J k → R' J H') ∧ LnkX X.K X.N.length Wx σ H E
def QI (X : Cx) (tg iter : Expr) (t : MI) : Prop := ∀ Wx, Takes X Wx → PI X tg iter (liftI X Wx t)
theorem pi_imp {X : Cx} {tg iter : Expr} {t t' : TI} (h : PI X tg iter t) (k : ∀ σ H R, t' σ H R → t σ H R) : PI X tg iter t' := ⟨fun pins s σ H R I q => h.run pins s σ H R I (k σ H R q)⟩
/-- a list that stands -/
def LsAt (a : Addr) (ws : List W) (Cs : Cells) : Prop := (a, MO.lst ws) ∈ Cs
section
variable {K : PySem.W.Frag} {H : Hp} {Cs : Cells} {a : Addr} {ws : List W}
theorem LsAt.get (h : LsAt a ws Cs) (R : RelC K H Cs) : ∃ xs, SqL K H a xs ∧ reps K H ws xs := by
  obtain ⟨xs, e, r⟩ := R.mem h
  exact ⟨xs, .inl (.inl e), r⟩
theorem LsAt.part {Ds : Cells} (h : LsAt a ws Ds) (p : Part Ds Cs) : LsAt a ws Cs := by
  obtain ⟨Fs, q⟩ := p.part
  exact q.mem_iff.mpr (List.mem_append_left _ h)
theorem walk_l : WalkW K H (Itl K a) ⟨ws.length, LsAt a ws, fun i w => ws[i]? = some w⟩ := ⟨fun i H Cs _ hi R h => by
    obtain ⟨xs, hs, r⟩ := h.get R
    have hx : i < xs.length := by rw [← reps_len r]; exact hi
    exact ⟨xs, xs[i], hs, by simp [hx]⟩, fun H Cs _ R h => by
    obtain ⟨xs, hs, r⟩ := h.get R
    exact ⟨xs, hs, by rw [← reps_len r]; exact Nat.le_refl _⟩, fun i H x H' Cs _ hi R h y => by
    obtain ⟨xs, hs, r⟩ := h.get R
    obtain ⟨e, y⟩ := y
    subst e
    obtain ⟨w, e1, e2⟩ := reps_get' r (y xs hs)
    exact ⟨Tr.refl _, fun _ q => q, w, e1, e2⟩⟩
theorem walk_r {lo : Int} {n : Nat} : WalkW K H (Itr lo n) ⟨n, fun _ => True, fun i w => w = .int (lo + i)⟩ := ⟨fun i H Cs _ hi _ _ => hi, fun _ _ _ _ _ => Nat.le_refl _, fun i H x H' Cs _ hi R h y => by
    obtain ⟨e, y⟩ := y
    subst e y
    exact ⟨Tr.refl _, fun _ q => q, _, rfl, rep_int.mpr rfl⟩⟩
theorem walk_e : WalkW K H (Ite K a) ⟨ws.length, LsAt a ws, fun i w => ∃ u, ws[i]? = some u ∧ w = .tup [.int (i : Nat), u]⟩ := ⟨fun i H Cs _ hi R h => by
    obtain ⟨xs, hs, r⟩ := h.get R
    have hx : i < xs.length := by rw [← reps_len r]; exact hi
    exact ⟨xs, xs[i], hs, by simp [hx]⟩, fun H Cs _ R h => by
    obtain ⟨xs, hs, r⟩ := h.get R
    exact ⟨xs, hs, by rw [← reps_len r]; exact Nat.le_refl _⟩, fun i H x H' Cs _ hi R h y => by
    obtain ⟨xs, hs, r⟩ := h.get R
    obtain ⟨T, x', e, hT, e', y⟩ := y
    subst e e'
    obtain ⟨w, e1, e2⟩ := reps_get' r (y xs hs)
    exact ⟨tr_new hT, fun _ q => q.hid hT, _, ⟨w, e1, rfl⟩, rep_tup.mpr ⟨T, _, rfl, .inl (.inl upd_same), reps_cc.mpr ⟨rep_int.mpr rfl, reps_cc.mpr ⟨rep_mono (tr_new hT) _ _ e2, reps_nil.mpr rfl⟩⟩⟩⟩⟩
/-- a tuple that stands: its items as trees -/
theorem walk_t {t : Addr} {xs : List V} (ht : SqT K H t xs) (r : reps K H ws xs) : WalkW K H (Itt K t) ⟨ws.length, fun _ => True, fun i w => ws[i]? = some w⟩ := ⟨fun i H' Cs tr hi R h => by
    have hx : i < xs.length := by rw [← reps_len r]; exact hi
    exact ⟨xs, xs[i], tr.tup _ _ ht, by simp [hx]⟩, fun H' Cs tr R h => ⟨xs, tr.tup _ _ ht, by rw [← reps_len r]; exact Nat.le_refl _⟩, fun i H' x H2 Cs tr hi R h y => by
    obtain ⟨e, y⟩ := y
    subst e
    obtain ⟨w, e1, e2⟩ := reps_get' r (y xs (tr.tup _ _ ht))
    exact ⟨Tr.refl _, fun _ q => q, w, e1, rep_mono tr _ _ e2⟩⟩
/-- a list that no one writes -/
theorem walk_k {a : Addr} {xs : List V} (ht : KL K H a xs) (r : reps K H ws xs) : WalkW K H (Itl K a) ⟨ws.length, fun _ => True, fun i w => ws[i]? = some w⟩ := ⟨fun i H' Cs tr hi R h => by
    have hx : i < xs.length := by rw [← reps_len r]; exact hi
    exact ⟨xs, xs[i], (tr.cst _ _ ht).1, by simp [hx]⟩, fun H' Cs tr R h => ⟨xs, (tr.cst _ _ ht).1, by rw [← reps_len r]; exact Nat.le_refl _⟩, fun i H' x H2 Cs tr hi R h y => by
    obtain ⟨e, y⟩ := y
    subst e
    obtain ⟨w, e1, e2⟩ := reps_get' r (y xs (tr.cst _ _ ht).1)
    exact ⟨Tr.refl _, fun _ q => q, w, e1, rep_mono tr _ _ e2⟩⟩
end

/-! ### for -/
def EndsW.turn (D : EndsW) (P : Rho → Cells → Prop) : EndsW := { D with nx := fun ρ C => ∃ C', Part C' C ∧ P ρ C', ct := fun ρ C => ∃ C', Part C' C ∧ P ρ C', bk := fun ρ C => ∃ C', Part C' C ∧ D.nx ρ C' }
def sFor (mi : MI) (g : MG) (tb : MS) : MS := fun D ρ Cs => mi (fun C w Cs => D.ex C w ρ Cs) ρ Cs fun k C1 => ∃ Pv : Nat → Rho → Cells → Prop, Pv 0 ρ C1 ∧ (∀ i ρ' C', i ≤ k.n → Pv i ρ' C' → k.keep C') ∧
  (∀ i w ρ' C', i < k.n → k.it i w → Pv i ρ' C' → g ρ' w C' fun ρ2 C2 => tb (D.turn (Pv (i + 1))) ρ2 C2) ∧ (∀ ρ' C', Pv k.n ρ' C' → D.nx ρ' C')
section
variable {X : Cx} {a b c e : Expr} {es : List Expr} {ta tb tc : ME} {t u : MT} {pos p : Pos} {st : Stmt} {rest : List Stmt} {s1 s2 : MS}
theorem qs_for {js : List Nat} {tg iter : Expr} {body : List Stmt} {mi : MI} {g : MG} {sb : MS} (hp : PassesOwn (model X.prog X.w) X.A X.env X.xe) (hc : X.calm = true) (hi : QI X tg iter mi) (hg : QG X js tg g) (hb : QSs X body sb)
    (hs : ∀ x, foldedSetIterable iter X.env x = pure x := by intro _; rfl) : QS X (.For tg iter body [] pos) (sFor mi g sb) := fun Wx tk => ps_imp (ps_for hp hc (hi Wx tk) hg (hb Wx tk) hs) fun D σ H ⟨ρ, Cs, DW, R, C, h, L⟩ =>
  ⟨ρ, Cs, _, _, R, C, h, fun k C1 H1 J q tr1 rc1 wk => by
    obtain ⟨Pv, h0, hk, ht, hd⟩ := q
    refine ⟨fun i m σ' H' => m = k.n - i ∧ i ≤ k.n ∧ ∃ ρ' C', RelS X.K X.N.length H' σ' ρ' ∧ RelC X.K H' C' ∧ Pv i ρ' C' ∧ Tr X.K H1 H', ⟨_, rfl, Nat.zero_le _, ρ, C1, R.mono tr1, rc1, h0, Tr.refl H1⟩, ?_⟩
    rintro i m σ' H' ⟨rfl, hin, ρ', C', R', rc', p, trJ⟩
    have kp := hk i ρ' C' hin p
    have tr' := tr1.trans trJ
    by_cases hlt : i < k.n
    · refine .inr ⟨wk.goes i H' C' trJ hlt rc' kp, fun σ2 H2 => ∃ ρ2 C2, RelS X.K X.N.length H2 σ2 ρ2 ∧ RelC X.K H2 C2 ∧ Pv (i + 1) ρ2 C2 ∧ Tr X.K H1 H2, fun σ2 H2 ⟨ρ2, C2, z⟩ => ⟨k.n - (i + 1), by omega, rfl, hlt, ρ2, C2, z⟩, fun x H2 y => ?_⟩
      obtain ⟨tr2, rcs, w, hw, rw2⟩ := wk.yields i H' x H2 C' trJ hlt rc' kp y
      have tr12 := tr'.trans tr2
      refine ⟨ρ', w, C', _, R'.mono tr2, rcs _ rc', rw2, ht i w ρ' C' hlt hw p, fun ρ3 C3 σ3 H3 q3 tr3 R3 rc3 _ => ⟨ρ3, C3, _, R3, rc3, q3, ?_⟩⟩
      have tr13 := tr12.trans tr3
      refine ⟨fun ρ4 C4 σ4 H4 q4 tr4 R4 rc4 => ?_, fun w C4 v H4 q4 tr4 => L.rt w C4 v H4 q4 (tr13.trans tr4), fun ρ4 C4 σ4 H4 ⟨C5, hp5, q5⟩ tr4 R4 rc4 => L.nx ρ4 C5 σ4 H4 q5 (tr13.trans tr4) R4 (rc4.to hp5), fun ρ4 C4 σ4 H4 q4 tr4 R4 rc4 => ?_, fun C w ρ4 C4 σ4 d v H4 q4 tr4 => L.ex C w ρ4 C4 σ4 d v H4 q4 (tr13.trans tr4)⟩
      · obtain ⟨C5, hp5, q5⟩ := q4
        exact ⟨ρ4, C5, R4, rc4.to hp5, q5, ((trJ.trans tr2).trans tr3).trans tr4⟩
      · obtain ⟨C5, hp5, q5⟩ := q4
        exact ⟨ρ4, C5, R4, rc4.to hp5, q5, ((trJ.trans tr2).trans tr3).trans tr4⟩
    · have e : i = k.n := by omega
      subst e
      exact .inl ⟨wk.stops H' C' trJ rc' kp, L.nx ρ' C' σ' H' (hd ρ' C' p) tr' R' rc'⟩, L.lnkX R⟩

/-! ### while: an invariant with its measure -/
def sWhile (c : MT) (tb : MS) : MS := fun D ρ Cs => ∃ Pv : Nat → Rho → Cells → Prop, (∃ m, Pv m ρ Cs) ∧ ∀ m ρ' C', Pv m ρ' C' → c (fun C w Cs => D.ex C w ρ' Cs) ρ' C' fun k C1 =>
  (k = true → tb (D.turn fun ρ2 C2 => ∃ m', m' < m ∧ Pv m' ρ2 C2) ρ' C1) ∧ (k = false → ∃ C2, Part C2 C1 ∧ D.nx ρ' C2)
theorem qs_while {body : List Stmt} {sb : MS} (hp : PassesOwn (model X.prog X.w) X.A X.env X.xe) (hc : QT X c t) (hb : QSs X body sb) : QS X (.While c body [] pos) (sWhile t sb) := fun Wx tk => ps_imp (ps_while hp (hc Wx tk) (hb Wx tk)) fun D σ H ⟨ρ, Cs, DW, R, C, h, L⟩ => by
  obtain ⟨Pv, ⟨m0, h0⟩, ht⟩ := h
  refine ⟨fun m σ' H' => ∃ ρ' C', RelS X.K X.N.length H' σ' ρ' ∧ RelC X.K H' C' ∧ Pv m ρ' C' ∧ Tr X.K H H', ⟨m0, ρ, Cs, R, C, h0, Tr.refl H⟩, ?_⟩
  rintro m σ' H' ⟨ρ', C', R', rc', p, tr'⟩
  refine ⟨ρ', C', _, _, R', rc', ht m ρ' C' p, fun k C1 H1 ⟨q1, q2⟩ tr1 rc1 => ?_, (L.mono tr').lnkX R'⟩
  have tr2 := tr'.trans tr1
  cases k with
  | true =>
    refine iteT ?_
    refine ⟨fun σ2 H2 => ∃ m', m' < m ∧ ∃ ρ2 C2, RelS X.K X.N.length H2 σ2 ρ2 ∧ RelC X.K H2 C2 ∧ Pv m' ρ2 C2 ∧ Tr X.K H H2, fun σ2 H2 ⟨m', hm, z⟩ => ⟨m', hm, z⟩, ρ', C1, _, R'.mono tr1, rc1, q1 rfl, ?_⟩
    refine ⟨fun ρ4 C4 σ4 H4 q4 tr4 R4 rc4 => ?_, fun w C4 v H4 q4 tr4 => L.rt w C4 v H4 q4 (tr2.trans tr4), fun ρ4 C4 σ4 H4 ⟨C5, hp5, q5⟩ tr4 R4 rc4 => L.nx ρ4 C5 σ4 H4 q5 (tr2.trans tr4) R4 (rc4.to hp5), fun ρ4 C4 σ4 H4 q4 tr4 R4 rc4 => ?_, fun C w ρ4 C4 σ4 d v H4 q4 tr4 => L.ex C w ρ4 C4 σ4 d v H4 q4 (tr2.trans tr4)⟩
    · obtain ⟨C5, hp5, m', hm, q5⟩ := q4
      exact ⟨m', hm, ρ4, C5, R4, rc4.to hp5, q5, tr2.trans tr4⟩
    · obtain ⟨C5, hp5, m', hm, q5⟩ := q4
      exact ⟨m', hm, ρ4, C5, R4, rc4.to hp5, q5, tr2.trans tr4⟩
  | false =>
    refine iteF ?_
    obtain ⟨C2, hp2, q2⟩ := q2 rfl
    exact L.nx ρ' C2 σ' H1 q2 tr2 (R'.mono tr1) (rc1.to hp2)

/-! ### what a for walks -/
def iOf (x : W) (C : Cells) (Q : Wk → Cells → Prop) : Prop := match x with
  | .ref a => ∃ ws, LsAt a ws C ∧ Q ⟨ws.length, LsAt a ws, fun i w => ws[i]? = some w⟩ C
  | .cst _ ws => Q ⟨ws.length, fun _ => True, fun i w => ws[i]? = some w⟩ C
  | _ => False
def iLst (t : ME) : MI := fun E ρ Cs Q => t E ρ Cs fun x C => iOf x C Q
def iRgn (t : MA) : MI := fun E ρ Cs Q => t E ρ Cs fun xs C => ∃ j, xs = [.int j] ∧ (-4611686018427387904 ≤ j ∧ j < 4611686018427387904) ∧ Q ⟨j.toNat, fun _ => True, fun i w => w = .int (0 + i)⟩ C
def iRg2 (t : MA) : MI := fun E ρ Cs Q => t E ρ Cs fun xs C => ∃ i j, xs = [.int i, .int j] ∧ (-4611686018427387904 ≤ i ∧ i < 4611686018427387904 ∧ -4611686018427387904 ≤ j ∧ j < 4611686018427387904) ∧ Q ⟨(j - i).toNat, fun _ => True, fun n w => w = .int (i + n)⟩ C
def iEnu (t : MA) : MI := fun E ρ Cs Q => t E ρ Cs fun xs C => ∃ a ws, xs = [.ref a] ∧ LsAt a ws C ∧ Q ⟨ws.length, LsAt a ws, fun i w => ∃ u, ws[i]? = some u ∧ w = .tup [.int (i : Nat), u]⟩ C
theorem qi_lst {tg l : Expr} {tl : ME} (h : QE X l tl) : QI X tg l (iLst tl) := fun Wx tk => pi_imp (pi_list (h Wx tk)) fun σ H R' ⟨ρ, Cs, E, Q, R, C, h, kQ, kE⟩ => ⟨ρ, Cs, E, _, R, C, h, fun x C1 v H1 q tr rc rp => by
  unfold iOf at q
  split at q
  · obtain ⟨ws, ha, q⟩ := q
    obtain ⟨xs, hs, _⟩ := ha.get rc
    exact ⟨_, rep_ref.mp rp, ⟨xs, hs⟩, kQ _ C1 H1 _ q tr rc walk_l⟩
  · obtain ⟨e, xs, hs, rs⟩ := rep_cst.mp rp
    exact ⟨_, e, ⟨xs, hs.1⟩, kQ _ C1 H1 _ q tr rc (walk_k hs rs)⟩
  · exact q.elim, kE⟩
def iTpl (t : ME) : MI := fun E ρ Cs Q => t E ρ Cs fun x C => ∃ ws, x = .tup ws ∧ Q ⟨ws.length, fun _ => True, fun i w => ws[i]? = some w⟩ C
theorem qi_tpl {tg l : Expr} {tl : ME} (h : QE X l tl) : QI X tg l (iTpl tl) := fun Wx tk => pi_imp (pi_tup (h Wx tk)) fun σ H R' ⟨ρ, Cs, E, Q, R, C, h, kQ, kE⟩ => ⟨ρ, Cs, E, _, R, C, h, fun x C1 v H1 q tr rc rp => by
  obtain ⟨ws, rfl, q⟩ := q
  obtain ⟨a, xs, rfl, hs, rs⟩ := rep_tup.mp rp
  exact ⟨a, rfl, ⟨xs, hs⟩, kQ _ C1 H1 _ q tr rc (walk_t hs rs)⟩, kE⟩
theorem qi_range {tg : Expr} {ta : MA} (hg : Gl X "range") (hm : X.mg "range" = none) (ha : QA X [a] ta) (hs : starEach [a] X.env = [(false, eval a X.env)] := by rfl) : QI X tg (.Call (.Name "range" p) [a] [] pos) (iRgn ta) := fun Wx tk =>
  pi_imp (pi_range1 hg hm (ha Wx tk) hs) fun σ H R' ⟨ρ, Cs, E, Q, R, C, h, kQ, kE⟩ => ⟨ρ, Cs, E, _, R, C, h, fun xs C1 vs H1 q tr rc rp => by
    obtain ⟨i, rfl, ⟨hb1, hb2⟩, q⟩ := q
    obtain ⟨x, r, rfl, r1, r2⟩ := reps_cons.mp rp
    obtain rfl := reps_nil.mp r2
    obtain rfl := rep_int.mp r1
    exact ⟨i, rfl, hb1, hb2, kQ _ C1 H1 _ q tr rc walk_r⟩, kE⟩
theorem qi_range2 {tg : Expr} {ta : MA} (hg : Gl X "range") (hm : X.mg "range" = none) (ha : QA X [a, b] ta) (hs : starEach [a, b] X.env = [(false, eval a X.env), (false, eval b X.env)] := by rfl) (hs2 : starEach [b] X.env = [(false, eval b X.env)] := by rfl) : QI X tg (.Call (.Name "range" p) [a, b] [] pos) (iRg2 ta) := fun Wx tk =>
  pi_imp (pi_range2 hg hm (ha Wx tk) hs hs2) fun σ H R' ⟨ρ, Cs, E, Q, R, C, h, kQ, kE⟩ => ⟨ρ, Cs, E, _, R, C, h, fun xs C1 vs H1 q tr rc rp => by
    obtain ⟨i, j, rfl, hb, q⟩ := q
    obtain ⟨x, r, rfl, r1, r2⟩ := reps_cons.mp rp
    obtain ⟨y, r', rfl, r3, r4⟩ := reps_cons.mp r2
    obtain rfl := reps_nil.mp r4
    obtain rfl := rep_int.mp r1
    obtain rfl := rep_int.mp r3
    exact ⟨i, j, rfl, hb, kQ _ C1 H1 _ q tr rc walk_r⟩, kE⟩
theorem qi_enum {tpos : Pos} {elts : List Expr} {kk : Nat} {ta : MA} (hg : Gl X "enumerate") (hm : X.mg "enumerate" = none) (ha : QA X [e] ta) (hs : starEach [e] X.env = [(false, eval e X.env)] := by rfl) : QI X (.Tuple elts kk tpos) (.Call (.Name "enumerate" p) [e] [] pos) (iEnu ta) := fun Wx tk =>
  pi_imp (pi_enum hg hm (ha Wx tk) hs) fun σ H R' ⟨ρ, Cs, E, Q, R, C, h, kQ, kE⟩ => ⟨ρ, Cs, E, _, R, C, h, fun xs C1 vs H1 q tr rc rp => by
    obtain ⟨a, ws, rfl, ha, q⟩ := q
    obtain ⟨x, r, rfl, r1, r2⟩ := reps_cons.mp rp
    obtain rfl := reps_nil.mp r2
    obtain rfl := rep_ref.mp r1
    obtain ⟨xs, hs, _⟩ := ha.get rc
    exact ⟨a, xs, rfl, hs, kQ _ C1 H1 _ q tr rc walk_e⟩, kE⟩
end
end SL
namespace SL
open PySem PySem.Spec PyProof.Rows L2

/-! ### promises over trees -/
abbrev SpW := List W → Cells → WK → XW → Prop
def spOf (K : PySem.W.Frag) (sp : SpW) : Sp := fun vs H Q' E' => ∃ (ws : List W) (Cs : Cells) (Q : WK) (E : XW), reps K H ws vs ∧ RelC K H Cs ∧ sp ws Cs Q E ∧ Fin K H Q Q' ∧
  ∀ C w Cs' d v H', E C w Cs' → Tr K H H' → RelC K H' Cs' → rep K H' w v → XVal H' d v → E' (.ref C) d H'
def rho0 (ws : List W) : Rho := fun i => ws[i]?
def EndsD (Q : WK) (E : XW) : EndsW := { nx := fun _ C => ∃ C', Part C' C ∧ Q .non C', rt := fun w C => ∃ C', Part C' C ∧ Q w C', bk := fun _ _ => False, ct := fun _ _ => False, ex := fun A w _ C => ∃ C', Part C' C ∧ E A w C' }
/-- a call -/
def mCall (sp : SpW) (t : MA) : ME := fun E ρ Cs Q => t E ρ Cs fun ws C => sp ws C Q E
section
variable {P : Program} {w : World} {K : PySem.W.Frag} {mg : Str → Option Value} {base : Heap}
theorem start_get {N : List Str} {vs : List V} {i : Nat} {v : V} (h : vs[i]? = some v) : (L2.start N vs)[i]? = some (some v) := by
  have hi : i < vs.length := (List.getElem?_eq_some_iff.mp h).1
  unfold L2.start
  rw [List.getElem?_append_left (by rw [List.length_map]; exact hi), List.getElem?_map, h]
  rfl
/-- THE RULE for a def: its body's reading over trees -/
theorem okS {x qual : Str} {st : Stmt} {f : Addr} {fd : FuncData} {N ps : List Str} {k : Nat} {sp : SpW} {t : MS} (F : Fun K x qual st f fd) (S : FnScope N ps (defScope st)) (len : ∀ ws Cs Q E, sp ws Cs Q E → ws.length = ps.length)
    (der : ∀ (cdv : Value) (A : Around) (outer : List Env) (s : Shared) (H : Hp) (E : XK), Room k (A.deeper (envOfC qual (defScope st) s.heap.objs.size f cdv)) → A.guards = some [] →
      QSs (cxOf (L2.CX P w) P w K mg base N qual (defScope st) f cdv A outer s H E) (defBody st) t)
    (pure : ∀ ws Cs Q E, sp ws Cs Q E → t (EndsD Q E) (rho0 ws) Cs) : FnG P w K mg base (k + 1) f fd ps (spOf K sp) := by
  have lenV : ∀ vs H Q E, spOf K sp vs H Q E → vs.length = ps.length := fun vs H Q E ⟨ws, Cs, Q1, E1, r, rc, h, _⟩ => by rw [← reps_len r]; exact len ws Cs Q1 E1 h
  refine SL.Fun.okG F S lenV fun cdv A outer s H vs Q' E' hr hg h => ⟨_, der cdv A outer s H E' hr hg (fun cls d _ H => E' cls d H) (takes_of rfl rfl rfl rfl), ?_⟩
  have hl := lenV vs H Q' E' h
  obtain ⟨ws, Cs, Q, E, r, rc, h, kQ, kE⟩ := h
  have hps : ps.length ≤ N.length := by
    have e := congrArg List.length S.pre
    rw [List.length_take] at e
    omega
  refine ⟨rho0 ws, Cs, EndsD Q E, ⟨?_, fun i u e => ?_⟩, rc, pure ws Cs Q E h, ?_⟩
  · show (L2.start N vs).length = N.length
    unfold L2.start
    rw [List.length_append, List.length_map, List.length_replicate]
    omega
  · obtain ⟨v, h1, h2⟩ := reps_get r e
    exact ⟨v, start_get h1, h2⟩
  · refine ⟨fun ρ C σ H' q tr _ rc' => ?_, fun u C v H' q tr rc' rp => ?_, fun ρ C σ H' q => q.elim, fun ρ C σ H' q => q.elim, fun A u ρ C σ d v H' q tr _ rc' rp xv => ?_⟩
    · obtain ⟨C', hp, q⟩ := q
      exact kQ _ C' _ H' q tr (rc'.to hp) (rep_non.mpr rfl)
    · obtain ⟨C', hp, q⟩ := q
      exact kQ _ C' _ H' q tr (rc'.to hp) rp
    · obtain ⟨C', hp, q⟩ := q
      exact kE _ _ C' d v H' q tr (rc'.to hp) rp xv
end
section
variable {X : Cx} {a b c e : Expr} {es : List Expr} {ta tb tc : ME} {t u : MT} {pos p : Pos} {sp : SpW} {k : Nat} {f : Addr} {fd : FuncData} {ps : List Str} {x : Str} {tr : MA}
theorem liftCall {Wx : WX} {σ : L2.St} {H : Hp} {Q' : VK} (h : liftE X Wx (mCall sp tr) σ H Q') : tCallG (spOf X.K sp) Wx (liftA X Wx tr) σ H Q' := by
  obtain ⟨ρ, Cs, E, Q, R, C, h, kQ, kE⟩ := h
  exact ⟨ρ, Cs, E, _, R, C, h, fun ws C1 vs H1 q tr1 rc rp => ⟨ws, C1, Q, E, rp, rc, q, Fin.mono kQ tr1, fun A w C2 d v H2 e tr2 rc2 rp2 xv => kE.ex A w C2 d v H2 e (tr1.trans tr2) rc2 rp2 xv⟩, kE⟩
theorem qe_call (F : FnG X.prog X.w X.K X.mg X.base k f fd ps (spOf X.K sp)) (hr : Room k X.A) (hgu : X.A.guards = some []) (hm : X.mg x = some (.ref f)) (hk : PySem.W.keepIn X.K (.ref f) = true) (hb : Binds X.K fd ps []) (ha : QA X (e :: es) tr) (hg : Gl X x := by rfl)
    (hdb : (x == ("__debug__" : Str)) = false := by decide) (he : starEach (e :: es) X.env = (false, eval e X.env) :: starEach es X.env := by rfl) (hpl : (backTo pos (starEach es X.env)).any (·.1) = false := by rfl) :
    QE X (.Call (.Name x p) (e :: es) [] pos) (mCall sp tr) := fun Wx tk => pe_imp (pe_callG F hr hgu hg hm hk hb tk (ha Wx tk) hdb he hpl) fun _ _ _ h => liftCall h
theorem qe_call0 (F : FnG X.prog X.w X.K X.mg X.base k f fd ps (spOf X.K sp)) (hr : Room k X.A) (hgu : X.A.guards = some []) (hm : X.mg x = some (.ref f)) (hk : PySem.W.keepIn X.K (.ref f) = true) (hb : Binds X.K fd ps []) (hg : Gl X x := by rfl)
    (hdb : (x == ("__debug__" : Str)) = false := by decide) : QE X (.Call (.Name x p) [] [] pos) (mCall sp mNil) := fun Wx tk => pe_imp (pe_callG0 F hr hgu hg hm hk hb tk hdb) fun σ H Q' ⟨ρ, Cs, E, Q, R, C, h, kQ, kE⟩ =>
  ⟨[], Cs, Q, E, reps_nil.mpr rfl, C, h, kQ, fun A w C2 d v H2 e tr2 rc2 rp2 xv => kE.ex A w C2 d v H2 e tr2 rc2 rp2 xv⟩
/-! f(a, k = b): pm puts the positional and the named ones into the parameters' order -/
def QK (X : Cx) (kws : List Keyword) (t : MA) : Prop := ∀ Wx, Takes X Wx → PK X kws (liftA X Wx t)
theorem pk_imp {kws : List Keyword} {t t' : TA} (h : PK X kws t) (k : ∀ σ H Q, t' σ H Q → t σ H Q) : PK X kws t' := ⟨fun pos pins s σ H Q I q => h.run pos pins s σ H Q I (k σ H Q q)⟩
theorem qk_nil : QK X [] mNil := fun Wx _ => pk_imp pk_nil fun σ H Q' ⟨ρ, Cs, E, Q, R, C, h, kQ, kE⟩ => kQ [] Cs [] H h (Tr.refl H) C (reps_nil.mpr rfl)
theorem qk_cons {kws : List Keyword} {nm : Option Str} {kpos : Pos} {tr : MA} (ha : QE X e ta) (hr : QK X kws tr) : QK X (⟨nm, e, kpos⟩ :: kws) (mCons ta tr) := fun Wx tk => pk_imp (pk_cons (ha Wx tk) (hr Wx tk)) fun _ _ _ h => liftCons h
/-- the values of l at the places of o -/
def reord {α : Type} (o : List Nat) (l : List α) : List α := o.filterMap fun i => l[i]?
theorem reord_vals : ∀ (o : List Nat) {vs : List V} {us : List Value}, Vals vs us → Vals (reord o vs) (reord o us)
  | [], _, _, _ => .nil
  | i :: o, vs, us, r => by
    unfold reord
    cases h : vs[i]? with
    | none =>
      rw [List.filterMap_cons_none h, List.filterMap_cons_none (r.none_of h)]
      exact reord_vals o r
    | some x =>
      obtain ⟨u, hu, ru⟩ := r.get h
      rw [List.filterMap_cons_some h, List.filterMap_cons_some hu]
      exact .cons ru (reord_vals o r)
theorem reord_reps {K : PySem.W.Frag} {H : Hp} : ∀ (o : List Nat) {ws : List W} {vs : List V}, reps K H ws vs → reps K H (reord o ws) (reord o vs)
  | [], _, _, _ => reps_nil.mpr rfl
  | i :: o, ws, vs, r => by
    unfold reord
    cases h : ws[i]? with
    | none =>
      have h2 : vs[i]? = none := by
        cases h3 : vs[i]? with
        | none => rfl
        | some x =>
          obtain ⟨w, e, _⟩ := reps_get' r h3
          rw [h] at e
          cases e
      rw [List.filterMap_cons_none h, List.filterMap_cons_none h2]
      exact reord_reps o r
    | some x =>
      obtain ⟨u, hu, ru⟩ := reps_get r h
      rw [List.filterMap_cons_some h, List.filterMap_cons_some hu]
      exact reps_cc.mpr ⟨ru, reord_reps o r⟩
def KBd (fd : FuncData) (ps ks : List Str) (n m : Nat) (o : List Nat) : Prop := ∀ (s : Shared) (us ws : List Value), us.length = n → ws.length = m → BindsTo s fd ⟨us, ks.zip ws⟩ (ps.zip (reord o (us ++ ws)))
def mCallK (sp : SpW) (n m : Nat) (o : List Nat) (t tk : MA) : ME := fun E ρ Cs Q => t E ρ Cs fun ws C1 => tk E ρ C1 fun zs C2 => ws.length = n ∧ zs.length = m ∧ sp (reord o (ws ++ zs)) C2 Q E
def tCallGK (sp : Sp) (W : WX) (n m : Nat) (o : List Nat) (t tk : TA) : TE := fun σ H Q => t σ H fun vs H1 => tk σ H1 fun zs H2 => vs.length = n ∧ zs.length = m ∧ sp (reord o (vs ++ zs)) H2 Q (fun c d H' => W c d σ H')
theorem liftCallK {n m : Nat} {o : List Nat} {t2 : MA} {Wx : WX} {σ : L2.St} {H : Hp} {Q' : VK} (h : liftE X Wx (mCallK sp n m o tr t2) σ H Q') : tCallGK (spOf X.K sp) Wx n m o (liftA X Wx tr) (liftA X Wx t2) σ H Q' := by
  obtain ⟨ρ, Cs, E, Q, R, C, h, kQ, kE⟩ := h
  refine ⟨ρ, Cs, E, _, R, C, h, fun ws C1 vs H1 q tr1 rc rp => ⟨ρ, C1, E, _, R.mono tr1, rc, q, fun zs C2 us H2 q2 tr2 rc2 rp2 => ?_, kE.mono tr1⟩, kE⟩
  obtain ⟨h1, h2, q3⟩ := q2
  exact ⟨by rw [← reps_len rp]; exact h1, by rw [← reps_len rp2]; exact h2, _, C2, Q, E, reord_reps o (reps_app (reps_mono tr2 _ _ rp) rp2), rc2, q3, Fin.mono kQ (tr1.trans tr2), fun A w C3 d v H3 e tr3 rc3 rp3 xv => kE.ex A w C3 d v H3 e ((tr1.trans tr2).trans tr3) rc3 rp3 xv⟩
theorem run_callGK {sp : Sp} {ks : List Str} {W : WX} {n m : Nat} {o : List Nat} {pins : List (Addr × Obj)} {σ : L2.St} {H : Hp} {s : Shared} {Q : VK} {us ws : List Value} {vs zs : List V} (F : FnG X.prog X.w X.K X.mg X.base k f fd ps sp) (hr : Room k X.A) (hgu : X.A.guards = some []) (tk : Takes X W) (hb : KBd fd ps ks n m o)
    (I : Inv X pins σ H s) (r : Vals vs us) (rz : Vals zs ws) (h : vs.length = n ∧ zs.length = m ∧ sp (reord o (vs ++ zs)) H Q (fun c d H' => W c d σ H')) : wpAny (model X.prog X.w) X.A (call (.ref f) us (ks.zip ws)) (EP X pins σ Q) X.xe s := by
  obtain ⟨h1, h2, h3⟩ := h
  refine wpAny_call (codeAny_mono (run_fnG F hr hgu tk I (hb s us ws (by rw [← r.length]; exact h1) (by rw [← rz.length]; exact h2)) (reord_vals o (r.append rz)) h3) fun r s' hq => ?_)
  cases r with
  | error e => exact hq
  | ok fl =>
    cases fl with
    | ret u => exact hq
    | next => exact hq.elim
    | brk => exact hq.elim
    | cont => exact hq.elim
theorem qe_callK {ks : List Str} {n m : Nat} {o : List Nat} {kws : List Keyword} {t2 : MA} (F : FnG X.prog X.w X.K X.mg X.base k f fd ps (spOf X.K sp)) (hr : Room k X.A) (hgu : X.A.guards = some []) (hm : X.mg x = some (.ref f)) (hk : PySem.W.keepIn X.K (.ref f) = true) (hb : KBd fd ps ks n m o) (ha : QA X (e :: es) tr) (hkw : QK X kws t2) (hg : Gl X x := by rfl)
    (hall : (backToKw pos (keywordEach kws X.env)).all (·.1.isSome) = true := by rfl) (hks : (backToKw pos (keywordEach kws X.env)).filterMap (·.1) = ks := by rfl)
    (hdb : (x == ("__debug__" : Str)) = false := by decide) (he : starEach (e :: es) X.env = (false, eval e X.env) :: starEach es X.env := by rfl)
    (hpl : ((backTo pos (starEach (e :: es) X.env)).any (·.1) || (backToKw pos (keywordEach kws X.env)).any (·.1.isNone)) = false := by rfl) :
    QE X (.Call (.Name x p) (e :: es) kws pos) (mCallK sp n m o tr t2) := fun Wx tk => pe_imp (t := tCallGK (spOf X.K sp) Wx n m o (liftA X Wx tr) (liftA X Wx t2)) ⟨fun pins s σ H Q I h => wpAny_Call_Name_kw (ld_glob I hg hm (PySem.W.callWith_KW (h₀ := X.base) I.ok.mod.kin hk hall (thn ((ha Wx tk).run pos pins s σ H _ I h) fun us s1 ⟨vs, H1, I1, r, q⟩ =>
      thn ((hkw Wx tk).run pos pins s1 σ H1 _ I1 q) fun ws s2 ⟨zs, H2, I2, rz, q2⟩ => ⟨I2.kIn, by
        rw [hks]
        refine run_callGK F hr hgu tk hb I2 r rz q2⟩) hpl he) hdb)⟩ fun _ _ _ h => liftCallK h
theorem qe_callK0 {ks : List Str} {m : Nat} {o : List Nat} {kws : List Keyword} {t2 : MA} (F : FnG X.prog X.w X.K X.mg X.base k f fd ps (spOf X.K sp)) (hr : Room k X.A) (hgu : X.A.guards = some []) (hm : X.mg x = some (.ref f)) (hk : PySem.W.keepIn X.K (.ref f) = true) (hb : KBd fd ps ks 0 m o) (hkw : QK X kws t2) (hg : Gl X x := by rfl)
    (hall : (backToKw pos (keywordEach kws X.env)).all (·.1.isSome) = true := by rfl) (hks : (backToKw pos (keywordEach kws X.env)).filterMap (·.1) = ks := by rfl)
    (hdb : (x == ("__debug__" : Str)) = false := by decide)
    (hpl : ((backTo pos (starEach [] X.env)).any (·.1) || (backToKw pos (keywordEach kws X.env)).any (·.1.isNone)) = false := by rfl) :
    QE X (.Call (.Name x p) [] kws pos) (mCallK sp 0 m o mNil t2) := fun Wx tk => pe_imp (t := tCallGK (spOf X.K sp) Wx 0 m o (liftA X Wx mNil) (liftA X Wx t2)) ⟨fun pins s σ H Q I h => wpAny_Call_Name_kw (ld_glob I hg hm (PySem.W.callWith_KW0 (h₀ := X.base) I.ok.mod.kin hk hall (by
      obtain ⟨ρ, Cs, E, Q0, R, C, h, kQ, kE⟩ := h
      have h' := kQ [] Cs [] H h (Tr.refl H) C (reps_nil.mpr rfl)
      exact thn ((hkw Wx tk).run pos pins s σ H _ I h') fun ws s2 ⟨zs, H2, I2, rz, q2⟩ => ⟨I2.kIn, by
        rw [hks]
        exact run_callGK (us := []) F hr hgu tk hb I2 .nil rz q2⟩) hpl) hdb)⟩ fun _ _ _ h => liftCallK h
end

/-! ### [elt for target in iter if ..] -/
def Rho.wipe (ρ : Rho) (vs : List Nat) : Rho := fun i => if i ∈ vs then none else ρ i
abbrev X0 : XW := fun _ _ _ => False
/-- the new list stands at D, with acc so far; Pv by the turn, the list so far and the world without it -/
def mLc (mi : MI) (g : MG) (tt : MT) (te : ME) (vs : List Nat) : ME := fun E ρ Cs Q => mi E ρ Cs fun k C1 => ∀ D, ∃ Pv : Nat → List W → Cells → Prop, Pv 0 [] C1 ∧ (∀ i acc C', i ≤ k.n → Pv i acc C' → k.keep C') ∧
  (∀ i w acc C', i < k.n → k.it i w → Pv i acc C' → g (ρ.wipe vs) w ((D, .lst acc) :: C') fun ρ2 C2 => tt X0 ρ2 C2 fun b C3 =>
    (b = true → te X0 ρ2 C3 fun y C4 => acc.length < 100000 ∧ ∃ C5, Part ((D, .lst acc) :: C5) C4 ∧ Pv (i + 1) (acc ++ [y]) C5) ∧ (b = false → ∃ C5, Part ((D, .lst acc) :: C5) C3 ∧ Pv (i + 1) acc C5)) ∧
  (∀ acc C', Pv k.n acc C' → Q (.ref D) ((D, .lst acc) :: C'))
def mYes : MT := fun _ _ Cs Q => Q true Cs
theorem wipe_get (σ : L2.St) (i : Nat) : ∀ vs : List Nat, (L2.wipe σ vs)[i]? = if i ∈ vs then (if i < σ.length then some none else none) else σ[i]?
  | [] => by rw [if_neg (by simp)]; rfl
  | v :: vs => by
    unfold L2.wipe
    by_cases h : v = i
    · subst h
      rw [if_pos (by simp)]
      by_cases hl : v < σ.length
      · rw [if_pos hl, List.getElem?_set_self (by rw [L2.wipe_length]; exact hl)]
      · rw [if_neg hl, List.getElem?_eq_none]
        rw [List.length_set, L2.wipe_length]
        omega
    · rw [List.getElem?_set_ne h, wipe_get σ i vs]
      have e : i ∈ v :: vs ↔ i ∈ vs := by
        rw [List.mem_cons]
        exact ⟨fun q => q.elim (fun z => absurd z.symm h) id, .inr⟩
      by_cases hm : i ∈ vs
      · rw [if_pos hm, if_pos (e.mpr hm)]
      · rw [if_neg hm, if_neg (fun z => hm (e.mp z))]
theorem wipe_off {σ σ' : L2.St} {js vs : List Nat} (h : Off js (L2.wipe σ vs) σ') (hs : ∀ j ∈ js, j ∈ vs) : L2.wipe σ' vs = L2.wipe σ vs := by
  refine List.ext_getElem? fun i => ?_
  rw [wipe_get, wipe_get]
  have hl : σ'.length = σ.length := by rw [h.1, L2.wipe_length]
  by_cases hi : i ∈ vs
  · rw [if_pos hi, if_pos hi, hl]
  · rw [if_neg hi, if_neg hi, h.2 i fun z => hi (hs i z), wipe_get, if_neg hi]
theorem RelS.wipe {K : PySem.W.Frag} {n : Nat} {H : Hp} {σ : L2.St} {ρ : Rho} (R : RelS K n H σ ρ) (vs : List Nat) : RelS K n H (L2.wipe σ vs) (ρ.wipe vs) := ⟨by rw [L2.wipe_length]; exact R.len, fun i w e => by
  unfold Rho.wipe at e
  by_cases hi : i ∈ vs
  · rw [if_pos hi] at e
    cases e
  · rw [if_neg hi] at e
    obtain ⟨v, h1, h2⟩ := R.at_ i w e
    exact ⟨v, by rw [wipe_get, if_neg hi]; exact h1, h2⟩⟩
section
variable {X : Cx} {ta te : ME} {pos p : Pos}
def QTs (X : Cx) (es : List Expr) (t : MT) : Prop := ∀ Wx, Takes X Wx → PTs X es (liftT X Wx t)
theorem pts_imp {es : List Expr} {t t' : TT} (h : PTs X es t) (k : ∀ σ H Q, t' σ H Q → t σ H Q) : PTs X es t' := ⟨fun pins s σ H Q I q => h.run pins s σ H Q I (k σ H Q q)⟩
theorem qts_nil : QTs X [] mYes := fun Wx _ => pts_imp pts_nil fun σ H Q' ⟨ρ, Cs, E, Q, R, C, h, kQ, kE⟩ => kQ true Cs H h (Tr.refl H) C
theorem qts_one {c : Expr} {t : MT} (h : QT X c t) : QTs X [c] t := fun Wx tk => pts_one (h Wx tk)
theorem X0.lnk {K : PySem.W.Frag} {n : Nat} {Wx : WX} {σ : L2.St} {H : Hp} : LnkX K n Wx σ H X0 := ⟨fun _ _ _ _ _ _ e => e.elim⟩
theorem lift_lc {js vs : List Nat} {mi : MI} {g : MG} {tt : MT} (hj : ∀ j ∈ js, j ∈ vs) {Xb : Cx} (hK : Xb.K = X.K) (hN : Xb.N = X.N) {Wx : WX} {σ : L2.St} {H : Hp} {Q' : VK} (h : liftE X Wx (mLc mi g tt te vs) σ H Q') :
    tLc (liftI X Wx mi) (liftG Xb js g) (liftT Xb (fun _ _ _ _ => False) tt) (liftE Xb (fun _ _ _ _ => False) te) vs σ H Q' := by
  obtain ⟨ρ, Cs, E, Q, R, C, h, kQ, kE⟩ := h
  refine ⟨ρ, Cs, E, _, R, C, h, fun k C1 H1 J q tr1 rc1 wk D hD => ?_, kE⟩
  obtain ⟨Pv, h0, hk, ht, hd⟩ := q D
  have trD : Tr X.K H1 (upd H1 D (.lst [])) := tr_new hD
  refine ⟨fun i m H' => m = k.n - i ∧ i ≤ k.n ∧ ∃ acc C', RelC X.K H' ((D, .lst acc) :: C') ∧ Pv i acc C' ∧ Tr X.K H1 H', ⟨_, rfl, Nat.zero_le _, [], C1, rc1.new hD ⟨[], upd_same, reps_nil.mpr rfl⟩, h0, trD⟩, ?_⟩
  rintro i m H' ⟨rfl, hin, acc, C', rc', p, trJ⟩
  have kp := hk i acc C' hin p
  have rcC : RelC X.K H' C' := rc'.sub (List.sublist_cons_self _ _)
  by_cases hlt : i < k.n
  · refine .inr ⟨wk.goes i H' C' trJ hlt rcC kp, fun H2 => ∃ acc' C2, RelC X.K H2 ((D, .lst acc') :: C2) ∧ Pv (i + 1) acc' C2 ∧ Tr X.K H1 H2, fun H2 ⟨acc', C2, z⟩ => ⟨k.n - (i + 1), by omega, rfl, hlt, acc', C2, z⟩, fun x H2 y => ?_⟩
    obtain ⟨tr2, rcs, w, hw, rw2⟩ := wk.yields i H' x H2 C' trJ hlt rcC kp y
    have rcD := rcs _ rc'
    have tr12 := trJ.trans tr2
    have Rw : RelS Xb.K Xb.N.length H2 (L2.wipe σ vs) (ρ.wipe vs) := by
      rw [hK, hN]
      exact (R.mono (tr1.trans tr12)).wipe vs
    refine ⟨ρ.wipe vs, w, (D, .lst acc) :: C', _, Rw, by rw [hK]; exact rcD, by rw [hK]; exact rw2, ht i w acc C' hlt hw p, fun ρ3 C3 σ3 H3 q3 tr3 R3 rc3 of3 => ⟨wipe_off of3 hj, ρ3, C3, _, _, R3, rc3, q3, fun b C4 H4 ⟨q4, q5⟩ tr4 rc4 => ?_, X0.lnk⟩⟩
    have tr14 : Tr X.K H1 H4 := by
      rw [hK] at tr3 tr4
      exact (tr12.trans tr3).trans tr4
    cases b with
    | true =>
      refine iteT ?_
      refine ⟨ρ3, C4, _, _, R3.mono tr4, rc4, q4 rfl, fun y C5 vy H5 q6 tr5 rc5 ry => ?_, X0.lnk⟩
      obtain ⟨hz, C6, hp, q6⟩ := q6
      rw [hK] at tr5 rc5 ry
      have rc6 := rc5.to hp
      obtain ⟨xs, e1, e2⟩ := rc6.mem List.mem_cons_self
      have rl := reps_len e2
      have trw : Tr X.K H5 (upd H5 D (.lst (xs ++ [vy]))) := rc6.tr_write
      exact ⟨xs, e1, Nat.lt_of_lt_of_le (by rw [← rl]; exact hz) (by decide), acc ++ [y], C6, rc6.write ⟨_, upd_same, reps_mono trw _ _ (reps_app e2 (reps_cc.mpr ⟨ry, reps_nil.mpr rfl⟩))⟩, q6, (tr14.trans tr5).trans trw⟩
    | false =>
      refine iteF ?_
      obtain ⟨C6, hp, q6⟩ := q5 rfl
      rw [hK] at rc4
      exact ⟨acc, C6, rc4.to hp, q6, tr14⟩
  · have e : i = k.n := by omega
    subst e
    exact .inl ⟨wk.stops H' C' trJ rcC kp, kQ _ _ _ H' (hd acc C' p) (tr1.trans trJ) rc' (rep_ref.mpr rfl)⟩
theorem qe_lc {js : List Nat} {elt tg iter : Expr} {ifs : List Expr} {scope : Scope} (own : List (Str × Nat)) {mi : MI} {g : MG} {tt : MT} (hc : X.calm = true) (hN : X.N.Nodup) (hi : QI X tg iter mi) (ok : BlkOk X.N X.env.scope scope own)
    (hg : ∀ (s : Shared) (H : Hp) (C : Addr) (cl : List (Str × Addr)) (fp : List Addr), QG (X.blk s H scope (compEnvC scope cl C X.env) fp) js tg g) (ht : ∀ (s : Shared) (H : Hp) (C : Addr) (cl : List (Str × Addr)) (fp : List Addr), QTs (X.blk s H scope (compEnvC scope cl C X.env) fp) ifs tt)
    (he : ∀ (s : Shared) (H : Hp) (C : Addr) (cl : List (Str × Addr)) (fp : List Addr), QE (X.blk s H scope (compEnvC scope cl C X.env) fp) elt te) (hj : ∀ j ∈ js, j ∈ own.map (·.2) := by decide) (hs : ∀ x, foldedSetIterable iter X.env x = pure x := by intro _; rfl) :
    QE X (.ListComp elt [⟨tg, iter, ifs, 0⟩] scope pos) (mLc mi g tt te (own.map (·.2))) := fun Wx tk => by
  refine pe_imp (pe_lc (wi := liftI X Wx mi) (g := liftG X js g) (tt := liftT X (fun _ _ _ _ => False) tt) (te := liftE X (fun _ _ _ _ => False) te) hc hN (hi Wx tk) ok (fun s H C cl fp => hg s H C cl fp) (fun s H C cl fp => ht s H C cl fp _ takes0) (fun s H C cl fp => he s H C cl fp _ takes0) hs) fun σ H Q' h => ?_
  exact lift_lc hj rfl rfl h
/-- name = [..], where the block's list is stored within the comprehension's frame -/
theorem qs_setLc (i : Nat) {js : List Nat} {y : Str} {py : Pos} {elt tg iter : Expr} {ifs : List Expr} {scope : Scope} (own : List (Str × Nat)) {spos : Pos} {mi : MI} {g : MG} {tt : MT} (hc : X.calm = true) (hN : X.N.Nodup)
    (hsw : swapsWith (.ListComp elt [⟨tg, iter, ifs, 0⟩] scope pos) (some (.Name y py)) spos.line X.env = pure true) (hi : QI X tg iter mi) (ok : BlkOk X.N X.env.scope scope own)
    (hg : ∀ (s : Shared) (H : Hp) (C : Addr) (cl : List (Str × Addr)) (fp : List Addr), QG (X.blk s H scope (compEnvC scope cl C X.env) fp) js tg g) (ht : ∀ (s : Shared) (H : Hp) (C : Addr) (cl : List (Str × Addr)) (fp : List Addr), QTs (X.blk s H scope (compEnvC scope cl C X.env) fp) ifs tt)
    (he : ∀ (s : Shared) (H : Hp) (C : Addr) (cl : List (Str × Addr)) (fp : List Addr), QE (X.blk s H scope (compEnvC scope cl C X.env) fp) elt te) (hy : X.N[i]? = some y := by rfl) (hyl : X.env.scope.names.lookup y = some .local := by rfl) (hj : ∀ j ∈ js, j ∈ own.map (·.2) := by decide) (hs : ∀ x, foldedSetIterable iter X.env x = pure x := by intro _; rfl) :
    QS X (.Assign [.Name y py] (.ListComp elt [⟨tg, iter, ifs, 0⟩] scope pos) spos) (sAsg (mLc mi g tt te (own.map (·.2))) (gSet i)) := fun Wx tk => by
  refine ps_imp (ps_setLc (wi := liftI X Wx mi) (g := liftG X js g) (tt := liftT X (fun _ _ _ _ => False) tt) (te := liftE X (fun _ _ _ _ => False) te) hc hN hy hyl hsw (hi Wx tk) ok (fun s H C cl fp => hg s H C cl fp) (fun s H C cl fp => ht s H C cl fp _ takes0) (fun s H C cl fp => he s H C cl fp _ takes0) hs) fun D σ H ⟨ρ, Cs, DW, R, C, h, L⟩ => ?_
  exact lift_lc (Q' := fun x H1 => gName i x σ H1 D.nx) hj rfl rfl ⟨ρ, Cs, _, _, R, C, h, fun w C1 v H1 q tr rc rp => L.nx _ C1 _ H1 q tr ((R.mono tr).set (List.getElem?_eq_some_iff.mp hy).1 rp) rc, L.lnkX R⟩
end
end SL
namespace SL
open PySem PySem.Spec PyProof.Rows L2

/-! ### whole numbers -/
def qI2 (C : Int → Int → Prop) (g : Int → Int → W) : RW2 := fun x y Cs Q => ∃ i j, x = .int i ∧ y = .int j ∧ C i j ∧ Q (g i j) Cs
def qI (g : Int → Int → W) : RW2 := fun x y Cs Q => ∃ i j, x = .int i ∧ y = .int j ∧ Q (g i j) Cs
def CMulA (i j : Int) : Prop := CMul i j ∨ CMulW i j
def CPowA (i j : Int) : Prop := 0 ≤ j ∧ (Builtin.Int.intBits i : Int) * j ≤ 2 ^ 27
abbrev qAdd : RW2 := qI fun i j => .int (i + j)
abbrev qSub : RW2 := qI fun i j => .int (i - j)
abbrev qMul : RW2 := qI2 CMulA fun i j => .int (i * j)
abbrev qMod : RW2 := qI2 (fun _ j => 0 < j) fun i j => .int (i % j)
abbrev qFdiv : RW2 := qI2 (fun _ j => 0 < j ∧ j.natAbs.log2 < 9000) fun i j => .int (i / j)
abbrev qPow : RW2 := qI2 CPowA fun i j => .int (i ^ j.toNat)
abbrev qLt : RW2 := qI fun i j => .bl (decide (i < j))
abbrev qLe : RW2 := qI fun i j => .bl (decide (i ≤ j))
abbrev qGt : RW2 := qI fun i j => .bl (decide (j < i))
abbrev qGe : RW2 := qI fun i j => .bl (decide (j ≤ i))
section
variable {K : PySem.W.Frag} {X : Cx}
theorem lk_I0 {g : Int → Int → V} {g' : Int → Int → W} (h : ∀ H i j, rep K H (g' i j) (g i j)) : Lk2 K (rI0 g) (qI g') := fun x y vx vy H Cs Q Q' ⟨i, j, e1, e2, q⟩ rc rx ry k => by
  subst e1 e2
  exact ⟨i, j, rep_int.mp rx, rep_int.mp ry, k.here q rc (h H i j)⟩
theorem lk_I {C C' : Int → Int → Prop} {g : Int → Int → V} {g' : Int → Int → W} (hc : ∀ i j, C' i j → C i j) (h : ∀ H i j, rep K H (g' i j) (g i j)) : Lk2 K (rI C g) (qI2 C' g') := fun x y vx vy H Cs Q Q' ⟨i, j, e1, e2, c, q⟩ rc rx ry k => by
  subst e1 e2
  exact ⟨i, j, rep_int.mp rx, rep_int.mp ry, hc i j c, k.here q rc (h H i j)⟩
theorem lk_add : Lk2 K (rI0 fun i j => .int (i + j)) qAdd := lk_I0 fun _ _ _ => rep_int.mpr rfl
theorem lk_sub : Lk2 K (rI0 fun i j => .int (i - j)) qSub := lk_I0 fun _ _ _ => rep_int.mpr rfl
theorem op_mulA : OpR X (binaryOp .Mult) (rI CMulA fun i j => .int (i * j)) := fun pins s σ H x y v u Q I r1 r2 ⟨i, j, e1, e2, c, q⟩ => by
  rcases c with c | c
  · exact op_mul pins s σ H x y v u Q I r1 r2 ⟨i, j, e1, e2, c, q⟩
  · exact op_mulW pins s σ H x y v u Q I r1 r2 ⟨i, j, e1, e2, c, q⟩
theorem lk_mul : Lk2 K (rI CMulA fun i j => .int (i * j)) qMul := lk_I (fun _ _ h => h) fun _ _ _ => rep_int.mpr rfl
theorem lk_mod : Lk2 K (rI (fun _ j => 0 < j) fun i j => .int (i % j)) qMod := lk_I (fun _ _ h => h) fun _ _ _ => rep_int.mpr rfl
theorem lk_fdiv : Lk2 K (rI CDivW fun i j => .int (i / j)) qFdiv := lk_I (fun _ _ h => h) fun _ _ _ => rep_int.mpr rfl
theorem op_powA : OpR X (binaryOp .Pow) (rI CPowA fun i j => .int (i ^ j.toNat)) := opI fun _ _ _ _ _ _ _ hc q => pow_int hc.1 hc.2 q
theorem lk_pow : Lk2 K (rI CPowA fun i j => .int (i ^ j.toNat)) qPow := lk_I (fun _ _ h => h) fun _ _ _ => rep_int.mpr rfl
theorem lk_lt : Lk2 K (rI0 fun i j => .bl (decide (i < j))) qLt := lk_I0 fun _ _ _ => rep_bl.mpr rfl
theorem lk_le : Lk2 K (rI0 fun i j => .bl (decide (i ≤ j))) qLe := lk_I0 fun _ _ _ => rep_bl.mpr rfl
theorem lk_gt : Lk2 K (rI0 fun i j => .bl (decide (j < i))) qGt := lk_I0 fun _ _ _ => rep_bl.mpr rfl
theorem lk_ge : Lk2 K (rI0 fun i j => .bl (decide (j ≤ i))) qGe := lk_I0 fun _ _ _ => rep_bl.mpr rfl
def qNeg : RW1 := fun x Cs Q => ∃ i, x = .int i ∧ Q (.int (-i)) Cs
theorem lk_neg : Lk1 K (rU fun i => .int (-i)) qNeg := fun x vx H Cs Q Q' ⟨i, e, q⟩ rc rx k => by
  subst e
  exact ⟨i, rep_int.mp rx, k.here q rc (rep_int.mpr rfl)⟩
theorem lk_aadd : Lk2 K (ipI fun i j => i + j) qAdd := fun x y vx vy H Cs Q Q' ⟨i, j, e1, e2, q⟩ rc rx ry k => by
  subst e1 e2
  exact ⟨i, j, rep_int.mp rx, rep_int.mp ry, k.here q rc (rep_int.mpr rfl)⟩
theorem lk_asub : Lk2 K (ipI fun i j => i - j) qSub := fun x y vx vy H Cs Q Q' ⟨i, j, e1, e2, q⟩ rc rx ry k => by
  subst e1 e2
  exact ⟨i, j, rep_int.mp rx, rep_int.mp ry, k.here q rc (rep_int.mpr rfl)⟩

/-! ### equality of scalars, None -/
/-- == of two plain things, where the answer is told by their kinds -/
def seq : W → W → Option Bool
  | .int i, .int j => some (decide (i = j))
  | .str i, .str j => some (decide (i = j))
  | .bl i, .bl j => some (decide (i = j))
  | .non, .non => some true
  | .non, .int _ => some false
  | .int _, .non => some false
  | .non, .str _ => some false
  | .str _, .non => some false
  | .non, .bl _ => some false
  | .bl _, .non => some false
  | .int _, .str _ => some false
  | .str _, .int _ => some false
  | .bl _, .str _ => some false
  | .str _, .bl _ => some false
  | _, _ => none
theorem seq_ok {H : Hp} {x y : W} {vx vy : V} {b : Bool} (h : seq x y = some b) (rx : rep K H x vx) (ry : rep K H y vy) : scal vx vy = true ∧ decide (vx = vy) = b := by
  unfold seq at h
  split at h
  all_goals first | (cases h; done) | skip
  all_goals (injection h with h; subst h)
  all_goals (simp only [rep] at rx ry; subst rx ry)
  all_goals exact ⟨rfl, by simp⟩
def qEq : RW2 := fun x y Cs Q => ∃ b, seq x y = some b ∧ Q (.bl b) Cs
def qNe : RW2 := fun x y Cs Q => ∃ b, seq x y = some b ∧ Q (.bl (!b)) Cs
theorem lk_eq : Lk2 K rEq qEq := fun x y vx vy H Cs Q Q' ⟨b, e, q⟩ rc rx ry k => by
  obtain ⟨h1, h2⟩ := seq_ok e rx ry
  refine ⟨h1, ?_⟩
  rw [h2]
  exact k.here q rc (rep_bl.mpr rfl)
theorem lk_ne : Lk2 K rNe qNe := fun x y vx vy H Cs Q Q' ⟨b, e, q⟩ rc rx ry k => by
  obtain ⟨h1, h2⟩ := seq_ok e rx ry
  refine ⟨h1, ?_⟩
  rw [h2]
  exact k.here q rc (rep_bl.mpr rfl)
def isNon : W → Bool
  | .non => true
  | _ => false
theorem isNon_ok {H : Hp} {x : W} {vx : V} (rx : rep K H x vx) : decide (vx = V.non) = isNon x := by
  cases x with
  | tup ws => obtain ⟨t, xs, rfl, _⟩ := rep_tup.mp rx; rfl
  | cst a ws => obtain ⟨rfl, _⟩ := rep_cst.mp rx; rfl
  | _ => simp only [rep] at rx; subst rx; rfl
def qIsN : RW2 := fun x y Cs Q => y = .non ∧ Q (.bl (isNon x)) Cs
def qNotN : RW2 := fun x y Cs Q => y = .non ∧ Q (.bl (!isNon x)) Cs
theorem lk_isN : Lk2 K (fun x y H Q => y = .non ∧ Q (.bl (decide (x = .non))) H) qIsN := fun x y vx vy H Cs Q Q' ⟨e, q⟩ rc rx ry k => by
  subst e
  refine ⟨rep_non.mp ry, ?_⟩
  rw [isNon_ok rx]
  exact k.here q rc (rep_bl.mpr rfl)
theorem lk_notN : Lk2 K (fun x y H Q => y = .non ∧ Q (.bl (!decide (x = .non))) H) qNotN := fun x y vx vy H Cs Q Q' ⟨e, q⟩ rc rx ry k => by
  subst e
  refine ⟨rep_non.mp ry, ?_⟩
  rw [isNon_ok rx]
  exact k.here q rc (rep_bl.mpr rfl)

/-! ### places -/
/-- the i-th of a list, from either end -/
def nth {α : Type} (ws : List α) (i : Int) : Option α := if 0 ≤ i then ws[i.toNat]? else if -(ws.length : Int) ≤ i then ws[(i + ws.length).toNat]? else none
theorem nth_at {H : Hp} {ws : List W} {xs : List V} {i : Int} {w : W} (r : reps K H ws xs) (h : nth ws i = some w) : ∃ x, atI xs i = some x ∧ rep K H w x := by
  have hl := reps_len r
  unfold nth at h
  unfold atI ixN
  by_cases h0 : 0 ≤ i
  · rw [if_pos h0] at h ⊢
    obtain ⟨x, h1, h2⟩ := reps_get r h
    have hb : i < (xs.length : Int) := by
      have := (List.getElem?_eq_some_iff.mp h1).1
      omega
    rw [if_pos hb]
    exact ⟨x, h1, h2⟩
  · rw [if_neg h0] at h ⊢
    by_cases h1 : -(ws.length : Int) ≤ i
    · rw [if_pos h1] at h
      rw [if_pos (by rw [← hl]; exact h1)]
      rw [hl] at h
      exact reps_get r h
    · rw [if_neg h1] at h
      cases h
def qIxT : RW2 := fun x y Cs Q => ∃ ws i w, x = .tup ws ∧ y = .int i ∧ nth ws i = some w ∧ Q w Cs
def qIxL : RW2 := fun x y Cs Q => ∃ a ws i w, x = .ref a ∧ y = .int i ∧ LsAt a ws Cs ∧ nth ws i = some w ∧ Q w Cs
theorem lk_ixT : Lk2 K (rIxT K) qIxT := fun x y vx vy H Cs Q Q' ⟨ws, i, w, e1, e2, e3, q⟩ rc rx ry k => by
  subst e1 e2
  obtain ⟨t, xs, rfl, h1, h2⟩ := rep_tup.mp rx
  obtain ⟨v, h3, h4⟩ := nth_at h2 e3
  exact ⟨t, xs, i, v, rfl, rep_int.mp ry, h1, h3, k.here q rc h4⟩
theorem lk_ixL : Lk2 K (rIxL K) qIxL := fun x y vx vy H Cs Q Q' ⟨a, ws, i, w, e1, e2, hl, e3, q⟩ rc rx ry k => by
  subst e1 e2
  obtain ⟨xs, h1, h2⟩ := hl.get rc
  obtain ⟨v, h3, h4⟩ := nth_at h2 e3
  exact ⟨a, xs, i, v, rep_ref.mp rx, rep_int.mp ry, h1, h3, k.here q rc h4⟩
/-- xs[i] = v -/
def qSetL : RSet := fun o i v Cs Q => ∃ a j ws Ds, o = .ref a ∧ i = .int j ∧ Cs.Perm ((a, .lst ws) :: Ds) ∧ 0 ≤ j ∧ j < ws.length ∧ Q ((a, .lst (ws.set j.toNat v)) :: Ds)
theorem lk_setL : LkSet K rSetL qSetL := fun o i v vo vi vv H Cs Q Q' ⟨a, j, ws, Ds, e1, e2, hp, h0, h1, q⟩ rc ro ri rv k => by
  subst e1 e2
  have rc' := rc.perm hp
  obtain ⟨xs, e3, r⟩ := rc'.mem List.mem_cons_self
  have hl := reps_len r
  have trw : Tr K H (upd H a (.lst (xs.set j.toNat vv))) := rc'.tr_write
  refine ⟨a, xs, j, j.toNat, rep_ref.mp ro, rep_int.mp ri, e3, ?_, k _ _ q trw (rc'.write ⟨_, upd_same, reps_mono trw _ _ (reps_set _ r rv)⟩)⟩
  unfold ixN
  rw [if_pos h0, if_pos (by rw [← hl]; exact h1)]

/-! ### in a tuple, in a list -/
def flatW : W → Bool
  | .non => true
  | .bl _ => true
  | .int _ => true
  | .str _ => true
  | _ => false
def weq : W → W → Bool
  | .non, .non => true
  | .bl a, .bl b => a == b
  | .bl a, .int b => (if a then 1 else 0) == b
  | .int a, .bl b => a == (if b then 1 else 0)
  | .int a, .int b => a == b
  | .str a, .str b => a == b
  | _, _ => false
def win (x : W) (ws : List W) : Bool := ws.any fun y => weq y x
theorem flat_ok {H : Hp} {x : W} {vx : V} (f : flatW x = true) (rx : rep K H x vx) : flatV vx = true := by
  cases x <;> first | (cases f; done) | (simp only [rep] at rx; subst rx; rfl)
theorem weq_ok {H : Hp} {x y : W} {vx vy : V} (fx : flatW x = true) (fy : flatW y = true) (rx : rep K H x vx) (ry : rep K H y vy) : eqV vy vx = weq y x := by
  cases x <;> cases y <;> first | (cases fx; done) | (cases fy; done) | (simp only [rep] at rx ry; subst rx ry; rfl)
theorem win_ok {H : Hp} {x : W} {vx : V} (fx : flatW x = true) (rx : rep K H x vx) : ∀ {ws : List W} {xs : List V}, ws.all flatW = true → reps K H ws xs → xs.all flatV = true ∧ inV vx xs = win x ws
  | [], xs, _, r => by rw [reps_nil.mp r]; exact ⟨rfl, rfl⟩
  | w :: ws, xs, f, r => by
    obtain ⟨v, vs, rfl, r1, r2⟩ := reps_cons.mp r
    rw [List.all_cons, Bool.and_eq_true] at f
    obtain ⟨h1, h2⟩ := win_ok fx rx f.2 r2
    refine ⟨by rw [List.all_cons, flat_ok f.1 r1, h1]; rfl, ?_⟩
    unfold inV win at h2 ⊢
    rw [List.any_cons, List.any_cons, weq_ok fx f.1 rx r1, h2]
def qInT (neg : Bool) : RW2 := fun x y Cs Q => ∃ ws, y = .tup ws ∧ flatW x = true ∧ ws.all flatW = true ∧ Q (.bl (if neg then !win x ws else win x ws)) Cs
def qInL (neg : Bool) : RW2 := fun x y Cs Q => ∃ a ws, y = .ref a ∧ LsAt a ws Cs ∧ flatW x = true ∧ ws.all flatW = true ∧ Q (.bl (if neg then !win x ws else win x ws)) Cs
theorem lk_inT {neg : Bool} : Lk2 K (rIn K neg) (qInT neg) := fun x y vx vy H Cs Q Q' ⟨ws, e, fx, fw, q⟩ rc rx ry k => by
  subst e
  obtain ⟨t, xs, rfl, h1, h2⟩ := rep_tup.mp ry
  obtain ⟨h3, h4⟩ := win_ok fx rx fw h2
  refine ⟨t, xs, rfl, .inr h1, flat_ok fx rx, h3, ?_⟩
  rw [h4]
  exact k.here q rc (rep_bl.mpr rfl)
theorem lk_inL {neg : Bool} : Lk2 K (rIn K neg) (qInL neg) := fun x y vx vy H Cs Q Q' ⟨a, ws, e, hl, fx, fw, q⟩ rc rx ry k => by
  subst e
  obtain ⟨xs, h1, h2⟩ := hl.get rc
  obtain ⟨h3, h4⟩ := win_ok fx rx fw h2
  refine ⟨a, xs, rep_ref.mp ry, .inl h1, flat_ok fx rx, h3, ?_⟩
  rw [h4]
  exact k.here q rc (rep_bl.mpr rfl)

/-! ### texts -/
def qCatS : RW2 := fun x y Cs Q => ∃ i j, x = .str i ∧ y = .str j ∧ i.length + j.length ≤ sizeLine ∧ Q (.str (i ++ j)) Cs
theorem lk_catS : Lk2 K (fun x y H Q => ∃ i j, x = .str i ∧ y = .str j ∧ i.length + j.length ≤ sizeLine ∧ Q (.str (i ++ j)) H) qCatS := fun x y vx vy H Cs Q Q' ⟨i, j, e1, e2, c, q⟩ rc rx ry k => by
  subst e1 e2
  exact ⟨i, j, rep_str.mp rx, rep_str.mp ry, c, k.here q rc (rep_str.mpr rfl)⟩
/-! ### lists -/
theorem LsAt.lst {a : Addr} {ws : List W} {Cs : Cells} (h : (a, MO.lst ws) ∈ Cs) : LsAt a ws Cs := h
def qCat : RW2 := fun x y Cs Q => ∃ a b ws us, x = .ref a ∧ y = .ref b ∧ (a, MO.lst ws) ∈ Cs ∧ (b, MO.lst us) ∈ Cs ∧ ws.length + us.length ≤ 100000 ∧ ∀ p, Q (.ref p) ((p, .lst (ws ++ us)) :: Cs)
theorem lk_cat : Lk2 K rCat qCat := fun x y vx vy H Cs Q Q' ⟨a, b, ws, us, e1, e2, h1, h2, hz, q⟩ rc rx ry k => by
  subst e1 e2
  obtain ⟨xs, f1, r1⟩ := rc.mem h1
  obtain ⟨ys, f2, r2⟩ := rc.mem h2
  exact ⟨a, b, xs, ys, rep_ref.mp rx, rep_ref.mp ry, f1, f2, Nat.le_trans (by rw [← reps_len r1, ← reps_len r2]; exact hz) (by decide), fun p hp => k _ _ _ _ (q p) (tr_new hp) (rc.new hp ⟨_, upd_same, reps_mono (tr_new hp) _ _ (reps_app r1 r2)⟩) (rep_ref.mpr rfl)⟩
theorem reps_rep {H : Hp} {ws : List W} {xs : List V} (r : reps K H ws xs) : ∀ k : Nat, reps K H (List.replicate k ws).flatten (List.replicate k xs).flatten
  | 0 => reps_nil.mpr rfl
  | k + 1 => by
    rw [List.replicate_succ, List.flatten_cons, List.replicate_succ, List.flatten_cons]
    exact reps_app r (reps_rep r k)
def qRep : RW2 := fun x y Cs Q => ∃ a k ws, x = .ref a ∧ y = .int k ∧ (a, MO.lst ws) ∈ Cs ∧ (-9223372036854775808 ≤ k ∧ k < 9223372036854775808) ∧ ws.length * k.toNat ≤ 100000 ∧ ∀ p, Q (.ref p) ((p, .lst (List.replicate k.toNat ws).flatten) :: Cs)
end
end SL
namespace SL
open PySem PySem.Spec PyProof.Rows L2

/-! ### data at any depth -/
mutual
/-- a tree without addresses, as data -/
def dW : W → PyData
  | .non => .none
  | .bl b => .bool b
  | .int i => .int i
  | .str x => .str x
  | .tup ws => .tuple (dWs ws)
  | .ref _ => .none
  | .ty _ => .none
  | .cst _ _ => .none
def dWs : List W → List PyData
  | [] => []
  | w :: ws => dW w :: dWs ws
end
mutual
def noref : W → Bool
  | .ref _ => false
  | .ty _ => false
  | .cst _ _ => false
  | .tup ws => norefs ws
  | .non => true
  | .bl _ => true
  | .int _ => true
  | .str _ => true
def norefs : List W → Bool
  | [] => true
  | w :: ws => noref w && norefs ws
end
theorem dWs_map : ∀ ws : List W, dWs ws = ws.map dW
  | [] => rfl
  | w :: ws => by rw [dWs, dWs_map ws]; rfl
theorem norefs_all : ∀ ws : List W, norefs ws = ws.all noref
  | [] => rfl
  | w :: ws => by rw [norefs, norefs_all ws]; rfl
inductive Dw (Cs : Cells) : W → PyData → Prop
  | flat {w : W} (h : noref w = true) : Dw Cs w (dW w)
  | lst {a : Addr} {ws : List W} {ds : List PyData} (h : LsAt a ws Cs) (hl : ws.length = ds.length) (hd : ∀ (i : Nat) (w : W) (d : PyData), ws[i]? = some w → ds[i]? = some d → Dw Cs w d) : Dw Cs (.ref a) (.list ds)
  | tup {ws : List W} {ds : List PyData} (hl : ws.length = ds.length) (hd : ∀ (i : Nat) (w : W) (d : PyData), ws[i]? = some w → ds[i]? = some d → Dw Cs w d) : Dw Cs (.tup ws) (.tuple ds)
theorem Dw.is {Cs : Cells} {w : W} {d e : PyData} (h : Dw Cs w d) (he : d = e) : Dw Cs w e := he ▸ h
theorem Dw.lflat {Cs : Cells} {a : Addr} {ws : List W} (h : LsAt a ws Cs) (hf : norefs ws = true) : Dw Cs (.ref a) (.list (ws.map dW)) :=
  .lst h (by rw [List.length_map]) fun i w d e1 e2 => by
    rw [List.getElem?_map, e1] at e2
    cases e2
    refine .flat ?_
    rw [norefs_all] at hf
    exact List.all_eq_true.mp hf w (List.mem_of_getElem? e1)
theorem Dw.mono {Cs Ds : Cells} (h : ∀ a ws, LsAt a ws Cs → LsAt a ws Ds) {w : W} {d : PyData} (q : Dw Cs w d) : Dw Ds w d := by
  induction q with
  | flat h => exact .flat h
  | lst hl hn _ ih => exact .lst (h _ _ hl) hn ih
  | tup hn _ ih => exact .tup hn ih
section
variable {K : PySem.W.Frag} {H : Hp} {Cs : Cells}
theorem dpAll_of : ∀ {vs : List V} {ds : List PyData}, vs.length = ds.length → (∀ (i : Nat) (v : V) (d : PyData), vs[i]? = some v → ds[i]? = some d → Dp K H v d) → DpAll K H vs ds
  | [], [], _, _ => .nil
  | v :: vs, d :: ds, hl, h => .cons (h 0 v d rfl rfl) (dpAll_of (by simpa using hl) fun i v' d' e1 e2 => h (i + 1) v' d' (by simpa using e1) (by simpa using e2))
mutual
theorem dp_flat : ∀ (w : W) (v : V), noref w = true → rep K H w v → Dp K H v (dW w)
  | .non, v, _, r => by rw [rep_non.mp r]; exact .non
  | .bl b, v, _, r => by rw [rep_bl.mp r]; exact .bl b
  | .int i, v, _, r => by rw [rep_int.mp r]; exact .int i
  | .str x, v, _, r => by rw [rep_str.mp r]; exact .str x
  | .tup ws, v, h, r => by
    obtain ⟨t, xs, rfl, h1, h2⟩ := rep_tup.mp r
    rw [dW]
    exact .tup h1 (dp_flats ws xs (by simpa only [noref] using h) h2)
  | .ref _, _, h, _ => by simp [noref] at h
  | .ty _, _, h, _ => by simp [noref] at h
  | .cst _ _, _, h, _ => by simp [noref] at h
theorem dp_flats : ∀ (ws : List W) (vs : List V), norefs ws = true → reps K H ws vs → DpAll K H vs (dWs ws)
  | [], vs, _, r => by rw [reps_nil.mp r]; exact .nil
  | w :: ws, vs, h, r => by
    obtain ⟨v, us, rfl, h1, h2⟩ := reps_cons.mp r
    rw [norefs, Bool.and_eq_true] at h
    rw [dWs]
    exact .cons (dp_flat w v h.1 h1) (dp_flats ws us h.2 h2)
end
theorem Dw.dp (R : RelC K H Cs) {w : W} {d : PyData} (q : Dw Cs w d) : ∀ {v : V}, rep K H w v → Dp K H v d := by
  induction q with
  | flat h => exact fun r => dp_flat _ _ h r
  | lst hl hn _ ih =>
    intro v r
    rw [rep_ref.mp r]
    obtain ⟨xs, h1, h2⟩ := hl.get R
    refine .lst h1 (dpAll_of (by rw [← reps_len h2]; exact hn) fun i x d e1 e2 => ?_)
    obtain ⟨w, e3, e4⟩ := reps_get' h2 e1
    exact ih i w d e3 e2 e4
  | tup hn _ ih =>
    intro v r
    obtain ⟨t, xs, rfl, h1, h2⟩ := rep_tup.mp r
    refine .tup h1 (dpAll_of (by rw [← reps_len h2]; exact hn) fun i x d e1 e2 => ?_)
    obtain ⟨w, e3, e4⟩ := reps_get' h2 e1
    exact ih i w d e3 e2 e4
def qEqD : RW2 := fun x y Cs Q => ∃ d e, Dw Cs x d ∧ Dw Cs y e ∧ SeqAt.shaped d = true ∧ SeqAt.shaped e = true ∧ Q (.bl (PyData.eqv d e)) Cs
def qNeD : RW2 := fun x y Cs Q => ∃ d e, Dw Cs x d ∧ Dw Cs y e ∧ SeqAt.shaped d = true ∧ SeqAt.shaped e = true ∧ Q (.bl (!PyData.eqv d e)) Cs
theorem lk_eqD : Lk2 K (rEqD K) qEqD := fun x y vx vy H Cs Q Q' ⟨d, e, h1, h2, s1, s2, q⟩ rc rx ry k => ⟨d, e, h1.dp rc rx, h2.dp rc ry, s1, s2, k.here q rc (rep_bl.mpr rfl)⟩
theorem lk_neD : Lk2 K (rNeD K) qNeD := fun x y vx vy H Cs Q Q' ⟨d, e, h1, h2, s1, s2, q⟩ rc rx ry k => ⟨d, e, h1.dp rc rx, h2.dp rc ry, s1, s2, k.here q rc (rep_bl.mpr rfl)⟩
end

/-! ### repr -/
def qRepr : RWL := fun xs Cs Q => ∃ a ds, xs = [.ref a] ∧ Dw Cs (.ref a) (.list ds) ∧ PyData.showableAll ds = true ∧ PyData.hasDictAll ds = false ∧ PyData.depthAll ds ≤ 60 ∧ (PyData.shown (.list ds)).length ≤ sizeLine ∧ Q (.str (PyData.shown (.list ds))) Cs
def rReprL (K : PySem.W.Frag) : List V → Hp → VK → Prop := fun vs H Q => ∃ a ds, vs = [.ref a] ∧ Dp K H (.ref a) (.list ds) ∧ PyData.showableAll ds = true ∧ PyData.hasDictAll ds = false ∧ PyData.depthAll ds ≤ 60 ∧ (PyData.shown (.list ds)).length ≤ sizeLine ∧ Q (.str (PyData.shown (.list ds))) H
section
variable {X : Cx} {K : PySem.W.Frag}
theorem call_reprL (hg : X.A.guards = some []) (hu : X.A.units + 64 < cLine) : CallR X (.builtin "repr") (rReprL X.K) := by
  intro pins s σ H xs us Q I r h
  obtain ⟨a, ds, rfl, hd, h1, h2, h3, h4, q⟩ := h
  obtain ⟨u, rfl, ru⟩ := vals1 r
  obtain ⟨as, rd⟩ := Dp.reads I _ _ u hd ru
  obtain rfl : u = Value.ref a := ru
  refine repr_of_reads' (s := s) rd (by rw [PyData.showable]; exact h1) (fun z => ?_) hg ?_ (fun _ _ e => e) (fun h' t tk k => ⟨.str _, H, I.kept k, ⟨t, rfl⟩, q⟩) h4
  · rw [PyData.hasDict, h2] at z
    cases z
  · rw [PyData.depth]
    omega
theorem lk_repr : LkL K (rReprL K) qRepr := fun xs vs H Cs Q Q' ⟨a, ds, e, hd, h1, h2, h3, h4, q⟩ rc rx k => by
  subst e
  obtain ⟨x, r, rfl, r1, r2⟩ := reps_cons.mp rx
  obtain rfl := reps_nil.mp r2
  have hd' := hd.dp rc r1
  obtain rfl := rep_ref.mp r1
  exact ⟨a, ds, rfl, hd', h1, h2, h3, h4, k.here q rc (rep_str.mpr rfl)⟩
end
end SL
namespace SL
open PySem PySem.Spec PyProof.Rows L2

/-! ### built-ins by name -/
section
variable {X : Cx} {K : PySem.W.Frag} {H : Hp} {Cs : Cells}
def qLenL : RWL := fun xs Cs Q => ∃ a ws, xs = [.ref a] ∧ LsAt a ws Cs ∧ Q (.int (ws.length : Nat)) Cs
def qLenT : RWL := fun xs Cs Q => ∃ ws, xs = [.tup ws] ∧ Q (.int (ws.length : Nat)) Cs
def qLenS : RWL := fun xs Cs Q => ∃ z, xs = [.str z] ∧ z.length ≤ sizeLine ∧ Q (.int (z.length : Nat)) Cs
/-- len of a list or of a tuple -/
def qLen : RWL := fun xs Cs Q => qLenL xs Cs Q ∨ qLenT xs Cs Q
theorem one_rep {x : W} {vs : List V} (r : reps K H [x] vs) : ∃ v, vs = [v] ∧ rep K H x v := by
  obtain ⟨v, t, rfl, r1, r2⟩ := reps_cons.mp r
  obtain rfl := reps_nil.mp r2
  exact ⟨v, rfl, r1⟩
theorem two_rep {x y : W} {vs : List V} (r : reps K H [x, y] vs) : ∃ v u, vs = [v, u] ∧ rep K H x v ∧ rep K H y u := by
  obtain ⟨v, t, rfl, r1, r2⟩ := reps_cons.mp r
  obtain ⟨u, rfl, r3⟩ := one_rep r2
  exact ⟨v, u, rfl, r1, r3⟩
theorem lk_lenQ : LkL K (fun xs H Q => ∃ p ys, xs = [.ref p] ∧ (SqL K H p ys ∨ SqT K H p ys) ∧ Q (.int ys.length) H) qLen := fun xs vs H Cs Q Q' h rc rx k => by
  rcases h with ⟨a, ws, rfl, hl, q⟩ | ⟨ws, rfl, q⟩
  · obtain ⟨v, rfl, r⟩ := one_rep rx
    obtain rfl := rep_ref.mp r
    obtain ⟨ys, h1, h2⟩ := hl.get rc
    refine ⟨a, ys, rfl, .inl h1, ?_⟩
    rw [← reps_len h2]
    exact k.here q rc (rep_int.mpr rfl)
  · obtain ⟨v, rfl, r⟩ := one_rep rx
    obtain ⟨t, ys, rfl, h1, h2⟩ := rep_tup.mp r
    refine ⟨t, ys, rfl, .inr h1, ?_⟩
    rw [← reps_len h2]
    exact k.here q rc (rep_int.mpr rfl)
theorem lk_lenS : LkL K (fun xs H Q => ∃ z, xs = [.str z] ∧ z.length ≤ sizeLine ∧ Q (.int z.length) H) qLenS := fun xs vs H Cs Q Q' ⟨z, e, hz, q⟩ rc rx k => by
  subst e
  obtain ⟨v, rfl, r⟩ := one_rep rx
  exact ⟨z, by rw [rep_str.mp r], hz, k.here q rc (rep_int.mpr rfl)⟩
def qMax2 : RWL := fun xs Cs Q => ∃ i j, xs = [.int i, .int j] ∧ Q (.int (if j > i then j else i)) Cs
def qMin2 : RWL := fun xs Cs Q => ∃ i j, xs = [.int i, .int j] ∧ Q (.int (if j < i then j else i)) Cs
theorem lk_max2 : LkL K (fun xs H Q => ∃ i j, xs = [.int i, .int j] ∧ Q (.int (if j > i then j else i)) H) qMax2 := fun xs vs H Cs Q Q' ⟨i, j, e, q⟩ rc rx k => by
  subst e
  obtain ⟨v, u, rfl, r1, r2⟩ := two_rep rx
  exact ⟨i, j, by rw [rep_int.mp r1, rep_int.mp r2], k.here q rc (rep_int.mpr rfl)⟩
theorem lk_min2 : LkL K (fun xs H Q => ∃ i j, xs = [.int i, .int j] ∧ Q (.int (if j < i then j else i)) H) qMin2 := fun xs vs H Cs Q Q' ⟨i, j, e, q⟩ rc rx k => by
  subst e
  obtain ⟨v, u, rfl, r1, r2⟩ := two_rep rx
  exact ⟨i, j, by rw [rep_int.mp r1, rep_int.mp r2], k.here q rc (rep_int.mpr rfl)⟩
def qAbs : RWL := fun xs Cs Q => ∃ i, xs = [.int i] ∧ Q (.int (if i < 0 then -i else i)) Cs
theorem lk_abs : LkL K (fun xs H Q => ∃ i, xs = [.int i] ∧ Q (.int (if i < 0 then -i else i)) H) qAbs := fun xs vs H Cs Q Q' ⟨i, e, q⟩ rc rx k => by
  subst e
  obtain ⟨v, rfl, r1⟩ := one_rep rx
  exact ⟨i, by rw [rep_int.mp r1], k.here q rc (rep_int.mpr rfl)⟩
/-- int(a truth value) -/
def qIntB : RWL := fun xs Cs Q => ∃ b, xs = [.bl b] ∧ Q (.int (if b then 1 else 0)) Cs
theorem lk_intB : LkL K (fun xs H Q => (∃ i, xs = [.int i] ∧ Q (.int i) H) ∨ ∃ k, xs = [.bl k] ∧ Q (.int (if k then 1 else 0)) H) qIntB := fun xs vs H Cs Q Q' ⟨b, e, q⟩ rc rx k => by
  subst e
  obtain ⟨v, rfl, r1⟩ := one_rep rx
  exact .inr ⟨b, by rw [rep_bl.mp r1], k.here q rc (rep_int.mpr rfl)⟩
/-- int(a text that is a number) -/
def qIntS : RWL := fun xs Cs Q => ∃ a n, xs = [.str a] ∧ PySem.intText? a = some n ∧ a.length ≤ 640 ∧ Q (.int n) Cs
theorem lk_intS : LkL K (fun xs H Q => ∃ a n, xs = [.str a] ∧ PySem.intText? a = some n ∧ a.length ≤ 640 ∧ Q (.int n) H) qIntS := fun xs vs H Cs Q Q' ⟨a, n, e, h1, h2, q⟩ rc rx k => by
  subst e
  obtain ⟨v, rfl, r1⟩ := one_rep rx
  exact ⟨a, n, by rw [rep_str.mp r1], h1, h2, k.here q rc (rep_int.mpr rfl)⟩
def qStrI : RWL := fun xs Cs Q => ∃ i : Int, xs = [.int i] ∧ i.natAbs.log2 < 1920 ∧ Q (.str (toString i)) Cs
theorem lk_strI : LkL K (fun xs H Q => ∃ i : Int, xs = [.int i] ∧ i.natAbs.log2 < 1920 ∧ Q (.str (toString i)) H) qStrI := fun xs vs H Cs Q Q' ⟨a, e, h2, q⟩ rc rx k => by
  subst e
  obtain ⟨v, rfl, r1⟩ := one_rep rx
  exact ⟨a, by rw [rep_int.mp r1], h2, k.here q rc (rep_str.mpr rfl)⟩
/-- list(a list), list(a tuple) -/
def qListL : RWL := fun xs Cs Q => ∃ a ws, xs = [.ref a] ∧ LsAt a ws Cs ∧ ∀ p, Q (.ref p) ((p, .lst ws) :: Cs)
def qListT : RWL := fun xs Cs Q => ∃ ws, xs = [.tup ws] ∧ ∀ p, Q (.ref p) ((p, .lst ws) :: Cs)
def qList : RWL := fun xs Cs Q => qListL xs Cs Q ∨ qListT xs Cs Q
theorem lk_list : LkL K (fun xs H Q => ∃ p ys, xs = [.ref p] ∧ (SqL K H p ys ∨ SqT K H p ys) ∧ ∀ l, H l = none → Q (.ref l) (upd H l (.lst ys))) qList := fun xs vs H Cs Q Q' h rc rx k => by
  rcases h with ⟨a, ws, rfl, hl, q⟩ | ⟨ws, rfl, q⟩
  · obtain ⟨v, rfl, r⟩ := one_rep rx
    obtain rfl := rep_ref.mp r
    obtain ⟨ys, h1, h2⟩ := hl.get rc
    exact ⟨a, ys, rfl, .inl h1, fun l hn => k _ _ _ _ (q l) (tr_new hn) (rc.new hn ⟨ys, upd_same, reps_mono (tr_new hn) _ _ h2⟩) (rep_ref.mpr rfl)⟩
  · obtain ⟨v, rfl, r⟩ := one_rep rx
    obtain ⟨t, ys, rfl, h1, h2⟩ := rep_tup.mp r
    exact ⟨t, ys, rfl, .inr h1, fun l hn => k _ _ _ _ (q l) (tr_new hn) (rc.new hn ⟨ys, upd_same, reps_mono (tr_new hn) _ _ h2⟩) (rep_ref.mpr rfl)⟩
def qSum : RWL := fun xs Cs Q => ∃ (a : Addr) (ns : List Int), xs = [.ref a] ∧ LsAt a (ns.map W.int) Cs ∧ Q (.int ns.sum) Cs
theorem lk_sum : LkL K (rSum K) qSum := fun xs vs H Cs Q Q' ⟨a, ns, e, hl, q⟩ rc rx k => by
  subst e
  obtain ⟨v, rfl, r⟩ := one_rep rx
  obtain rfl := rep_ref.mp r
  obtain ⟨ys, h1, h2⟩ := hl.get rc
  obtain rfl := reps_ints.mp h2
  exact ⟨a, ns, rfl, h1, k.here q rc (rep_int.mpr rfl)⟩
/-- min, max of a list of ints -/
def qMinL : RWL := fun xs Cs Q => ∃ (a : Addr) (ns : List Int), xs = [.ref a] ∧ LsAt a (ns.map W.int) Cs ∧ 0 < ns.length ∧ ∀ m, m ∈ ns → (∀ y, y ∈ ns → m ≤ y) → Q (.int m) Cs
def qMaxL : RWL := fun xs Cs Q => ∃ (a : Addr) (ns : List Int), xs = [.ref a] ∧ LsAt a (ns.map W.int) Cs ∧ 0 < ns.length ∧ ∀ m, m ∈ ns → (∀ y, y ∈ ns → y ≤ m) → Q (.int m) Cs
theorem lk_minL : LkL K (rMin K) qMinL := fun xs vs H Cs Q Q' ⟨a, ns, e, hl, hz, q⟩ rc rx k => by
  subst e
  obtain ⟨v, rfl, r⟩ := one_rep rx
  obtain rfl := rep_ref.mp r
  obtain ⟨ys, h1, h2⟩ := hl.get rc
  obtain rfl := reps_ints.mp h2
  exact ⟨a, ns, rfl, h1, hz, fun m h3 h4 => k.here (q m h3 h4) rc (rep_int.mpr rfl)⟩
theorem lk_maxL : LkL K (rMax K) qMaxL := fun xs vs H Cs Q Q' ⟨a, ns, e, hl, hz, q⟩ rc rx k => by
  subst e
  obtain ⟨v, rfl, r⟩ := one_rep rx
  obtain rfl := rep_ref.mp r
  obtain ⟨ys, h1, h2⟩ := hl.get rc
  obtain rfl := reps_ints.mp h2
  exact ⟨a, ns, rfl, h1, hz, fun m h3 h4 => k.here (q m h3 h4) rc (rep_int.mpr rfl)⟩
def qAll : RWL := fun xs Cs Q => ∃ (a : Addr) (bs : List Bool), xs = [.ref a] ∧ LsAt a (bs.map W.bl) Cs ∧ Q (.bl (bs.all id)) Cs
theorem lk_all : LkL K (rAll K) qAll := fun xs vs H Cs Q Q' ⟨a, ns, e, hl, q⟩ rc rx k => by
  subst e
  obtain ⟨v, rfl, r⟩ := one_rep rx
  obtain rfl := rep_ref.mp r
  obtain ⟨ys, h1, h2⟩ := hl.get rc
  obtain rfl := reps_bls.mp h2
  exact ⟨a, ns, rfl, h1, k.here q rc (rep_bl.mpr rfl)⟩

/-! ### isinstance with one built-in class -/
def tyW (Cs : Cells) : W → String → Prop
  | .non, t => t = "NoneType"
  | .bl _, t => t = "bool"
  | .int _, t => t = "int"
  | .str _, t => t = "str"
  | .tup _, t => t = "tuple"
  | .ref a, t => (t = "list" ∧ ∃ ws, LsAt a ws Cs) ∨ (t = "dict" ∧ ∃ kvs, (a, MO.dic kvs) ∈ Cs)
  | .cst _ _, t => t = "list"
  | .ty _, _ => False
theorem tyW_ok (R : RelC K H Cs) {w : W} {v : V} {t : String} (h : tyW Cs w t) (r : rep K H w v) : TyX K H v (.type t) := by
  cases w with
  | non => obtain rfl := rep_non.mp r; obtain rfl := (show t = _ from h); exact .base .non
  | bl b => obtain rfl := rep_bl.mp r; obtain rfl := (show t = _ from h); exact .base (.bl b)
  | int b => obtain rfl := rep_int.mp r; obtain rfl := (show t = _ from h); exact .base (.int b)
  | str b => obtain rfl := rep_str.mp r; obtain rfl := (show t = _ from h); exact .base (.str b)
  | tup ws =>
    obtain rfl := (show t = _ from h)
    obtain ⟨p, xs, rfl, h1, _⟩ := rep_tup.mp r
    rcases h1 with (h1 | ⟨o, h1⟩) | ⟨o, its, n, h1, h2, _⟩
    · exact .base (.tup h1)
    · exact .fTuple h1
    · exact .kTuple h1 h2
  | ref a =>
    obtain rfl := rep_ref.mp r
    rcases h with ⟨rfl, ws, h⟩ | ⟨rfl, kvs, h⟩
    · obtain ⟨xs, e, _⟩ := R.mem h
      exact .base (.lst e)
    · obtain ⟨xs, e, _⟩ := R.mem h
      exact .base (.dK e)
  | cst a ws =>
    obtain rfl := (show t = _ from h)
    obtain ⟨rfl, xs, ⟨h1, h2⟩, _⟩ := rep_cst.mp r
    rcases h1 with (h1 | ⟨o, h1⟩) | ⟨o, its, n, h1, h2, _⟩
    · exact .base (.lst h1)
    · exact .base (.frz h1)
    · exact .kList h1 h2
  | ty n => exact h.elim
def qIsi : RWL := fun xs Cs Q => ∃ x c t b, xs = [x, .ty c] ∧ tyW Cs x t ∧ kitB t c = some b ∧ Q (.bl b) Cs
theorem lk_isi : LkL K (rIsi K) qIsi := fun xs vs H Cs Q Q' ⟨x, c, t, b, e, h1, h2, q⟩ rc rx k => by
  subst e
  obtain ⟨v, u, rfl, r1, r2⟩ := two_rep rx
  obtain rfl := rep_ty.mp r2
  exact ⟨v, .ty c, .type t, .type c, b, rfl, .ty c, tyW_ok rc h1 r1, kit_ty h2, k.here q rc (rep_bl.mpr rfl)⟩

/-! ### slices -/
def cutW {α : Type} (ws : List α) (lo hi : Option Int) : List α := (ws.drop (HT.sIx ws.length 0 lo)).take (HT.sIx ws.length ws.length hi - HT.sIx ws.length 0 lo)
theorem reps_cut {ws : List W} {xs : List V} (r : reps K H ws xs) (lo hi : Option Int) : reps K H (cutW ws lo hi) (cutV xs lo hi) := by
  unfold cutW cutV
  rw [reps_len r]
  exact reps_take _ (reps_drop _ r)
abbrev MO2 := XW → Rho → Cells → (Option Int → Cells → Prop) → Prop
def oNone : MO2 := fun _ _ Cs Q => Q none Cs
def oSome (t : ME) : MO2 := fun E ρ Cs Q => t E ρ Cs fun w C => ∃ i, w = .int i ∧ Q (some i) C
def liftO (X : Cx) (Wx : WX) (t : MO2) : TO := fun σ H Q' => ∃ (ρ : Rho) (Cs : Cells) (E : XW) (Q : Option Int → Cells → Prop), RelS X.K X.N.length H σ ρ ∧ RelC X.K H Cs ∧ t E ρ Cs Q ∧
  (∀ o Cs' H', Q o Cs' → Tr X.K H H' → RelC X.K H' Cs' → Q' o H') ∧ LnkX X.K X.N.length Wx σ H E
def QO (X : Cx) (e : Option Expr) (t : MO2) : Prop := ∀ Wx, Takes X Wx → PO X e (liftO X Wx t)
theorem po_imp {e : Option Expr} {t t' : TO} (h : PO X e t) (k : ∀ σ H Q, t' σ H Q → t σ H Q) : PO X e t' := ⟨fun pins s σ H Q I q => h.run pins s σ H Q I (k σ H Q q)⟩
theorem qo_none : QO X none oNone := fun Wx _ => po_imp po_none fun σ H Q' ⟨ρ, Cs, E, Q, R, C, h, kQ, kE⟩ => kQ none Cs H h (Tr.refl H) C
theorem qo_some {e : Expr} {t : ME} (h : QE X e t) : QO X (some e) (oSome t) := fun Wx tk => po_imp (po_some (h Wx tk)) fun σ H Q' ⟨ρ, Cs, E, Q, R, C, h, kQ, kE⟩ => ⟨ρ, Cs, E, _, R, C, h, fun w C1 v H1 ⟨i, e, q⟩ tr rc rp => by
  subst e
  exact ⟨i, rep_int.mp rp, kQ (some i) C1 H1 q tr rc⟩, kE⟩
abbrev RWS := W → Option Int → Option Int → Cells → WK → Prop
def LkS (K : PySem.W.Frag) (r : V → Option Int → Option Int → Hp → VK → Prop) (q : RWS) : Prop := ∀ x vx lo hi H Cs Q Q', q x lo hi Cs Q → RelC K H Cs → rep K H x vx → Fin K H Q Q' → r vx lo hi H Q'
def mSl (q : RWS) (t : ME) (lo hi : MO2) : ME := fun E ρ Cs Q => t E ρ Cs fun x C1 => lo E ρ C1 fun l C2 => hi E ρ C2 fun u C3 => q x l u C3 Q
theorem qe_slice {e : Expr} {lo hi : Option Expr} {t : ME} {tl th : MO2} {p2 pos : Pos} {r : V → Option Int → Option Int → Hp → VK → Prop} {q : RWS} (hr : SlR X r) (lk : LkS X.K r q) (he : QE X e t) (hl : QO X lo tl) (hu : QO X hi th) : QE X (.Subscript e (.Slice lo hi none p2) pos) (mSl q t tl th) := fun Wx tk =>
  pe_imp (pe_slice hr (he Wx tk) (hl Wx tk) (hu Wx tk)) fun σ H Q' ⟨ρ, Cs, E, Q, R, C, h, kQ, kE⟩ => ⟨ρ, Cs, E, _, R, C, h, fun x C1 vx H1 q1 tr1 rc1 rx => ⟨ρ, C1, E, _, R.mono tr1, rc1, q1, fun l C2 H2 q2 tr2 rc2 => ⟨ρ, C2, E, _, R.mono (tr1.trans tr2), rc2, q2, fun u C3 H3 q3 tr3 rc3 =>
    lk x vx l u H3 C3 Q Q' q3 rc3 (rep_mono (tr2.trans tr3) _ _ rx) (Fin.mono kQ ((tr1.trans tr2).trans tr3)), kE.mono (tr1.trans tr2)⟩, kE.mono tr1⟩, kE⟩
def qSlL : RWS := fun x lo hi Cs Q => ∃ a ws, x = .ref a ∧ LsAt a ws Cs ∧ ∀ p, Q (.ref p) ((p, .lst (cutW ws lo hi)) :: Cs)
theorem lk_slL : LkS K (rSlL K) qSlL := fun x vx lo hi H Cs Q Q' ⟨a, ws, e, hl, q⟩ rc rx k => by
  subst e
  obtain ⟨xs, h1, h2⟩ := hl.get rc
  exact ⟨a, xs, rep_ref.mp rx, h1, fun p hp => k _ _ _ _ (q p) (tr_new hp) (rc.new hp ⟨_, upd_same, reps_mono (tr_new hp) _ _ (reps_cut h2 lo hi)⟩) (rep_ref.mpr rfl)⟩
def qSlS : RWS := fun x lo hi Cs Q => ∃ z, x = .str z ∧ z.length ≤ sizeLine ∧ Q (.str (cutS z lo hi)) Cs

/-! ### methods of built-in types -/
abbrev RWM := W → List W → Cells → WK → Prop
def LkM (K : PySem.W.Frag) (r : V → List V → Hp → VK → Prop) (q : RWM) : Prop := ∀ x xs vx vs H Cs Q Q', q x xs Cs Q → RelC K H Cs → rep K H x vx → reps K H xs vs → Fin K H Q Q' → r vx vs H Q'
def mtyW (T : String) (w : W) (Cs : Cells) : Prop := (∃ z, w = .str z ∧ T = "str") ∨ (∃ a ws, w = .ref a ∧ T = "list" ∧ LsAt a ws Cs) ∨ (∃ a kvs, w = .ref a ∧ T = "dict" ∧ (a, MO.dic kvs) ∈ Cs)
theorem mtyW_ok (R : RelC K H Cs) {T : String} {w : W} {v : V} (h : mtyW T w Cs) (r : rep K H w v) : tyV K T v H := by
  rcases h with ⟨z, rfl, rfl⟩ | ⟨a, ws, rfl, rfl, hl⟩ | ⟨a, kvs, rfl, rfl, hl⟩
  · obtain rfl := rep_str.mp r; exact rfl
  · obtain rfl := rep_ref.mp r
    obtain ⟨xs, h1, _⟩ := hl.get R
    exact .inl ⟨rfl, xs, h1⟩
  · obtain rfl := rep_ref.mp r
    obtain ⟨xs, h1, _⟩ := R.mem hl
    exact .inr (.inr (.inl ⟨rfl, .inl ⟨xs, h1⟩⟩))
def mBM (T : String) (q : RWM) (to : ME) (t : MA) : ME := fun E ρ Cs Q => to E ρ Cs fun x C1 => mtyW T x C1 ∧ t E ρ C1 fun xs C2 => q x xs C2 Q
def mBM0 (T : String) (q : RWM) (to : ME) : ME := fun E ρ Cs Q => to E ρ Cs fun x C1 => mtyW T x C1 ∧ q x [] C1 Q
theorem qe_bm {o e : Expr} {es : List Expr} {to : ME} {t : MA} {name : Str} {apos cpos : Pos} {T id : String} {r : V → List V → Hp → VK → Prop} {q : RWM} (pa : PlainAttrs T) (slot : Slot T name id) (hty : typeOf (.builtin id) = pure (.type "method_descriptor")) (hm : MtR X id r) (lk : LkM X.K r q) (ho : QE X o to) (ha : QA X (e :: es) t)
    (hbase : attributeBase o name X.env (eval o X.env) = eval o X.env := by rfl)
    (hfew : ((backTo cpos (starEach (e :: es) X.env)).all (fun x => !x.1) && (backToKw cpos (keywordEach [] X.env)).all (fun x => x.1.isSome)
      && decide ((e :: es).length + ([] : List Keyword).length + (if ([] : List Keyword).isEmpty then 0 else 1) < 30)) = true := by rfl)
    (hline : (apos.endLine == cpos.line) = true := by rfl) (hs : starEach (e :: es) X.env = (false, eval e X.env) :: starEach es X.env := by rfl) (hplain : (backTo cpos (starEach es X.env)).any (·.1) = false := by rfl) :
    QE X (.Call (.Attribute o name apos) (e :: es) [] cpos) (mBM T q to t) := fun Wx tk => pe_imp (pe_bm pa slot hty hm (ho Wx tk) (ha Wx tk) hbase hfew hline hs hplain) fun σ H Q' ⟨ρ, Cs, E, Q, R, C, h, kQ, kE⟩ =>
  ⟨ρ, Cs, E, _, R, C, h, fun x C1 vx H1 ⟨ty, q1⟩ tr1 rc1 rx => ⟨mtyW_ok rc1 ty rx, ρ, C1, E, _, R.mono tr1, rc1, q1, fun xs C2 vs H2 q2 tr2 rc2 rxs => lk x xs vx vs H2 C2 Q Q' q2 rc2 (rep_mono tr2 _ _ rx) rxs (Fin.mono kQ (tr1.trans tr2)), kE.mono tr1⟩, kE⟩
theorem qe_bm0 {o : Expr} {to : ME} {name : Str} {apos cpos : Pos} {T id : String} {r : V → List V → Hp → VK → Prop} {q : RWM} (pa : PlainAttrs T) (slot : Slot T name id) (hty : typeOf (.builtin id) = pure (.type "method_descriptor")) (hm : MtR X id r) (lk : LkM X.K r q) (ho : QE X o to)
    (hbase : attributeBase o name X.env (eval o X.env) = eval o X.env := by rfl) (hline : (apos.endLine == cpos.line) = true := by rfl) :
    QE X (.Call (.Attribute o name apos) [] [] cpos) (mBM0 T q to) := fun Wx tk => pe_imp (pe_bm0 pa slot hty hm (ho Wx tk) hbase hline) fun σ H Q' ⟨ρ, Cs, E, Q, R, C, h, kQ, kE⟩ =>
  ⟨ρ, Cs, E, _, R, C, h, fun x C1 vx H1 ⟨ty, q1⟩ tr1 rc1 rx => ⟨mtyW_ok rc1 ty rx, lk x [] vx [] H1 C1 Q Q' q1 rc1 rx (reps_nil.mpr rfl) (Fin.mono kQ tr1)⟩, kE⟩
/-- a list's method that writes it: the list at a, taken out of the world -/
def qMutL (g : List W → List W → Option (W × List W)) : RWM := fun x xs Cs Q => ∃ a ws Ds y us, x = .ref a ∧ Cs.Perm ((a, .lst ws) :: Ds) ∧ g ws xs = some (y, us) ∧ Q y ((a, .lst us) :: Ds)
def gAppend : List W → List W → Option (W × List W)
  | ws, [y] => if ws.length < 100000 then some (.non, ws ++ [y]) else none
  | _, _ => none
theorem lk_append : LkM K rAppend (qMutL gAppend) := fun x xs vx vs H Cs Q Q' ⟨a, ws, Ds, y, us, e, hp, hg, q⟩ rc rx rxs k => by
  subst e
  have rc' := rc.perm hp
  obtain ⟨ys, e1, r1⟩ := rc'.mem List.mem_cons_self
  match xs, rxs, hg with
  | [], _, hg => cases hg
  | _ :: _ :: _, _, hg => cases hg
  | [z], rxs, hg =>
    unfold gAppend at hg
    dsimp only at hg
    by_cases hz : ws.length < 100000
    · rw [if_pos hz] at hg
      injection hg with hg
      injection hg with h1 h2
      subst h1 h2
      obtain ⟨v, rfl, rv⟩ := one_rep rxs
      have trw : Tr K H (upd H a (.lst (ys ++ [v]))) := rc'.tr_write
      exact ⟨a, ys, v, rep_ref.mp rx, rfl, e1, Nat.lt_of_lt_of_le (by rw [← reps_len r1]; exact hz) (by decide), k _ _ _ _ q trw (rc'.write ⟨_, upd_same, reps_mono trw _ _ (reps_app r1 (reps_cc.mpr ⟨rv, reps_nil.mpr rfl⟩))⟩) (rep_non.mpr rfl)⟩
    · rw [if_neg hz] at hg
      cases hg
theorem reps_dropLast : ∀ {ws : List W} {xs : List V}, reps K H ws xs → reps K H ws.dropLast xs.dropLast
  | [], xs, h => by rw [reps_nil.mp h]; exact reps_nil.mpr rfl
  | [w], xs, h => by
    obtain ⟨v, rfl, _⟩ := one_rep h
    exact reps_nil.mpr rfl
  | w :: u :: ws, xs, h => by
    obtain ⟨v, r, rfl, h1, h2⟩ := reps_cons.mp h
    obtain ⟨v', r', rfl, h3, h4⟩ := reps_cons.mp h2
    rw [List.dropLast_cons_cons, List.dropLast_cons_cons]
    exact reps_cc.mpr ⟨h1, reps_dropLast (reps_cc.mpr ⟨h3, h4⟩)⟩
theorem reps_eraseIdx : ∀ {ws : List W} {xs : List V} (i : Nat), reps K H ws xs → reps K H (ws.eraseIdx i) (xs.eraseIdx i)
  | [], xs, i, h => by rw [reps_nil.mp h]; exact reps_nil.mpr rfl
  | w :: ws, xs, 0, h => by
    obtain ⟨v, r, rfl, h1, h2⟩ := reps_cons.mp h
    exact h2
  | w :: ws, xs, i + 1, h => by
    obtain ⟨v, r, rfl, h1, h2⟩ := reps_cons.mp h
    exact reps_cc.mpr ⟨h1, reps_eraseIdx i h2⟩
/-- xs.pop(0) -/
def gPop0 : List W → List W → Option (W × List W)
  | w :: ws, [.int 0] => some (w, ws)
  | _, _ => none
theorem lk_pop0 : LkM K rPopAt (qMutL gPop0) := fun x xs vx vs H Cs Q Q' ⟨a, ws, Ds, y, us, e, hp, hg, q⟩ rc rx rxs k => by
  subst e
  have rc' := rc.perm hp
  obtain ⟨ys, e1, r1⟩ := rc'.mem List.mem_cons_self
  unfold gPop0 at hg
  split at hg
  · injection hg with hg
    injection hg with h1 h2
    subst h1 h2
    obtain ⟨v, rfl, rv⟩ := one_rep rxs
    obtain rfl := rep_int.mp rv
    obtain ⟨u, r, rfl, r2, r3⟩ := reps_cons.mp r1
    have trw : Tr K H (upd H a (.lst ((u :: r).eraseIdx 0))) := rc'.tr_write
    refine ⟨a, u :: r, 0, 0, u, rep_ref.mp rx, rfl, e1, by decide, by decide, ?_, rfl, k _ _ _ _ q trw (rc'.write ⟨_, upd_same, reps_mono trw _ _ r3⟩) (rep_mono trw _ _ r2)⟩
    simp [seqIndex?]
  · cases hg
/-- xs.pop() -/
def gPop : List W → List W → Option (W × List W)
  | ws, [] => ws.getLast?.map fun y => (y, ws.dropLast)
  | _, _ => none
theorem lk_pop : LkM K rPop (qMutL gPop) := fun x xs vx vs H Cs Q Q' ⟨a, ws, Ds, y, us, e, hp, hg, q⟩ rc rx rxs k => by
  subst e
  have rc' := rc.perm hp
  obtain ⟨ys, e1, r1⟩ := rc'.mem List.mem_cons_self
  match xs, rxs, hg with
  | _ :: _, _, hg => cases hg
  | [], rxs, hg =>
    unfold gPop at hg
    dsimp only at hg
    cases hy : ws.getLast? with
    | none => rw [hy] at hg; cases hg
    | some w =>
      rw [hy] at hg
      injection hg with hg
      injection hg with h1 h2
      subst h1 h2
      obtain rfl := reps_nil.mp rxs
      rw [List.getLast?_eq_getElem?] at hy
      obtain ⟨u, hu, ru⟩ := reps_get r1 hy
      have trw : Tr K H (upd H a (.lst ys.dropLast)) := rc'.tr_write
      rw [reps_len r1] at hu
      exact ⟨a, ys, u, rep_ref.mp rx, rfl, e1, hu, k _ _ _ _ q trw (rc'.write ⟨_, upd_same, reps_mono trw _ _ (reps_dropLast r1)⟩) (rep_mono trw _ _ ru)⟩
/-- xs.insert(i, y), 0 ≤ i -/
def gInsert : List W → List W → Option (W × List W)
  | ws, [.int i, y] => if 0 ≤ i ∧ i < 9223372036854775808 ∧ ws.length < 100000 then some (.non, ws.take i.toNat ++ [y] ++ ws.drop i.toNat) else none
  | _, _ => none
theorem lk_insert : LkM K (fun x vs H Q => ∃ (l : Addr) (xs : List V) (i : Int) (y : V), x = .ref l ∧ vs = [.int i, y] ∧ H l = some (.lst xs) ∧ xs.length < sizeLine ∧ 0 ≤ i ∧ i < 2 ^ 63 ∧
    Q .non (upd H l (.lst (xs.take i.toNat ++ [y] ++ xs.drop i.toNat)))) (qMutL gInsert) := fun x xs vx vs H Cs Q Q' ⟨a, ws, Ds, y, us, e, hp, hg, q⟩ rc rx rxs k => by
  subst e
  have rc' := rc.perm hp
  obtain ⟨ys, e1, r1⟩ := rc'.mem List.mem_cons_self
  match xs, rxs, hg with
  | [], _, hg => cases hg
  | [_], _, hg => simp [gInsert] at hg
  | _ :: _ :: _ :: _, _, hg => simp [gInsert] at hg
  | [.non, _], _, hg => cases hg
  | [.bl _, _], _, hg => cases hg
  | [.str _, _], _, hg => cases hg
  | [.ref _, _], _, hg => cases hg
  | [.ty _, _], _, hg => cases hg
  | [.cst _ _, _], _, hg => cases hg
  | [.tup _, _], _, hg => cases hg
  | [.int i, z], rxs, hg =>
    unfold gInsert at hg
    dsimp only at hg
    by_cases hz : 0 ≤ i ∧ i < 9223372036854775808 ∧ ws.length < 100000
    · rw [if_pos hz] at hg
      injection hg with hg
      injection hg with h1 h2
      subst h1 h2
      obtain ⟨v, u, rfl, rv, ru⟩ := two_rep rxs
      obtain rfl := rep_int.mp rv
      have trw : Tr K H (upd H a (.lst (ys.take i.toNat ++ [u] ++ ys.drop i.toNat))) := rc'.tr_write
      exact ⟨a, ys, i, u, rep_ref.mp rx, rfl, e1, Nat.lt_of_lt_of_le (by rw [← reps_len r1]; exact hz.2.2) (by decide), hz.1, hz.2.1, k _ _ _ _ q trw (rc'.write ⟨_, upd_same, reps_mono trw _ _ (reps_app (reps_app (reps_take _ r1) (reps_cc.mpr ⟨ru, reps_nil.mpr rfl⟩)) (reps_drop _ r1))⟩) (rep_non.mpr rfl)⟩
    · rw [if_neg hz] at hg
      cases hg
def gClear : List W → List W → Option (W × List W)
  | _, [] => some (.non, [])
  | _, _ => none
theorem lk_clear : LkM K rClear (qMutL gClear) := fun x xs vx vs H Cs Q Q' ⟨a, ws, Ds, y, us, e, hp, hg, q⟩ rc rx rxs k => by
  subst e
  have rc' := rc.perm hp
  obtain ⟨ys, e1, r1⟩ := rc'.mem List.mem_cons_self
  unfold gClear at hg
  split at hg
  · injection hg with hg
    injection hg with h1 h2
    subst h1 h2
    obtain rfl := reps_nil.mp rxs
    have trw : Tr K H (upd H a (.lst [])) := rc'.tr_write
    exact ⟨a, ys, rep_ref.mp rx, rfl, e1, k _ _ _ _ q trw (rc'.write ⟨_, upd_same, reps_nil.mpr rfl⟩) (rep_non.mpr rfl)⟩
  · cases hg
/-- xs.extend(ys) -/
def qExtend : RWM := fun x xs Cs Q => ∃ a b ws us Ds, x = .ref a ∧ xs = [.ref b] ∧ Cs.Perm ((a, .lst ws) :: Ds) ∧ (b, MO.lst us) ∈ Cs ∧ ws.length + us.length ≤ 100000 ∧ Q .non ((a, .lst (ws ++ us)) :: Ds)
theorem lk_extend : LkM K rExtend qExtend := fun x xs vx vs H Cs Q Q' ⟨a, b, ws, us, Ds, e, e2, hp, hb, hz, q⟩ rc rx rxs k => by
  subst e e2
  obtain ⟨zs, f1, r2⟩ := rc.mem hb
  have rc' := rc.perm hp
  obtain ⟨ys, e1, r1⟩ := rc'.mem List.mem_cons_self
  obtain ⟨v, rfl, rv⟩ := one_rep rxs
  obtain rfl := rep_ref.mp rv
  have trw : Tr K H (upd H a (.lst (ys ++ zs))) := rc'.tr_write
  exact ⟨a, b, ys, zs, rep_ref.mp rx, rfl, e1, f1, Nat.le_trans (by rw [← reps_len r1, ← reps_len r2]; exact hz) (by decide), k _ _ _ _ q trw (rc'.write ⟨_, upd_same, reps_mono trw _ _ (reps_app r1 r2)⟩) (rep_non.mpr rfl)⟩
/-- sep.join(xs), xs a list of texts -/
def qJoin : RWM := fun x xs Cs Q => ∃ (a : Str) (p : Addr) (ys : List Str), x = .str a ∧ xs = [.ref p] ∧ LsAt p (ys.map W.str) Cs ∧ (ys.map (·.length)).sum + ys.length * a.length ≤ 16777216 ∧ Q (.str (Txt.join a ys)) Cs
theorem lk_join : LkM K (fun x xs H Q => ∃ a p, ∃ ys : List Str, x = .str a ∧ xs = [.ref p] ∧ (SqL K H p (ys.map V.str) ∨ SqT K H p (ys.map V.str)) ∧
    (ys.map (·.length)).sum + ys.length * a.length ≤ 16777216 ∧ Q (.str (Txt.join a ys)) H) qJoin := fun x xs vx vs H Cs Q Q' ⟨a, p, ys, e, e2, hl, hz, q⟩ rc rx rxs k => by
  subst e e2
  obtain ⟨v, rfl, rv⟩ := one_rep rxs
  obtain rfl := rep_ref.mp rv
  obtain ⟨zs, h1, h2⟩ := hl.get rc
  obtain rfl := reps_strs.mp h2
  exact ⟨a, p, ys, rep_str.mp rx, rfl, .inl h1, hz, k.here q rc (rep_str.mpr rfl)⟩
end
end SL
namespace SL
open PySem PySem.Spec PyProof.Rows L2
theorem lk_slS {K : PySem.W.Frag} : LkS K rSlS qSlS := fun x vx lo hi H Cs Q Q' ⟨z, e, hz, q⟩ rc rx k => by
  subst e
  exact ⟨z, rep_str.mp rx, hz, k.here q rc (rep_str.mpr rfl)⟩
end SL
namespace SL
open PySem PySem.Spec PyProof.Rows L2

/-! ### a, *b = t, t a tuple -/
section
variable {prog : Program} {w : World} {A : Around} {E : Value → Shared → Prop} {s : Shared} {env : Env}
theorem star_items {l : Addr} {x : Value} {r : List Value} {items : Array Value} {Q : List Value → Shared → Prop} (hl : IsTup s.heap l items) (hh : A.handled = none) (he : items.toList = x :: r) (hz : items.size ≤ 16384)
    (h : ∀ D h' tk, s.heap.get? D = none → (∀ b o, s.heap.get? b = some o → h'.get? b = some o) → h'.get? D = some { cls := .type "list", data := .seq r.toArray } → Q [x, .ref D] { s with heap := h', toks := tk }) :
    wpAny (model prog w) A (unpackItems (.ref l) 2 (some 1)) Q E s := by
  have hlt : l ≠ s.heap.objs.size := by obtain ⟨o, ho, _⟩ := hl; exact Nat.ne_of_lt (Heap.lt_size ho)
  have hsz : items.size = r.length + 1 := by rw [← Array.length_toList, he]; rfl
  unfold unpackItems notIterableAtAll
  refine wpAny_bind (wpAny_bind (wpAny_specialOf hl.typeIs slot_tuple_iter.lookup (wpAny_pure ?_)))
  refine wpAny_bind (wpAny_holding (iter_tuple hl ?_))
  refine wpAny_bind (wpAny_holding (draw_tuple hlt 1 0 _ _ ⟨_, Heap.get?_push_size _ rfl, rfl, rfl⟩ (hl.push _) (by omega) fun h1 it1 sb1 => ?_))
  have hl1 : IsTup h1 l items := (hl.push _).extBut sb1.extBut hlt
  obtain ⟨oi, hoi, _⟩ := id it1
  obtain ⟨ol, hol, _⟩ := id hl1
  have e1 : (items.toList.drop 0).take 1 = [x] := by rw [he]; rfl
  rw [e1]
  show wpAny _ _ (holding [x] (collect (.ref s.heap.objs.size)) >>= fun rest => _) _ _ _
  refine wpAny_bind (wpAny_holding (PySem.W.kun_collect (s := { s with heap := h1 }) (T := "tuple_iterator") (.inr (.inr (.inr rfl))) (Walks.tuple (A := A.in1) hh s.heap.objs.size l hlt items) (fun j u st => st.1.typeIs) (k := 1) (by omega) ⟨it1, hl1⟩ (Heap.lt_size hoi) (Heap.lt_size hol) (fun h2 tk hk => ?_) (by rw [sizeLine_eq]; omega)))
  have e2 : items.toList.drop 1 = r := by rw [he]; rfl
  rw [e2]
  have e3 : r.length - (2 - 1 - 1) = r.length := by omega
  show wpAny _ _ (newList (r.take (r.length - (2 - 1 - 1))) >>= fun d => pure ([x] ++ [d] ++ r.drop (r.length - (2 - 1 - 1)))) _ _ _
  rw [e3, List.take_length, List.drop_length]
  have old : ∀ b o, s.heap.get? b = some o → h2.get? b = some o := fun b o e => by
    have hb : b ≠ s.heap.objs.size := Nat.ne_of_lt (Heap.lt_size e)
    exact hk b o hb ((sb1.2 b hb).trans (Heap.get?_push_of_some _ e))
  refine wpAny_bind (wpAny_newObj_type ?_ (by show r.toArray.size ≤ sizeLine; rw [List.size_toArray, sizeLine_eq]; omega))
  refine wpAny_pure (h _ _ _ ?_ (fun b o e => Heap.get?_push_of_some _ (old b o e)) (Heap.get?_push_size _ rfl))
  cases q : s.heap.get? h2.objs.size with
  | none => rfl
  | some o => exact absurd (Heap.lt_size (old _ _ q)) (Nat.lt_irrefl _)
end
section
variable {X : Cx} {pins : List (Addr × Obj)} {σ : L2.St} {H : Hp} {s : Shared} {h' : Heap} {a : Addr} {o : HO}
theorem HOk_none {P : Program} {w : World} {H : Hp} {h : Heap} {a : Addr} (x : HOk P w H h) (hn : h.get? a = none) : H a = none := by
  cases q : H a with
  | none => rfl
  | some u =>
    have h1 : ∃ ob, h.get? a = some ob := by
      have ok := x a u q
      clear q
      induction u with
      | lst xs => obtain ⟨_, _, _, _, e⟩ := ok; exact ⟨_, e⟩
      | tup xs => obtain ⟨_, _, _, ob, e, _⟩ := ok; exact ⟨_, e⟩
      | dK kvs => obtain ⟨_, _, _, _, ob, _, _, e, _⟩ := ok; exact ⟨_, e⟩
      | dT kvs => obtain ⟨_, _, _, _, ob, _, _, e, _⟩ := ok; exact ⟨_, e⟩
      | set S n => obtain ⟨ob, _, _, _, e, _⟩ := ok; exact ⟨_, e⟩
      | ins C dx fs => obtain ⟨_, _, _, e, _⟩ := ok; exact ⟨_, e⟩
      | own y => exact ok
      | xd fs => obtain ⟨_, ⟨_, _, _, e, _⟩, _⟩ := ok; exact ⟨_, e⟩
      | rng lo hi => obtain ⟨_, _, _, e⟩ := ok; exact ⟨_, e⟩
      | frz ob u ih => obtain ⟨e, _⟩ := ok; exact ⟨_, e⟩
      | tbl ps => exact ⟨_, ok⟩
      | met f y => exact ⟨_, ok⟩
      | ext φ => obtain ⟨_, ⟨ob, e⟩, _⟩ := ok; exact ⟨_, e⟩
    obtain ⟨ob, e⟩ := h1
    rw [hn] at e
    cases e
/-- a new object laid and tracked, wherever it stands -/
theorem inv_laid {t' : Nat} (I : Inv X pins σ H s) (k : ∀ b u, s.heap.get? b = some u → h'.get? b = some u) (hn : s.heap.get? a = none) (new : ObjOk X.prog X.w (upd H a o) h' a o) :
    Inv X pins σ (upd H a o) { s with heap := h', toks := t' } := by
  have nH := HOk_none I.hok hn
  have ne : ∀ {b u}, s.heap.get? b = some u → b ≠ a := fun {b u} e z => by
    rw [z, hn] at e
    cases e
  refine I.un ⟨fun b u q _ _ _ => k b u q, fun b u q _ _ _ => ⟨u.slots, k b u q⟩, fun b u q n _ => by rw [upd_ne (ne q)]; exact n, fun b u q _ => ⟨u, k b u q⟩, fun b xs q => by rw [upd_ne (ne_of_none q nH)]; exact q,
    fun b u xs q => by rw [upd_ne (ne_of_none q nH)]; exact q, fun b ps q => ⟨#[], by rw [upd_ne (ne_of_none q nH), q]; simp⟩⟩ fun b u e => ?_
  by_cases hb : b = a
  · subst hb
    rw [upd_same] at e
    cases e
    exact new
  · rw [upd_ne hb] at e
    exact (I.hok b u e).stay (fun c v _ q => k c v q) (fun c q => by rw [upd_ne (ne_of_none q nH)]; exact q) fun c xs q => by rw [upd_ne (ne_of_none q nH)]; exact q
/-- (a, *b) = a tuple of one or more -/
def gTupStar (K : PySem.W.Frag) (t : TGs) : TG := fun v σ H Q => ∃ a x r, v = .ref a ∧ SqT K H a (x :: r) ∧ r.length ≤ 1000 ∧ ∀ D, H D = none → t [x, .ref D] σ (upd H D (.lst r)) Q
theorem pg_tupStar {es : List Expr} {k : Nat} {t : TGs} {pos : Pos} (hc : X.calm = true) (h : PGs X es t)
    (hn : (assignEach es X.env).length = 2 := by rfl) (hst : (assignEach es X.env).findIdx? (·.1) = some 1 := by rfl) : PG X (.Tuple es k pos) (gTupStar X.K t) := by
  refine ⟨fun pins s σ H v u Q I r hw => ?_⟩
  obtain ⟨a, x, rest, e1, hq, hl, hw⟩ := hw
  subst e1
  cases r
  obtain ⟨its, rv, ht, hz⟩ := I.tuple hq
  cases rv with
  | @cons _ u _ us r1 r2 =>
    have hlen := r2.length
    rw [assign_Tuple]
    refine wpAny_bind (wpAny_standAt ?_)
    unfold unpack
    rw [hn, hst]
    refine wpAny_bind (wpAny_holding (star_items ht (I.ok.hd hc) (x := u) (r := us) (by simp) (by simp only [List.size_toArray, List.length_cons]; omega) fun D h' tk hD old hob => ?_))
    have I1 : Inv X pins σ (upd H D (.lst rest)) { s with heap := h', toks := tk } := inv_laid I old hD ⟨sz1000 hl, us, 0, r2, hob⟩
    exact h.run pins _ σ _ [x, .ref D] [u, .ref D] Q I1 (.cons r1 (.cons rfl .nil)) (hw D (HOk_none I.hok hD))
end
/-- a name that takes a star's list -/
def gStarW (t : MGs) : MG := fun ρ w Cs Q => ∃ x r, w = .tup (x :: r) ∧ r.length ≤ 1000 ∧ ∀ D, t ρ [x, .ref D] ((D, .lst r) :: Cs) Q
section
variable {X : Cx} {es : List Expr} {pos : Pos}
theorem qg_star {js : List Nat} {k : Nat} {gs : MGs} (hc : X.calm = true) (h : QGs X js es gs) (hn : (assignEach es X.env).length = 2 := by rfl) (hst : (assignEach es X.env).findIdx? (·.1) = some 1 := by rfl) : QG X js (.Tuple es k pos) (gStarW gs) :=
  pg_imp (pg_tupStar hc h hn hst) fun v σ H Q' ⟨ρ, w, Cs, Q, R, C, rp, ⟨x, r, e, hl, h⟩, kQ⟩ => by
    subst e
    obtain ⟨t, xs, rfl, h1, h2⟩ := rep_tup.mp rp
    obtain ⟨vx, vr, rfl, r1, r2⟩ := reps_cons.mp h2
    refine ⟨t, vx, vr, rfl, h1, by rw [← reps_len r2]; exact hl, fun D hD => ?_⟩
    have tr : Tr X.K H (upd H D (.lst vr)) := tr_new hD
    exact ⟨ρ, [x, .ref D], (D, .lst r) :: Cs, Q, R.mono tr, C.new hD ⟨vr, upd_same, reps_mono tr _ _ r2⟩, reps_cc.mpr ⟨rep_mono tr _ _ r1, reps_cc.mpr ⟨rep_ref.mpr rfl, reps_nil.mpr rfl⟩⟩, h D, fun ρ' C' σ' H' q tr2 => kQ ρ' C' σ' H' q (tr.trans tr2)⟩
/-- *b as a target in a row -/
theorem qgs_consStar {js ks : List Nat} {e : Expr} {p : Pos} {g : MG} {gs : MGs} (h1 : QG X js e g) (h2 : QGs X ks es gs) (hs : (assignEach (.Starred e p :: es) X.env).map (·.2) = assign e X.env :: (assignEach es X.env).map (·.2) := by rfl) : QGs X (js ++ ks) (.Starred e p :: es) (gsCons g gs) := by
  have base : PGs X (.Starred e p :: es) (gCons (liftG X js g) (liftGs X ks gs)) := ⟨fun pins s σ H vs us Q I r h => by
    obtain ⟨v, vr, e1, h⟩ := h
    subst e1
    cases r with
    | cons r rr =>
      rw [hs]
      exact assignInOrder_cons (thn (h1.run pins s σ H _ _ _ I r h) fun _ s1 ⟨σ1, H1, I1, q1⟩ => h2.run pins s1 σ1 H1 _ _ Q I1 rr q1)⟩
  exact pgs_imp base fun vs σ H Q' ⟨ρ, ws, Cs, Q, R, C, rp, ⟨w, r, e, h⟩, kQ⟩ => by
    subst e
    obtain ⟨x, xs, rfl, r1, r2⟩ := reps_cons.mp rp
    exact ⟨x, xs, rfl, ρ, w, Cs, _, R, C, r1, h, fun ρ' C' σ' H' q tr R' rc of => ⟨ρ', r, C', Q, R', rc, reps_mono tr _ _ r2, q, fun ρ2 C2 σ2 H2 q2 tr2 R2 rc2 of2 => kQ ρ2 C2 σ2 H2 q2 (tr.trans tr2) R2 rc2 (of.trans of2)⟩⟩
end
end SL
/-! ### match over written texts -/
namespace SL
open PySem PySem.Spec PyProof.Rows L2
def mGo (x : Str) : List (Str × MS) → MS
  | [] => sNext
  | (y, b) :: r => fun D ρ Cs => (x = y → b D ρ Cs) ∧ (x ≠ y → mGo x r D ρ Cs)
def sMatch (t : ME) (cs : List (Str × MS)) : MS := fun D ρ Cs => t (fun C w Cs => D.ex C w ρ Cs) ρ Cs fun w C => ∃ x, w = .str x ∧ mGo x cs D ρ C
section
variable {X : Cx} {body : List Stmt} {rest : List MatchCase} {b : MS} {r : List (Str × MS)}
structure QMs (X : Cx) (cases : List MatchCase) (cs : List (Str × MS)) : Prop where
  run : ∀ (Wx : WX), Takes X Wx → ∀ (pins : List (Addr × Obj)) (s : Shared) (σ : L2.St) (H : Hp) (D : Ends) (x : Str) (v : Value) (first : Bool), Inv X pins σ H s → RelV (.str x) v → liftS X Wx (mGo x cs) D σ H →
    wpAny (model X.prog X.w) X.A (matchCases cases X.env v first) (SP X pins D) X.xe s
theorem qms_nil : QMs X [] [] := ⟨fun Wx tk pins s σ H D x v first I r ⟨ρ, Cs, DW, R, C, h, L⟩ => wpAny_matchCases_nil ⟨σ, H, I, L.nx ρ Cs σ H h (Tr.refl H) R C⟩⟩
theorem qms_cons {y : Str} {j : Nat} {p1 p2 : Pos} (hb : QSs X body b) (hr : QMs X rest r) : QMs X (⟨.MatchValue (.Constant (.str y) j p1) p2, none, body⟩ :: rest) ((y, b) :: r) := ⟨fun Wx tk pins s σ H D x v first I rv ⟨ρ, Cs, DW, R, C, ⟨h1, h2⟩, L⟩ => by
  have rv' : RelV (.str x) v := rv
  obtain ⟨t, rfl⟩ := rv'
  refine wpAny_matchCases_cons (wpAny_matchPattern_Value (Calls.Constant_str ?_))
  refine thn (op_eq pins { s with toks := s.toks + 1 } σ H (.str x) (.str y) _ _ (fun z H' => z = .bl (decide (x = y)) ∧ H' = H) (I.tok _) rv ⟨_, rfl⟩ ⟨rfl, by simp, rfl⟩) fun c s1 hc => ?_
  obtain ⟨z, H', I1, rz, e1, e2⟩ := hc
  subst e1 e2
  cases rz
  refine wpAny_truthy_bool ?_
  by_cases e : x = y
  · rw [decide_eq_true e]
    show wpAny _ _ (assignInOrder [] []) _ _ _
    exact assignInOrder_nil ((hb Wx tk).run pins s1 σ H' D I1 ⟨ρ, Cs, DW, R, C, h1 e, L⟩)
  · rw [decide_eq_false e]
    exact hr.run Wx tk pins s1 σ H' D x _ false I1 rv ⟨ρ, Cs, DW, R, C, h2 e, L⟩⟩
theorem qs_match {subject : Expr} {cases : List MatchCase} {t : ME} {cs : List (Str × MS)} {pos : Pos} (he : QE X subject t) (hc : QMs X cases cs) : QS X (.Match subject cases pos) (sMatch t cs) := fun Wx tk => ⟨fun pins s σ H D I ⟨ρ, Cs, DW, R, C, h, L⟩ => by
  have base := (he Wx tk).run pins s σ H (fun v H1 => ∃ x, v = .str x ∧ liftS X Wx (mGo x cs) D σ H1) I ⟨ρ, Cs, _, _, R, C, h, fun w C1 v H1 ⟨x, e, q⟩ tr rc rp => by
    subst e
    exact ⟨x, rep_str.mp rp, ρ, C1, DW, R.mono tr, rc, q, L.mono tr⟩, L.lnkX R⟩
  refine wpAny_Match (thn base fun v s1 hv => ?_)
  obtain ⟨v', H1, I1, rv, x, e, q⟩ := hv
  subst e
  exact hc.run Wx tk pins s1 σ H1 D x v true I1 rv q⟩
end
/-! ### a dict of the module's top -/
/-- what the written dict at d answers: its texts and numbers by text keys -/
structure DTab (K : PySem.W.Frag) (w : World) (d : Addr) (f : Str → Option W) : Prop where
  lit : ∃ es n, KDict K w d es n
  get : ∀ x y, f x = some y → ∃ u v, PySem.W.nsIn K d x = some (some u) ∧ RelV v u ∧ ∀ H, rep K H y v
def qIxD (d : Addr) (f : Str → Option W) : RW2 := fun x y Cs Q => x = .ref d ∧ ∃ z w, y = .str z ∧ f z = some w ∧ Q w Cs
theorem lk_ixD {K : PySem.W.Frag} {w : World} {d : Addr} {f : Str → Option W} (T : DTab K w d f) : Lk2 K (rIxD K w) (qIxD d f) := fun x y vx vy H Cs Q Q' ⟨e, z, u, e2, hf, q⟩ rc rx ry k => by
  subst e e2
  obtain ⟨es, n, D⟩ := T.lit
  obtain ⟨uv, v, h1, h2, h3⟩ := T.get z u hf
  exact ⟨d, z, v, rep_ref.mp rx, rep_str.mp ry, ⟨es, n, uv, D.at_, D.lit, h1, h2⟩, k.here q rc (h3 H)⟩
end SL
namespace SL
open PySem PySem.Spec PyProof.Rows L2

/-! ### dicts with keys that are ints or texts -/
def kW : Key → W
  | .inl i => .int i
  | .inr x => .str x
section
variable {κ : Type} [DecidableEq κ]
def valW (kvs : List (κ × W)) (k : κ) : Option W := (kvs.find? fun kv => decide (kv.1 = k)).map (·.2)
def putW (kvs : List (κ × W)) (k : κ) (v : W) : List (κ × W) :=
  if (kvs.any fun kv => decide (kv.1 = k)) = true then kvs.map (fun kv => if kv.1 = k then (kv.1, v) else kv) else kvs ++ [(k, v)]
def mergeW (kvs more : List (Key × W)) : List (Key × W) := more.foldl (fun acc kv => putW acc kv.1 kv.2) kvs
variable {K : PySem.W.Frag} {H : Hp}
theorem repKV_nil {κ : Type} {kvs' : List (κ × V)} : repKV K H ([] : List (κ × W)) kvs' ↔ kvs' = [] := by
  constructor
  · rintro ⟨h, _⟩
    exact List.map_eq_nil_iff.mp h.symm
  · rintro rfl
    exact ⟨rfl, reps_nil.mpr rfl⟩
theorem repKV_cons {κ : Type} {k : κ} {w : W} {kvs : List (κ × W)} {kvs' : List (κ × V)} : repKV K H ((k, w) :: kvs) kvs' ↔ ∃ v r, kvs' = (k, v) :: r ∧ rep K H w v ∧ repKV K H kvs r := by
  constructor
  · rintro ⟨h1, h2⟩
    cases kvs' with
    | nil => cases h1
    | cons p r =>
      obtain ⟨k', v⟩ := p
      rw [List.map_cons, List.map_cons] at h1 h2
      injection h1 with h3 h4
      obtain ⟨h5, h6⟩ := reps_cc.mp h2
      have h3' : k = k' := h3
      subst h3'
      exact ⟨v, r, rfl, h5, h4, h6⟩
  · rintro ⟨v, r, rfl, h1, h2, h3⟩
    exact ⟨by rw [List.map_cons, List.map_cons, h2], reps_cc.mpr ⟨h1, h3⟩⟩
theorem val_rel (k : κ) : ∀ {kvs : List (κ × W)} {kvs' : List (κ × V)}, repKV K H kvs kvs' → (∀ w, valW kvs k = some w → ∃ v, valV kvs' k = some v ∧ rep K H w v) ∧ (valW kvs k = none → valV kvs' k = none)
  | [], kvs', h => by
    rw [repKV_nil.mp h]
    exact ⟨fun w e => (by cases e), fun _ => rfl⟩
  | (j, w) :: kvs, kvs', h => by
    obtain ⟨v, r, rfl, h1, h2⟩ := repKV_cons.mp h
    obtain ⟨i1, i2⟩ := val_rel k h2
    unfold valW valV at *
    by_cases e : j = k
    · rw [List.find?_cons_of_pos (by simp [e]), List.find?_cons_of_pos (by simp [e])]
      refine ⟨fun u q => ?_, fun q => by cases q⟩
      injection q with q
      subst q
      exact ⟨v, rfl, h1⟩
    · rw [List.find?_cons_of_neg (by simp [e]), List.find?_cons_of_neg (by simp [e])]
      exact ⟨i1, i2⟩
theorem any_rel (k : κ) {kvs : List (κ × W)} {kvs' : List (κ × V)} (h : repKV K H kvs kvs') : (kvs.any fun kv => decide (kv.1 = k)) = kvs'.any fun kv => decide (kv.1 = k) := by
  have e : (kvs.map (·.1)).any (fun x => decide (x = k)) = (kvs'.map (·.1)).any (fun x => decide (x = k)) := by rw [h.1]
  rw [List.any_map, List.any_map] at e
  exact e
theorem put_rel (k : κ) {w : W} {v : V} (hw : rep K H w v) {kvs : List (κ × W)} {kvs' : List (κ × V)} (h : repKV K H kvs kvs') : repKV K H (putW kvs k w) (putK kvs' k v) := by
  unfold putW putK
  rw [any_rel k h]
  by_cases e : (kvs'.any fun kv => decide (kv.1 = k)) = true
  · rw [if_pos e, if_pos e]
    clear e
    induction kvs generalizing kvs' with
    | nil => rw [repKV_nil.mp h]; exact repKV_nil.mpr rfl
    | cons p kvs ih =>
      obtain ⟨j, u⟩ := p
      obtain ⟨v', r, rfl, h1, h2⟩ := repKV_cons.mp h
      rw [List.map_cons, List.map_cons]
      by_cases e : j = k
      · rw [if_pos (show (j, u).1 = k from e), if_pos (show (j, v').1 = k from e)]
        exact repKV_cons.mpr ⟨v, _, rfl, hw, ih h2⟩
      · rw [if_neg (show ¬ (j, u).1 = k from e), if_neg (show ¬ (j, v').1 = k from e)]
        exact repKV_cons.mpr ⟨v', _, rfl, h1, ih h2⟩
  · rw [if_neg e, if_neg e]
    refine ⟨by rw [List.map_append, List.map_append, h.1]; rfl, ?_⟩
    rw [List.map_append, List.map_append]
    exact reps_app h.2 (reps_cc.mpr ⟨hw, reps_nil.mpr rfl⟩)
theorem merge_rel : ∀ {more : List (Key × W)} {more' : List (Key × V)} {kvs : List (Key × W)} {kvs' : List (Key × V)}, repKV K H more more' → repKV K H kvs kvs' → repKV K H (mergeW kvs more) (mergeK kvs' more')
  | [], more', kvs, kvs', h, g => by rw [repKV_nil.mp h]; exact g
  | (k, w) :: more, more', kvs, kvs', h, g => by
    obtain ⟨v, r, rfl, h1, h2⟩ := repKV_cons.mp h
    show repKV K H (mergeW (putW kvs k w) more) (mergeK (putK kvs' k v) r)
    exact merge_rel h2 (put_rel k h1 g)
theorem kW_rep {k : Key} {v : V} : rep K H (kW k) v ↔ v = kV k := by
  cases k with
  | inl i => exact rep_int
  | inr x => exact rep_str
end
section
variable {X : Cx} {K : PySem.W.Frag} {pos : Pos}
/-- {} -/
def mDNew : ME := fun _ _ Cs Q => ∀ p, Q (.ref p) ((p, .dic []) :: Cs)
theorem qe_dnew : QE X (.Dict [] [] pos) mDNew := fun Wx _ => pe_imp pe_dnewK fun σ H Q' ⟨ρ, Cs, E, Q, R, C, h, kQ, kE⟩ p hp =>
  kQ _ _ _ _ (h p) (tr_new hp) (C.new hp ⟨[], upd_same, repKV_nil.mpr rfl⟩) (rep_ref.mpr rfl)
/-- {k: v, ..} -/
def mPairs : List (ME × ME) → XW → Rho → Cells → (List (W × W) → Cells → Prop) → Prop
  | [], _, _, Cs, Q => Q [] Cs
  | (tk, tv) :: r, E, ρ, Cs, Q => tk E ρ Cs fun x C1 => tv E ρ C1 fun y C2 => mPairs r E ρ C2 fun ps C3 => Q ((x, y) :: ps) C3
def mDisp (trs : List (ME × ME)) : ME := fun E ρ Cs Q => ∀ p, mPairs trs E ρ ((p, .dic []) :: Cs) fun ps C2 => ∃ Ds kvs, C2.Perm ((p, .dic []) :: Ds) ∧ ps = kvs.map (fun kv => (kW kv.1, kv.2)) ∧ kvs.length ≤ 15 ∧ Q (.ref p) ((p, .dic (mergeW [] kvs)) :: Ds)
def liftPs (X : Cx) (Wx : WX) : List (ME × ME) → List (TE × TE)
  | [] => []
  | (a, b) :: r => (liftE X Wx a, liftE X Wx b) :: liftPs X Wx r
structure QPs (X : Cx) (pos : Pos) (keys : List (Option Expr)) (values : List Expr) (trs : List (ME × ME)) : Prop where
  run : ∀ Wx, Takes X Wx → PPs X pos keys values (liftPs X Wx trs)
theorem qps_nil : QPs X pos [] [] [] := ⟨fun _ _ => pps_nil⟩
theorem qps_cons {k v : Expr} {ks : List (Option Expr)} {vs : List Expr} {tk tv : ME} {trs : List (ME × ME)} (hk : QE X k tk) (hv : QE X v tv) (hr : QPs X pos ks vs trs) : QPs X pos (some k :: ks) (v :: vs) ((tk, tv) :: trs) := ⟨fun Wx t => pps_cons (hk Wx t) (hv Wx t) (hr.run Wx t)⟩
theorem lift_ps {Wx : WX} : ∀ {trs : List (ME × ME)} {σ : L2.St} {H : Hp} {ρ : Rho} {Cs : Cells} {E : XW} {Q : List (W × W) → Cells → Prop} {Q' : List (V × V) → Hp → Prop}, RelS X.K X.N.length H σ ρ → RelC X.K H Cs → mPairs trs E ρ Cs Q →
    (∀ ps Cs' ps' H', Q ps Cs' → Tr X.K H H' → RelC X.K H' Cs' → reps X.K H' (ps.map (·.1)) (ps'.map (·.1)) → reps X.K H' (ps.map (·.2)) (ps'.map (·.2)) → Q' ps' H') → LnkX X.K X.N.length Wx σ H E → tPairs (liftPs X Wx trs) σ H Q'
  | [], σ, H, ρ, Cs, E, Q, Q', R, C, h, k, kE => k [] Cs [] H h (Tr.refl H) C (reps_nil.mpr rfl) (reps_nil.mpr rfl)
  | (a, b) :: r, σ, H, ρ, Cs, E, Q, Q', R, C, h, k, kE => ⟨ρ, Cs, E, _, R, C, h, fun x C1 vx H1 q1 tr1 rc1 rx => ⟨ρ, C1, E, _, R.mono tr1, rc1, q1, fun y C2 vy H2 q2 tr2 rc2 ry =>
      lift_ps (R.mono (tr1.trans tr2)) rc2 q2 (fun ps C3 ps' H3 q3 tr3 rc3 r1 r2 => k ((x, y) :: ps) C3 ((vx, vy) :: ps') H3 q3 ((tr1.trans tr2).trans tr3) rc3 (reps_cc.mpr ⟨rep_mono (tr2.trans tr3) _ _ rx, r1⟩) (reps_cc.mpr ⟨rep_mono tr3 _ _ ry, r2⟩)) (kE.mono (tr1.trans tr2)), kE.mono tr1⟩, kE⟩
theorem keys_of {H : Hp} : ∀ {kvs : List (Key × W)} {ps' : List (V × V)}, reps K H ((kvs.map fun kv => (kW kv.1, kv.2)).map (·.1)) (ps'.map (·.1)) → reps K H ((kvs.map fun kv => (kW kv.1, kv.2)).map (·.2)) (ps'.map (·.2)) →
    ∃ kvs' : List (Key × V), ps' = kvs'.map (fun kv => (kV kv.1, kv.2)) ∧ repKV K H kvs kvs'
  | [], ps', h1, h2 => by
    have e := reps_nil.mp h1
    rw [List.map_eq_nil_iff] at e
    subst e
    exact ⟨[], rfl, repKV_nil.mpr rfl⟩
  | (k, w) :: kvs, ps', h1, h2 => by
    cases ps' with
    | nil =>
      obtain ⟨_, _, e, _⟩ := reps_cons.mp h1
      cases e
    | cons p ps' =>
      obtain ⟨x, v⟩ := p
      obtain ⟨a1, a2⟩ := reps_cc.mp h1
      obtain ⟨b1, b2⟩ := reps_cc.mp h2
      obtain ⟨kvs', e, hr⟩ := keys_of a2 b2
      have hx : x = kV k := kW_rep.mp a1
      exact ⟨(k, v) :: kvs', by rw [e, hx]; rfl, repKV_cons.mpr ⟨v, kvs', rfl, b1, hr⟩⟩
theorem qe_disp {keys : List (Option Expr)} {values : List Expr} {trs : List (ME × ME)} (h : QPs X pos keys values trs) (hall : keys.all (·.isSome) = true := by rfl) (hl : keys.length = values.length := by rfl) (h0 : keys ≠ [] := by intro z; cases z)
    (h15 : keys.length ≤ 15 := by decide) : QE X (.Dict keys values pos) (mDisp trs) := fun Wx tk => pe_imp (pe_disp (h.run Wx tk) hall hl h0 h15) fun σ H Q' ⟨ρ, Cs, E, Q, R, C, h, kQ, kE⟩ p hp => by
  have tr0 : Tr X.K H (upd H p (.dK [])) := tr_new hp
  refine lift_ps (R.mono tr0) (C.new (o := .dic []) hp ⟨[], upd_same, repKV_nil.mpr rfl⟩) (h p) (fun ps C2 ps' H2 q tr2 rc2 r1 r2 => ?_) (kE.mono tr0)
  obtain ⟨Ds, kvs, hpm, e, h15', q⟩ := q
  subst e
  have rc3 := rc2.perm hpm
  obtain ⟨kv0, e1, e2⟩ := rc3.mem List.mem_cons_self
  obtain rfl := repKV_nil.mp e2
  obtain ⟨kvs', e3, hr⟩ := keys_of r1 r2
  have trw : Tr X.K H2 (upd H2 p (.dK (mergeK [] kvs'))) := rc3.tr_write
  refine ⟨e1, kvs', e3, ?_, kQ _ _ _ _ q ((tr0.trans tr2).trans trw) (rc3.write ⟨_, upd_same, repKV_mono trw (merge_rel hr (repKV_nil.mpr rfl))⟩) (rep_ref.mpr rfl)⟩
  have := congrArg List.length hr.1
  rw [List.length_map, List.length_map] at this
  omega
/-- d[k] -/
def qDGet : RW2 := fun x y Cs Q => ∃ a kvs k w, x = .ref a ∧ (a, MO.dic kvs) ∈ Cs ∧ y = kW k ∧ valW kvs k = some w ∧ Q w Cs
theorem qe_dget {o i : Expr} {td ty : ME} (hu : X.A.units + 1 < cLine) (ho : QE X o td) (hi : QE X i ty) (hs : NoSl i) : QE X (.Subscript o i pos) (mBin qDGet td ty) := fun Wx tk => pe_imp (pe_dget hu (ho Wx tk) (hi Wx tk) hs) fun σ H Q' h =>
  lift2 (r := fun x y H2 Q => ∃ a v, x = .ref a ∧ DGet H2 a y (some v) ∧ Q v H2) (fun x y vx vy H Cs Q Q' ⟨a, kvs, k, w, e1, hm, e2, e3, q⟩ rc rx ry kq => by
    subst e1 e2
    obtain ⟨kvs', f1, f2⟩ := rc.mem hm
    obtain ⟨v, g1, g2⟩ := (val_rel k f2).1 w e3
    obtain rfl := kW_rep.mp ry
    refine ⟨a, v, rep_ref.mp rx, ?_, kq.here q rc g2⟩
    rw [← g1]
    exact DGet.k f1) h
/-- k in d, k not in d -/
def qDIn (neg : Bool) : RW2 := fun y x Cs Q => ∃ a kvs k, x = .ref a ∧ (a, MO.dic kvs) ∈ Cs ∧ y = kW k ∧ Q (.bl (if neg then !(valW kvs k).isSome else (valW kvs k).isSome)) Cs
/-- d.get(k), d.get(k, x) -/
def mDGet1 (td ty : ME) : ME := fun E ρ Cs Q => td E ρ Cs fun x C1 => (∃ a kvs, x = .ref a ∧ (a, MO.dic kvs) ∈ C1) ∧ ty E ρ C1 fun y C2 => ∃ a kvs k, x = .ref a ∧ (a, MO.dic kvs) ∈ C2 ∧ y = kW k ∧ Q ((valW kvs k).getD .non) C2
def mDGet2 (td ty tx : ME) : ME := fun E ρ Cs Q => td E ρ Cs fun x C1 => (∃ a kvs, x = .ref a ∧ (a, MO.dic kvs) ∈ C1) ∧ ty E ρ C1 fun y C2 => tx E ρ C2 fun z C3 => ∃ a kvs k, x = .ref a ∧ (a, MO.dic kvs) ∈ C3 ∧ y = kW k ∧ Q ((valW kvs k).getD z) C3
theorem getD_rel {H : Hp} {kvs : List (Key × W)} {kvs' : List (Key × V)} {k : Key} {z : W} {vz : V} (h : repKV K H kvs kvs') (hz : rep K H z vz) : rep K H ((valW kvs k).getD z) ((valV kvs' k).getD vz) := by
  obtain ⟨h1, h2⟩ := val_rel k h
  cases e : valW kvs k with
  | none => rw [h2 e]; exact hz
  | some w =>
    obtain ⟨v, e1, e2⟩ := h1 w e
    rw [e1]
    exact e2
theorem qe_dget1 {o e : Expr} {apos cpos : Pos} {td ty : ME} (hu : X.A.units + 1 < cLine) (ho : QE X o td) (he : QE X e ty) (m : M1 X o "get" apos e cpos) : QE X (.Call (.Attribute o "get" apos) [e] [] cpos) (mDGet1 td ty) := fun Wx tk => pe_imp (pe_dget1 hu (ho Wx tk) (he Wx tk) m) fun σ H Q' ⟨ρ, Cs, E, Q, R, C, h, kQ, kE⟩ =>
  ⟨ρ, Cs, E, _, R, C, h, fun x C1 vx H1 ⟨⟨a, kvs, e1, hm⟩, q1⟩ tr1 rc1 rx => by
    subst e1
    obtain ⟨kvs', f1, _⟩ := rc1.mem hm
    refine ⟨a, rep_ref.mp rx, .inl ⟨kvs', .inl f1⟩, ρ, C1, E, _, R.mono tr1, rc1, q1, fun y C2 vy H2 q2 tr2 rc2 ry => ?_, kE.mono tr1⟩
    obtain ⟨a', kvs2, k, e2, hm2, e3, q⟩ := q2
    injection e2 with e2
    subst e2 e3
    obtain ⟨kvs3, g1, g2⟩ := rc2.mem hm2
    obtain rfl := kW_rep.mp ry
    exact ⟨_, DGet.k g1, kQ _ C2 _ H2 q (tr1.trans tr2) rc2 (getD_rel g2 (rep_non.mpr rfl))⟩, kE⟩
theorem qe_dget2 {o e f : Expr} {apos cpos : Pos} {td ty tx : ME} (hu : X.A.units + 1 < cLine) (ho : QE X o td) (he : QE X e ty) (hf : QE X f tx) (m : M2 X o "get" apos e f cpos) : QE X (.Call (.Attribute o "get" apos) [e, f] [] cpos) (mDGet2 td ty tx) := fun Wx tk => pe_imp (pe_dget2 hu (ho Wx tk) (he Wx tk) (hf Wx tk) m) fun σ H Q' ⟨ρ, Cs, E, Q, R, C, h, kQ, kE⟩ =>
  ⟨ρ, Cs, E, _, R, C, h, fun x C1 vx H1 ⟨⟨a, kvs, e1, hm⟩, q1⟩ tr1 rc1 rx => by
    subst e1
    obtain ⟨kvs', f1, _⟩ := rc1.mem hm
    refine ⟨a, rep_ref.mp rx, .inl ⟨kvs', .inl f1⟩, ρ, C1, E, _, R.mono tr1, rc1, q1, fun y C2 vy H2 q2 tr2 rc2 ry => ⟨ρ, C2, E, _, R.mono (tr1.trans tr2), rc2, q2, fun z C3 vz H3 q3 tr3 rc3 rz => ?_, kE.mono (tr1.trans tr2)⟩, kE.mono tr1⟩
    obtain ⟨a', kvs2, k, e2, hm2, e3, q⟩ := q3
    injection e2 with e2
    subst e2 e3
    obtain ⟨kvs3, g1, g2⟩ := rc3.mem hm2
    obtain rfl := kW_rep.mp ry
    exact ⟨_, DGet.k g1, kQ _ C3 _ H3 q ((tr1.trans tr2).trans tr3) rc3 (getD_rel g2 rz)⟩, kE⟩
/-- d[k] = v -/
def sDPutW (td ty tv : ME) : MS := fun D ρ Cs => tv (fun C w Cs => D.ex C w ρ Cs) ρ Cs fun v C1 => td (fun C w Cs => D.ex C w ρ Cs) ρ C1 fun x C2 => ty (fun C w Cs => D.ex C w ρ Cs) ρ C2 fun y C3 =>
  ∃ a kvs k Ds, x = .ref a ∧ C3.Perm ((a, .dic kvs) :: Ds) ∧ y = kW k ∧ kvs.length < 100000 ∧ D.nx ρ ((a, .dic (putW kvs k v)) :: Ds)
theorem qs_dput {o i v : Expr} {pos' : Pos} {td ty tv : ME} (hu : X.A.units + 1 < cLine) (ho : QE X o td) (hi : QE X i ty) (hv : QE X v tv) (hs : swapsWith v (some (.Subscript o i pos')) pos.line X.env = pure false := by rfl) : QS X (.Assign [.Subscript o i pos'] v pos) (sDPutW td ty tv) := fun Wx tk =>
  ps_imp (ps_dput hu (ho Wx tk) (hi Wx tk) (hv Wx tk) hs) fun D σ H ⟨ρ, Cs, DW, R, C, h, L⟩ => ⟨ρ, Cs, _, _, R, C, h, fun w C1 vw H1 q1 tr1 rc1 rw1 => ⟨ρ, C1, _, _, R.mono tr1, rc1, q1, fun x C2 vx H2 q2 tr2 rc2 rx => ⟨ρ, C2, _, _, R.mono (tr1.trans tr2), rc2, q2, fun y C3 vy H3 q3 tr3 rc3 ry => by
    obtain ⟨a, kvs, k, Ds, e1, hp, e2, hz, q⟩ := q3
    subst e1 e2
    have rc4 := rc3.perm hp
    obtain ⟨kvs', f1, f2⟩ := rc4.mem List.mem_cons_self
    obtain rfl := kW_rep.mp ry
    have trw : Tr X.K H3 (upd H3 a (.dK (putK kvs' k vw))) := rc4.tr_write
    have tr := ((tr1.trans tr2).trans tr3).trans trw
    have hl := congrArg List.length f2.1
    rw [List.length_map, List.length_map] at hl
    exact ⟨a, _, rep_ref.mp (rep_mono tr3 _ _ rx), DPut.k f1 (Nat.lt_of_lt_of_le (by rw [← hl]; exact hz) (by decide)), L.nx ρ _ σ _ q tr (R.mono tr) (rc4.write ⟨_, upd_same, repKV_mono trw (put_rel k (rep_mono (tr2.trans tr3) _ _ rw1) f2)⟩)⟩, (L.lnkX R).mono (tr1.trans tr2)⟩, (L.lnkX R).mono tr1⟩, L.lnkX R⟩
end
end SL
namespace SL
open PySem PySem.Spec PyProof.Rows L2

/-! ### operators by the kinds of their operands -/
def uAdd : RW2
  | .int i, .int j, Cs, Q => Q (.int (i + j)) Cs
  | .str i, .str j, Cs, Q => i.length + j.length ≤ sizeLine ∧ Q (.str (i ++ j)) Cs
  | .ref a, .ref b, Cs, Q => ∃ ws us, (a, MO.lst ws) ∈ Cs ∧ (b, MO.lst us) ∈ Cs ∧ ws.length + us.length ≤ 100000 ∧ ∀ p, Q (.ref p) ((p, .lst (ws ++ us)) :: Cs)
  | _, _, _, _ => False
def uMul : RW2
  | .int i, .int j, Cs, Q => CMulA i j ∧ Q (.int (i * j)) Cs
  | .ref a, .int k, Cs, Q => ∃ ws, (a, MO.lst ws) ∈ Cs ∧ (-9223372036854775808 ≤ k ∧ k < 9223372036854775808) ∧ ws.length * k.toNat ≤ 100000 ∧ ∀ p, Q (.ref p) ((p, .lst (List.replicate k.toNat ws).flatten) :: Cs)
  | _, _, _, _ => False
def deepW : W → Bool
  | .ref _ => true
  | .tup _ => true
  | _ => false
def uEq : RW2 := fun x y Cs Q => match seq x y with
  | some b => Q (.bl b) Cs
  | none => qEqD x y Cs Q
def uNe : RW2 := fun x y Cs Q => match seq x y with
  | some b => Q (.bl (!b)) Cs
  | none => qNeD x y Cs Q
def uIn (neg : Bool) : RW2
  | x, .tup ws, Cs, Q => flatW x = true ∧ ws.all flatW = true ∧ Q (.bl (if neg then !win x ws else win x ws)) Cs
  | x, .ref a, Cs, Q => ∃ ws, LsAt a ws Cs ∧ flatW x = true ∧ ws.all flatW = true ∧ Q (.bl (if neg then !win x ws else win x ws)) Cs
  | _, _, _, _ => False
def uIx : RW2
  | .tup ws, .int i, Cs, Q => ∃ w, nth ws i = some w ∧ Q w Cs
  | .ref a, .int i, Cs, Q => ∃ ws w, LsAt a ws Cs ∧ nth ws i = some w ∧ Q w Cs
  | .cst _ ws, .int i, Cs, Q => ∃ w, nth ws i = some w ∧ Q w Cs
  | .str z, .int i, Cs, Q => ∃ c, z.length ≤ sizeLine ∧ atI z.cps.toList i = some c ∧ Q (.str ⟨#[c]⟩) Cs
  | _, _, _, _ => False
section
variable {X : Cx} {K : PySem.W.Frag}
def rAddU : R2 := fun x y H Q => (rI0 (fun i j => .int (i + j))) x y H Q ∨ (∃ i j, x = .str i ∧ y = .str j ∧ i.length + j.length ≤ sizeLine ∧ Q (.str (i ++ j)) H) ∨ rCat x y H Q
theorem op_addU : OpR X (binaryOp .Add) rAddU := op_add.or (op_add_str.or op_cat)
theorem lk_addU : Lk2 K rAddU uAdd := fun x y vx vy H Cs Q Q' h rc rx ry k => by
  unfold uAdd at h
  split at h
  · exact .inl (lk_add _ _ vx vy H Cs Q Q' ⟨_, _, rfl, rfl, h⟩ rc rx ry k)
  · exact .inr (.inl (lk_catS _ _ vx vy H Cs Q Q' ⟨_, _, rfl, rfl, h.1, h.2⟩ rc rx ry k))
  · obtain ⟨ws, us, h1, h2, h3, h4⟩ := h
    exact .inr (.inr (lk_cat _ _ vx vy H Cs Q Q' ⟨_, _, ws, us, rfl, rfl, h1, h2, h3, h4⟩ rc rx ry k))
  · exact h.elim
theorem lk_rep : Lk2 K rRep qRep := fun x y vx vy H Cs Q Q' ⟨a, k, ws, e1, e2, hm, hk, hz, q⟩ rc rx ry kq => by
  subst e1 e2
  obtain ⟨xs, f1, r1⟩ := rc.mem hm
  exact ⟨a, k, xs, rep_ref.mp rx, rep_int.mp ry, f1, hk.1, hk.2, Nat.le_trans (by rw [← reps_len r1]; exact hz) (by decide), fun p hp => kq _ _ _ _ (q p) (tr_new hp) (rc.new hp ⟨_, upd_same, reps_mono (tr_new hp) _ _ (reps_rep r1 _)⟩) (rep_ref.mpr rfl)⟩
def rMulU : R2 := fun x y H Q => (rI CMulA (fun i j => .int (i * j))) x y H Q ∨ rRep x y H Q
theorem op_mulU : OpR X (binaryOp .Mult) rMulU := op_mulA.or op_rep
theorem lk_mulU : Lk2 K rMulU uMul := fun x y vx vy H Cs Q Q' h rc rx ry k => by
  unfold uMul at h
  split at h
  · exact .inl (lk_mul _ _ vx vy H Cs Q Q' ⟨_, _, rfl, rfl, h.1, h.2⟩ rc rx ry k)
  · obtain ⟨ws, h1, h2, h3, h4⟩ := h
    exact .inr (lk_rep _ _ vx vy H Cs Q Q' ⟨_, _, ws, rfl, rfl, h1, h2, h3, h4⟩ rc rx ry k)
  · exact h.elim
def rEqU (K : PySem.W.Frag) : R2 := fun x y H Q => rEq x y H Q ∨ rEqD K x y H Q
theorem op_eqU (hu : X.A.units + 64 < cLine) : OpR X (compareOp .Eq) (rEqU X.K) := op_eq.or (op_eqD hu)
theorem lk_eqU : Lk2 K (rEqU K) uEq := fun x y vx vy H Cs Q Q' h rc rx ry k => by
  unfold uEq at h
  cases e : seq x y with
  | some b =>
    rw [e] at h
    exact .inl (lk_eq x y vx vy H Cs Q Q' ⟨b, e, h⟩ rc rx ry k)
  | none =>
    rw [e] at h
    exact .inr (lk_eqD x y vx vy H Cs Q Q' h rc rx ry k)
def rNeU (K : PySem.W.Frag) : R2 := fun x y H Q => rNe x y H Q ∨ rNeD K x y H Q
theorem op_neU (hu : X.A.units + 64 < cLine) : OpR X (compareOp .NotEq) (rNeU X.K) := op_ne.or (op_neD hu)
theorem lk_neU : Lk2 K (rNeU K) uNe := fun x y vx vy H Cs Q Q' h rc rx ry k => by
  unfold uNe at h
  cases e : seq x y with
  | some b =>
    rw [e] at h
    exact .inl (lk_ne x y vx vy H Cs Q Q' ⟨b, e, h⟩ rc rx ry k)
  | none =>
    rw [e] at h
    exact .inr (lk_neD x y vx vy H Cs Q Q' h rc rx ry k)
theorem lk_inU {neg : Bool} : Lk2 K (rIn K neg) (uIn neg) := fun x y vx vy H Cs Q Q' h rc rx ry k => by
  unfold uIn at h
  split at h
  · exact lk_inT _ _ vx vy H Cs Q Q' ⟨_, rfl, h.1, h.2.1, h.2.2⟩ rc rx ry k
  · obtain ⟨ws, h1, h2, h3, h4⟩ := h
    exact lk_inL _ _ vx vy H Cs Q Q' ⟨_, ws, rfl, h1, h2, h3, h4⟩ rc rx ry k
  · exact h.elim
theorem lk_ixU : Lk2 K (rIx K) uIx := fun x y vx vy H Cs Q Q' h rc rx ry k => by
  unfold uIx at h
  split at h
  · obtain ⟨w, h1, h2⟩ := h
    exact .inr (.inl (lk_ixT _ _ vx vy H Cs Q Q' ⟨_, _, w, rfl, rfl, h1, h2⟩ rc rx ry k))
  · obtain ⟨ws, w, h0, h1, h2⟩ := h
    exact .inl (lk_ixL _ _ vx vy H Cs Q Q' ⟨_, ws, _, w, rfl, rfl, h0, h1, h2⟩ rc rx ry k)
  · obtain ⟨w, h1, h2⟩ := h
    obtain ⟨rfl, ys, hs, r2⟩ := rep_cst.mp rx
    obtain ⟨v, h3, h4⟩ := nth_at r2 h1
    exact .inl ⟨_, ys, _, v, rfl, rep_int.mp ry, hs.1, h3, k.here h2 rc h4⟩
  · obtain ⟨c, h0, h1, h2⟩ := h
    exact .inr (.inr ⟨_, _, c, rep_str.mp rx, rep_int.mp ry, h0, h1, k.here h2 rc (rep_str.mpr rfl)⟩)
  · exact h.elim
/-- len -/
def uLen : RWL
  | [.cst _ ws], Cs, Q => Q (.int (ws.length : Nat)) Cs
  | [.ref a], Cs, Q => ∃ ws, LsAt a ws Cs ∧ Q (.int (ws.length : Nat)) Cs
  | [.tup ws], Cs, Q => Q (.int (ws.length : Nat)) Cs
  | [.str z], Cs, Q => z.length ≤ sizeLine ∧ Q (.int (z.length : Nat)) Cs
  | _, _, _ => False
def rLenU (K : PySem.W.Frag) : List V → Hp → VK → Prop := fun xs H Q => (∃ p ys, xs = [.ref p] ∧ (SqL K H p ys ∨ SqT K H p ys) ∧ Q (.int ys.length) H) ∨ ∃ z, xs = [.str z] ∧ z.length ≤ sizeLine ∧ Q (.int z.length) H
theorem call_lenU : CallR X (.builtin "len") (rLenU X.K) := call_len_seq.or call_len_str
theorem lk_lenU : LkL K (rLenU K) uLen := fun xs vs H Cs Q Q' h rc rx k => by
  unfold uLen at h
  split at h
  · obtain ⟨v, rfl, r⟩ := one_rep rx
    obtain ⟨rfl, ys, hs, r2⟩ := rep_cst.mp r
    refine .inl ⟨_, ys, rfl, .inl hs.1, ?_⟩
    rw [← reps_len r2]
    exact k.here h rc (rep_int.mpr rfl)
  · obtain ⟨ws, h1, h2⟩ := h
    exact .inl (lk_lenQ _ vs H Cs Q Q' (.inl ⟨_, ws, rfl, h1, h2⟩) rc rx k)
  · exact .inl (lk_lenQ _ vs H Cs Q Q' (.inr ⟨_, rfl, h⟩) rc rx k)
  · exact .inr (lk_lenS _ vs H Cs Q Q' ⟨_, rfl, h.1, h.2⟩ rc rx k)
  · exact h.elim
/-- min, max of two ints, of a list -/
def uMin : RWL
  | [.int i, .int j], Cs, Q => Q (.int (if j < i then j else i)) Cs
  | [.ref a], Cs, Q => ∃ ns : List Int, LsAt a (ns.map W.int) Cs ∧ 0 < ns.length ∧ ∀ m, m ∈ ns → (∀ y, y ∈ ns → m ≤ y) → Q (.int m) Cs
  | _, _, _ => False
def uMax : RWL
  | [.int i, .int j], Cs, Q => Q (.int (if j > i then j else i)) Cs
  | [.ref a], Cs, Q => ∃ ns : List Int, LsAt a (ns.map W.int) Cs ∧ 0 < ns.length ∧ ∀ m, m ∈ ns → (∀ y, y ∈ ns → y ≤ m) → Q (.int m) Cs
  | _, _, _ => False
def rMinU (K : PySem.W.Frag) : List V → Hp → VK → Prop := fun xs H Q => (∃ i j, xs = [.int i, .int j] ∧ Q (.int (if j < i then j else i)) H) ∨ rMin K xs H Q
def rMaxU (K : PySem.W.Frag) : List V → Hp → VK → Prop := fun xs H Q => (∃ i j, xs = [.int i, .int j] ∧ Q (.int (if j > i then j else i)) H) ∨ rMax K xs H Q
theorem call_minU (hc : X.calm = true) : CallR X (.builtin "min") (rMinU X.K) := (call_min2 hc).or (cr_min hc)
theorem call_maxU (hc : X.calm = true) : CallR X (.builtin "max") (rMaxU X.K) := (call_max2 hc).or (cr_max hc)
theorem lk_minU : LkL K (rMinU K) uMin := fun xs vs H Cs Q Q' h rc rx k => by
  unfold uMin at h
  split at h
  · exact .inl (lk_min2 _ vs H Cs Q Q' ⟨_, _, rfl, h⟩ rc rx k)
  · obtain ⟨ns, h1, h2, h3⟩ := h
    exact .inr (lk_minL _ vs H Cs Q Q' ⟨_, ns, rfl, h1, h2, h3⟩ rc rx k)
  · exact h.elim
theorem lk_maxU : LkL K (rMaxU K) uMax := fun xs vs H Cs Q Q' h rc rx k => by
  unfold uMax at h
  split at h
  · exact .inl (lk_max2 _ vs H Cs Q Q' ⟨_, _, rfl, h⟩ rc rx k)
  · obtain ⟨ns, h1, h2, h3⟩ := h
    exact .inr (lk_maxL _ vs H Cs Q Q' ⟨_, ns, rfl, h1, h2, h3⟩ rc rx k)
  · exact h.elim
/-- int(a truth value), int(a text) -/
def uInt : RWL
  | [.bl b], Cs, Q => Q (.int (if b then 1 else 0)) Cs
  | [.int b], Cs, Q => Q (.int b) Cs
  | [.str a], Cs, Q => ∃ n, PySem.intText? a = some n ∧ a.length ≤ 640 ∧ Q (.int n) Cs
  | _, _, _ => False
def rIntU : List V → Hp → VK → Prop := fun xs H Q => ((∃ i, xs = [.int i] ∧ Q (.int i) H) ∨ ∃ k, xs = [.bl k] ∧ Q (.int (if k then 1 else 0)) H) ∨ ∃ a n, xs = [.str a] ∧ PySem.intText? a = some n ∧ a.length ≤ 640 ∧ Q (.int n) H
theorem call_intU : CallR X (.type "int") rIntU := call_int1.or call_int_str
theorem lk_intU : LkL K rIntU uInt := fun xs vs H Cs Q Q' h rc rx k => by
  unfold uInt at h
  split at h
  · exact .inl (lk_intB _ vs H Cs Q Q' ⟨_, rfl, h⟩ rc rx k)
  · obtain ⟨v, rfl, r1⟩ := one_rep rx
    exact .inl (.inl ⟨_, by rw [rep_int.mp r1], k.here h rc (rep_int.mpr rfl)⟩)
  · obtain ⟨n, h1, h2, h3⟩ := h
    exact .inr (lk_intS _ vs H Cs Q Q' ⟨_, n, rfl, h1, h2, h3⟩ rc rx k)
  · exact h.elim
def uList : RWL
  | [.ref a], Cs, Q => ∃ ws, LsAt a ws Cs ∧ ∀ p, Q (.ref p) ((p, .lst ws) :: Cs)
  | [.tup ws], Cs, Q => ∀ p, Q (.ref p) ((p, .lst ws) :: Cs)
  | _, _, _ => False
theorem lk_listU : LkL K (fun xs H Q => ∃ p ys, xs = [.ref p] ∧ (SqL K H p ys ∨ SqT K H p ys) ∧ ∀ l, H l = none → Q (.ref l) (upd H l (.lst ys))) uList := fun xs vs H Cs Q Q' h rc rx k => by
  unfold uList at h
  split at h
  · obtain ⟨ws, h1, h2⟩ := h
    exact lk_list _ vs H Cs Q Q' (.inl ⟨_, ws, rfl, h1, h2⟩) rc rx k
  · exact lk_list _ vs H Cs Q Q' (.inr ⟨_, rfl, h⟩) rc rx k
  · exact h.elim
/-- isinstance with one built-in class -/
def uIsi : RWL
  | [x, .ty c], Cs, Q => ∃ t b, tyW Cs x t ∧ kitB t c = some b ∧ Q (.bl b) Cs
  | _, _, _ => False
theorem lk_isiU : LkL K (rIsi K) uIsi := fun xs vs H Cs Q Q' h rc rx k => by
  unfold uIsi at h
  split at h
  · obtain ⟨t, b, h1, h2, h3⟩ := h
    exact lk_isi _ vs H Cs Q Q' ⟨_, _, t, b, rfl, h1, h2, h3⟩ rc rx k
  · exact h.elim
/-- slices of lists, tuples and texts -/
def uSl : RWS
  | .cst _ ws, lo, hi, Cs, Q => ∀ p, Q (.ref p) ((p, .lst (cutW ws lo hi)) :: Cs)
  | .ref a, lo, hi, Cs, Q => ∃ ws, LsAt a ws Cs ∧ ∀ p, Q (.ref p) ((p, .lst (cutW ws lo hi)) :: Cs)
  | .str z, lo, hi, Cs, Q => z.length ≤ sizeLine ∧ Q (.str (cutS z lo hi)) Cs
  | _, _, _, _, _ => False
def rSlU (K : PySem.W.Frag) : V → Option Int → Option Int → Hp → VK → Prop := fun x lo hi H Q => rSlL K x lo hi H Q ∨ rSlS x lo hi H Q
theorem sl_U : SlR X (rSlU X.K) := sl_list.or sl_str
theorem lk_slU : LkS K (rSlU K) uSl := fun x vx lo hi H Cs Q Q' h rc rx k => by
  unfold uSl at h
  split at h
  · obtain ⟨rfl, ys, hs, r2⟩ := rep_cst.mp rx
    exact .inl ⟨_, ys, rfl, hs.1, fun p hp => k _ _ _ _ (h p) (tr_new hp) (rc.new hp ⟨_, upd_same, reps_mono (tr_new hp) _ _ (reps_cut r2 lo hi)⟩) (rep_ref.mpr rfl)⟩
  · obtain ⟨ws, h1, h2⟩ := h
    exact .inl (lk_slL _ vx _ _ H Cs Q Q' ⟨_, ws, rfl, h1, h2⟩ rc rx k)
  · exact .inr (lk_slS _ vx _ _ H Cs Q Q' ⟨_, rfl, h.1, h.2⟩ rc rx k)
  · exact h.elim
end
end SL
namespace SL
open PySem PySem.Spec PyProof.Rows L2

/-! ### the end: the law's own call, nothing being shown around it -/
section
variable {P : Program} {w : World} {K : PySem.W.Frag} {mg mb : Str → Option Value} {k : Nat} {fa a : Addr} {fd : FuncData} {x : Str} {sp : Sp} {s : Shared} {vs : List Value} {ns : List Int}
/-- one abstract heap that tells at most of the script -/
theorem call_from {H : Hp} (KX : K.In s.heap) (hns : s.heap.Ns mainGlobals mg) (hb : s.heap.Ns builtinsNs mb) (hbb : ∀ x : Str, x ≠ "__name__" → mb x = bootBuiltins x) (hlim : s.heap.NoLimit) (hg : s.gens = #[])
    (ha : s.heap.get? a = some { cls := .type "list", data := .seq vs.toArray }) (hr : Room k callerA)
    (F : ∀ base : Heap, K.In base → base.Ns mainGlobals mg → FnG P w K mg base k fa fd [x] sp) (hbind : ∀ (s : Shared) (u : Value), BindsTo s fd ⟨[u], []⟩ [(x, u)])
    (hsp : sp [.ref a] H (fun v _ => v = .bl true) fun _ _ _ => False) (hok : HOk P w H s.heap) (hA : ∀ b u, H b = some u → b = a ∧ (∃ o, u = .frz o (.lst (ns.map V.int))) ∧ K.lookup a = none) :
    codeAny (model P w) callerA (.call (.ref fa) ⟨[.ref a], []⟩) (fun r s' => r = .ok (.ret (.bool true)) ∧ OldK s.heap s'.heap ∧ s'.os = s.os ∧ AllBare s'.gens) s := by
  have free : ∀ {b : Addr} {o : Obj}, s.heap.get? b = some o → b ≠ a → H b = none := fun {b o} _ hb => by
    cases q : H b with
    | none => rfl
    | some u => exact absurd (hA b u q).1 hb
  have nd : ∀ {b : Addr} {o : Obj} {es : Array DictEntry} {ep : Nat}, s.heap.get? b = some o → o.data = .dict es ep → b ≠ a := fun {b o es ep} e d z => by
    subst z
    rw [ha] at e
    cases e
    cases (show Data.seq vs.toArray _ = Data.dict es ep from d)
  have nsK : ∀ {b : Addr} {m : Str → Option Value}, s.heap.Ns b m → (hidT s.heap H).Ns b m := fun {b m} ⟨o, es, ep, e, d, r⟩ => ⟨o, es, ep, hidT_get e (free e (nd e d)), d, r⟩
  have hKb : K.In (hidT s.heap H) := fun b o e => by
    refine hidT_get (KX b o e) ?_
    cases q : H b with
    | none => rfl
    | some u =>
      obtain ⟨z, _, kn⟩ := hA b u q
      rw [z, kn] at e
      cases e
  obtain ⟨mc, l1, l2⟩ := hlim
  have e0 : Env0 P w K mg (hidT s.heap H) callerA [] s H :=
    ⟨rfl, ⟨hKb, nsK hns, ⟨mb, nsK hb, hbb⟩, ⟨mc, nsK l1, l2⟩⟩, fun _ _ e => of_hidT e, Nat.le_of_eq (hidT_size _ _), trivial, fun _ hb => (nomatch hb), hok, .of_eq hg⟩
  refine codeAny_mono ((F _ hKb (nsK hns)).run callerA [] s H ⟨[.ref a], []⟩ [.ref a] [.ref a] _ _ hr rfl e0 (hbind s (.ref a)) (.cons rfl .nil) hsp) fun r s' h => ?_
  match r, h with
  | .error e, h =>
    obtain ⟨_, _, _, _, _, _, _, _, _, _, _, _, z⟩ := h
    exact z.elim
  | .ok .next, h => exact h.elim
  | .ok .brk, h => exact h.elim
  | .ok .cont, h => exact h.elim
  | .ok (.ret u), h =>
    obtain ⟨v, H', os, bare, un, hok', r', q⟩ := h
    obtain rfl : v = .bl true := q
    obtain rfl : u = Value.bool true := r'
    refine ⟨rfl, OldK.of_keep fun b o e => ?_, os, bare⟩
    cases q : H b with
    | none => exact un.keep b o e q (fun z => nomatch z) (fun z => nomatch z)
    | some u =>
      obtain ⟨_, ⟨ob, rfl⟩, _⟩ := hA b u q
      obtain ⟨e1, _⟩ := hok b _ q
      obtain ⟨e2, _⟩ := hok' b _ (un.frzs b ob _ q)
      rw [e] at e1
      cases e1
      exact e2
theorem law_callG (KX : K.In s.heap) (hns : s.heap.Ns mainGlobals mg) (hb : s.heap.Ns builtinsNs mb) (hbb : ∀ x : Str, x ≠ "__name__" → mb x = bootBuiltins x) (hlim : s.heap.NoLimit) (hg : s.gens = #[])
    (ha : s.heap.get? a = some { cls := .type "list", data := .seq vs.toArray }) (hi : IntsAre vs ns) (hl : ns.length ≤ sizeLine) (hr : Room k callerA)
    (F : ∀ base : Heap, K.In base → base.Ns mainGlobals mg → FnG P w K mg base k fa fd [x] sp) (hbind : ∀ (s : Shared) (u : Value), BindsTo s fd ⟨[u], []⟩ [(x, u)])
    (hsp : ∀ H : Hp, KL K H a (ns.map V.int) → sp [.ref a] H (fun v _ => v = .bl true) fun _ _ _ => False) :
    codeAny (model P w) callerA (.call (.ref fa) ⟨[.ref a], []⟩) (fun r s' => r = .ok (.ret (.bool true)) ∧ OldK s.heap s'.heap ∧ s'.os = s.os ∧ AllBare s'.gens) s := by
  cases hK : K.lookup a with
  | some o =>
    have e := KX a o hK
    rw [ha] at e
    cases e
    have q : ∀ H : Hp, SqL K H a (ns.map V.int) := fun H => .inr ⟨_, vs.toArray, _, hK, rfl, rfl, rfl, by rw [List.size_toArray, hi.length]; exact hl, by simpa using vals_ints hi⟩
    exact call_from (H := fun _ => none) (ns := ns) KX hns hb hbb hlim hg ha hr F hbind (hsp _ ⟨q _, .inr (q _)⟩) (fun b u z => nomatch z) fun b u z => nomatch z
  | none =>
    have at_ : (fun b => if b = a then some (HO.frz { cls := .type "list", data := .seq vs.toArray } (.lst (ns.map V.int))) else none) a = some (HO.frz { cls := .type "list", data := .seq vs.toArray } (.lst (ns.map V.int))) := if_pos rfl
    refine call_from (H := fun b => if b = a then some (.frz { cls := .type "list", data := .seq vs.toArray } (.lst (ns.map V.int))) else none) (ns := ns) KX hns hb hbb hlim hg ha hr F hbind (hsp _ ⟨.inl (.inr ⟨_, at_⟩), .inl ⟨_, at_⟩⟩) (fun b u z => ?_) fun b u z => ?_
    · by_cases e : b = a
      · have z' := (if_pos e).symm.trans z
        cases z'
        subst e
        exact ⟨ha, by rw [List.length_map]; exact hl, vs, _, vals_ints hi, ha⟩
      · have z' := (if_neg e).symm.trans z
        cases z'
    · by_cases e : b = a
      · have z' := (if_pos e).symm.trans z
        cases z'
        exact ⟨e, ⟨_, rfl⟩, hK⟩
      · have z' := (if_neg e).symm.trans z
        cases z'
end
/-- what the law's def promises: True, whatever the script -/
def spLawW : SpW := fun ws Cs Q _ => ∃ a ns, ws = [.cst a ((ns : List Int).map W.int)] ∧ ns.length ≤ 63 ∧ Cs = [] ∧ Q (.bl true) []
theorem walkG_of {l : PySem.W.OpenLaw} {k : Nat} {q : Program} {loose : List Str} {XP : (Str → Option Value) → Heap → Prop} {YP : World → Heap → Prop} {d : DefRec} {K : Params → PySem.W.Frag} {x : Str}
    (hn : l.most = some 63) (hdf : d.params.defaults = []) (hr : Room k callerA) (hY : ∀ (w : World) (h : Heap), YP w h → (K w.params).In h)
    (F : ∀ (w : World) (mg : Str → Option Value) (fa : Addr) (h : Heap), (K w.params).In h → h.Ns mainGlobals mg → mg d.name = some (.ref fa) →
      ∃ fd : FuncData, (∀ (s : Shared) (u : Value), BindsTo s fd ⟨[u], []⟩ [(x, u)]) ∧ ∀ base : Heap, (K w.params).In base → base.Ns mainGlobals mg → FnG l.prog w (K w.params) mg base k fa fd [x] (spOf (K w.params) spLawW)) :
    PySem.W.WalkO q loose XP YP l.row.toRowW d [] (fun f vs => PySem.call f vs) := by
  refine Att.attach_call hn hdf fun w s0 s1 mg mb fa o pm cd doc a vs ns G Y ho hd hcd hmg hobj hints hlen hg => ?_
  obtain ⟨fd, hb, hF⟩ := F w mg fa _ (hY w _ Y) G.T.g hmg
  refine law_callG (hY w _ Y) G.T.g G.T.b G.T.builtins G.T.nolimit hg hobj hints (Nat.le_trans hlen (by decide)) hr hF hb fun H hk => ?_
  refine ⟨[.cst a (ns.map W.int)], [], fun w C => w = .bl true, X0, reps_cc.mpr ⟨rep_cst.mpr ⟨rfl, _, hk, reps_ints.mpr rfl⟩, reps_nil.mpr rfl⟩, ⟨List.nodup_nil, fun _ hp => nomatch hp⟩, ⟨a, ns, rfl, hlen, rfl, rfl⟩, fun w Cs v H' e _ _ rp => ?_, fun _ _ _ _ _ _ e => e.elim⟩
  subst e
  exact rep_bl.mp rp
end SL
namespace SL
open PySem PySem.Spec PyProof.Rows L2

/-! ### what a module's top holds -/
structure Has (K : PySem.W.Frag) (mg : Str → Option Value) (x : Str) (st : Stmt) : Prop where
  ex : ∃ f fd, mg x = some (.ref f) ∧ Fun K x x st f fd
abbrev KSig := List Str × Nat × Nat × List Nat
/-- a def that may be called -/
structure Cal (P : Program) (w : World) (K : PySem.W.Frag) (mg : Str → Option Value) (base : Heap) (k : Nat) (x : Str) (sp : SpW) (kb : List KSig) : Prop where
  ex : ∃ f fd ps, FnG P w K mg base k f fd ps (spOf K sp) ∧ mg x = some (.ref f) ∧ PySem.W.keepIn K (.ref f) = true ∧ Binds K fd ps [] ∧ ∀ t, t ∈ kb → KBd fd ps t.1 t.2.1 t.2.2.1 t.2.2.2
section
variable {P : Program} {w : World} {K : PySem.W.Frag} {mg : Str → Option Value} {base : Heap} {k : Nat} {x : Str} {sp : SpW} {kb : List KSig}
theorem Cal.mono {j : Nat} (C : Cal P w K mg base j x sp kb) (h : j ≤ k) : Cal P w K mg base k x sp kb := by
  obtain ⟨f, fd, ps, h1, h2⟩ := C.ex
  exact ⟨f, fd, ps, h1.mono h, h2⟩
theorem Cal.weak {sp' : SpW} (C : Cal P w K mg base k x sp kb) (h : ∀ ws Cs Q E, sp' ws Cs Q E → sp ws Cs Q E) : Cal P w K mg base k x sp' kb := by
  obtain ⟨f, fd, ps, h1, h2⟩ := C.ex
  have up : ∀ vs H Q E, spOf K sp' vs H Q E → spOf K sp vs H Q E := fun vs H Q E ⟨ws, Cs, Q1, E1, a, b, c, d⟩ => ⟨ws, Cs, Q1, E1, a, b, h _ _ _ _ c, d⟩
  exact ⟨f, fd, ps, ⟨fun vs H Q E e => h1.len vs H Q E (up _ _ _ _ e), fun A outer s H args us vs Q E hr hg he hb hv hs => h1.run A outer s H args us vs Q E hr hg he hb hv (up _ _ _ _ hs)⟩, h2⟩
theorem okC {st : Stmt} {N ps : List Str} {t : MS} (h : Has K mg x st) (S : FnScope N ps (defScope st))
    (bind : ∀ (kV doc pm : Value) (an : Option Addr) (cdv ct : Value) (us : List Value), us.length = ps.length → bindArgs (PySem.W.fnOf x x (defArgs st) (defBody st) (defScope st) .none kV doc pm an cdv ct) { pos := us } = pure (ps.zip us))
    (kbind : ∀ t, t ∈ kb → ∀ (kV doc pm : Value) (an : Option Addr) (cdv ct : Value), KBd (PySem.W.fnOf x x (defArgs st) (defBody st) (defScope st) .none kV doc pm an cdv ct) ps t.1 t.2.1 t.2.2.1 t.2.2.2)
    (len : ∀ ws Cs Q E, sp ws Cs Q E → ws.length = ps.length)
    (der : ∀ (f : Addr) (cdv : Value) (A : Around) (outer : List Env) (s : Shared) (H : Hp) (E : XK), Room k (A.deeper (envOfC x (defScope st) s.heap.objs.size f cdv)) → A.guards = some [] →
      QSs (cxOf (L2.CX P w) P w K mg base N x (defScope st) f cdv A outer s H E) (defBody st) t)
    (pure : ∀ ws Cs Q E, sp ws Cs Q E → t (EndsD Q E) (rho0 ws) Cs) : Cal P w K mg base (k + 1) x sp kb := by
  obtain ⟨f, fd, hm, F⟩ := h.ex
  refine ⟨f, fd, ps, okS F S len (der f) pure, hm, F.kp, F.binds bind, fun t ht => ?_⟩
  obtain ⟨oc, od, kV, doc, pm, an, cdv, ct, osl, e, _⟩ := F.ex
  rw [e]
  exact kbind t ht kV doc pm an cdv ct
end
section
variable {X : Cx} {a b c e : Expr} {es : List Expr} {ta tb tc : ME} {t u : MT} {pos p : Pos} {sp : SpW} {k j : Nat} {x : Str} {tr : MA} {kb : List KSig}
theorem qe_c (C : Cal X.prog X.w X.K X.mg X.base j x sp kb) (hj : j ≤ k) (hr : Room k X.A) (hgu : X.A.guards = some []) (ha : QA X (e :: es) tr) (hg : Gl X x := by rfl)
    (hdb : (x == ("__debug__" : Str)) = false := by decide) (he : starEach (e :: es) X.env = (false, eval e X.env) :: starEach es X.env := by rfl) (hpl : (backTo pos (starEach es X.env)).any (·.1) = false := by rfl) :
    QE X (.Call (.Name x p) (e :: es) [] pos) (mCall sp tr) := by
  obtain ⟨f, fd, ps, h1, h2, h3, h4, _⟩ := (C.mono hj).ex
  exact qe_call h1 hr hgu h2 h3 h4 ha hg hdb he hpl
theorem qe_c0 (C : Cal X.prog X.w X.K X.mg X.base j x sp kb) (hj : j ≤ k) (hr : Room k X.A) (hgu : X.A.guards = some []) (hg : Gl X x := by rfl)
    (hdb : (x == ("__debug__" : Str)) = false := by decide) : QE X (.Call (.Name x p) [] [] pos) (mCall sp mNil) := by
  obtain ⟨f, fd, ps, h1, h2, h3, h4, _⟩ := (C.mono hj).ex
  exact qe_call0 h1 hr hgu h2 h3 h4 hg hdb
theorem qe_ck {ks : List Str} {n m : Nat} {o : List Nat} {kws : List Keyword} {t2 : MA} (C : Cal X.prog X.w X.K X.mg X.base j x sp kb) (hj : j ≤ k) (hr : Room k X.A) (hgu : X.A.guards = some []) (hk : (ks, n, m, o) ∈ kb) (ha : QA X (e :: es) tr) (hkw : QK X kws t2) (hg : Gl X x := by rfl)
    (hall : (backToKw pos (keywordEach kws X.env)).all (·.1.isSome) = true := by rfl) (hks : (backToKw pos (keywordEach kws X.env)).filterMap (·.1) = ks := by rfl)
    (hdb : (x == ("__debug__" : Str)) = false := by decide) (he : starEach (e :: es) X.env = (false, eval e X.env) :: starEach es X.env := by rfl)
    (hpl : ((backTo pos (starEach (e :: es) X.env)).any (·.1) || (backToKw pos (keywordEach kws X.env)).any (·.1.isNone)) = false := by rfl) :
    QE X (.Call (.Name x p) (e :: es) kws pos) (mCallK sp n m o tr t2) := by
  obtain ⟨f, fd, ps, h1, h2, h3, h4, h5⟩ := (C.mono hj).ex
  exact qe_callK h1 hr hgu h2 h3 (h5 _ hk) ha hkw hg hall hks hdb he hpl
theorem qe_ck0 {ks : List Str} {m : Nat} {o : List Nat} {kws : List Keyword} {t2 : MA} (C : Cal X.prog X.w X.K X.mg X.base j x sp kb) (hj : j ≤ k) (hr : Room k X.A) (hgu : X.A.guards = some []) (hk : (ks, 0, m, o) ∈ kb) (hkw : QK X kws t2) (hg : Gl X x := by rfl)
    (hall : (backToKw pos (keywordEach kws X.env)).all (·.1.isSome) = true := by rfl) (hks : (backToKw pos (keywordEach kws X.env)).filterMap (·.1) = ks := by rfl)
    (hdb : (x == ("__debug__" : Str)) = false := by decide)
    (hpl : ((backTo pos (starEach [] X.env)).any (·.1) || (backToKw pos (keywordEach kws X.env)).any (·.1.isNone)) = false := by rfl) :
    QE X (.Call (.Name x p) [] kws pos) (mCallK sp 0 m o mNil t2) := by
  obtain ⟨f, fd, ps, h1, h2, h3, h4, h5⟩ := (C.mono hj).ex
  exact qe_callK0 h1 hr hgu h2 h3 (h5 _ hk) hkw hg hall hks hdb hpl
/-! names that are not the def's own -/
theorem qe_ty {T : String} (hm : X.mg x = none) (hv : bootBuiltins x = some (.type T)) (hg : Gl X x := by rfl) (hn : x ≠ "__name__" := by decide) (hd : (x == ("__debug__" : Str)) = false := by decide) : QE X (.Name x pos) (mC (.ty T)) := qe_const (pe_bltn (v := .ty T) hg hm hv rfl hn hd) fun _ => rep_ty.mpr rfl
/-- a module's text, number, address -/
theorem qe_gstr {z : Str} (hm : ∃ t, X.mg x = some (.str z t)) (hg : Gl X x := by rfl) (hd : (x == ("__debug__" : Str)) = false := by decide) : QE X (.Name x pos) (mC (.str z)) := by
  obtain ⟨t, h⟩ := hm
  exact qe_glob hg h (v := .str z) ⟨t, rfl⟩ (fun _ => rep_str.mpr rfl) hd
theorem qe_gint {z : Int} (hm : ∃ t, X.mg x = some (.int z t)) (hg : Gl X x := by rfl) (hd : (x == ("__debug__" : Str)) = false := by decide) : QE X (.Name x pos) (mC (.int z)) := by
  obtain ⟨t, h⟩ := hm
  exact qe_glob hg h (v := .int z) ⟨t, rfl⟩ (fun _ => rep_int.mpr rfl) hd
/-- a written dict of texts: what it answers -/
structure HasD (K : PySem.W.Frag) (w : World) (mg : Str → Option Value) (x : Str) (f : Str → Option W) : Prop where
  ex : ∃ d, mg x = some (.ref d) ∧ DTab K w d f
def mDT (f : Str → Option W) (ti : ME) : ME := fun E ρ Cs Q => ti E ρ Cs fun y C => ∃ z, y = .str z ∧ ∃ w, f z = some w ∧ Q w C
theorem qe_dt {f : Str → Option W} {i : Expr} {ti : ME} (D : HasD X.K X.w X.mg x f) (hi : QE X i ti) (hs : PlainIx i) (hg : Gl X x := by rfl) (hd : (x == ("__debug__" : Str)) = false := by decide) : QE X (.Subscript (.Name x p) i pos) (mDT f ti) := by
  obtain ⟨d, hm, T⟩ := D.ex
  refine fun Wx tk => pe_imp (pe_ix ix_kdict (pe_glob (v := .ref d) hg hm rfl hd) (hi Wx tk) hs) fun σ H Q' h => ?_
  obtain ⟨ρ, Cs, E, Q, R, C, h, kQ, kE⟩ := h
  exact ⟨ρ, Cs, E, _, R, C, h, fun y C2 vy H2 ⟨z, e1, w, e2, q⟩ tr2 rc2 ry => lk_ixD T (.ref d) y (.ref d) vy H2 C2 Q Q' ⟨rfl, z, w, e1, e2, q⟩ rc2 (rep_ref.mpr rfl) ry (Fin.mono kQ tr2), kE⟩
end
end SL
namespace SL
open PySem PySem.Spec PyProof.Rows L2
theorem bt_len : bootBuiltins "len" = some (.builtin "len") := PySem.boot_len
theorem bt_min : bootBuiltins "min" = some (.builtin "min") := by rfl
theorem bt_max : bootBuiltins "max" = some (.builtin "max") := by rfl
theorem bt_sum : bootBuiltins "sum" = some (.builtin "sum") := by rfl
theorem bt_abs : bootBuiltins "abs" = some (.builtin "abs") := by rfl
theorem bt_all : bootBuiltins "all" = some (.builtin "all") := by rfl
theorem bt_any : bootBuiltins "any" = some (.builtin "any") := by rfl
theorem bt_sorted : bootBuiltins "sorted" = some (.builtin "sorted") := by rfl
theorem bt_repr : bootBuiltins "repr" = some (.builtin "repr") := by rfl
theorem bt_isinstance : bootBuiltins "isinstance" = some (.builtin "isinstance") := by rfl
theorem bt_int : bootBuiltins "int" = some (.type "int") := by rfl
theorem bt_str : bootBuiltins "str" = some (.type "str") := by rfl
theorem bt_bool : bootBuiltins "bool" = some (.type "bool") := by rfl
theorem bt_list : bootBuiltins "list" = some (.type "list") := by rfl
theorem bt_tuple : bootBuiltins "tuple" = some (.type "tuple") := by rfl
theorem bt_dict : bootBuiltins "dict" = some (.type "dict") := by rfl
theorem bt_set : bootBuiltins "set" = some (.type "set") := by rfl
/-! ### promises by the number of arguments -/
def sp1 (p : W → Cells → WK → XW → Prop) : SpW := fun ws Cs Q E => ∃ x, ws = [x] ∧ p x Cs Q E
def sp2 (p : W → W → Cells → WK → XW → Prop) : SpW := fun ws Cs Q E => ∃ x y, ws = [x, y] ∧ p x y Cs Q E
def sp3 (p : W → W → W → Cells → WK → XW → Prop) : SpW := fun ws Cs Q E => ∃ x y z, ws = [x, y, z] ∧ p x y z Cs Q E
def sp4 (p : W → W → W → W → Cells → WK → XW → Prop) : SpW := fun ws Cs Q E => ∃ x y z u, ws = [x, y, z, u] ∧ p x y z u Cs Q E
theorem len1 {p : W → Cells → WK → XW → Prop} : ∀ ws Cs Q E, sp1 p ws Cs Q E → ws.length = 1 := fun ws Cs Q E ⟨_, e, _⟩ => by rw [e]; rfl
theorem len2 {p : W → W → Cells → WK → XW → Prop} : ∀ ws Cs Q E, sp2 p ws Cs Q E → ws.length = 2 := fun ws Cs Q E ⟨_, _, e, _⟩ => by rw [e]; rfl
theorem len3 {p : W → W → W → Cells → WK → XW → Prop} : ∀ ws Cs Q E, sp3 p ws Cs Q E → ws.length = 3 := fun ws Cs Q E ⟨_, _, _, e, _⟩ => by rw [e]; rfl
theorem len4 {p : W → W → W → W → Cells → WK → XW → Prop} : ∀ ws Cs Q E, sp4 p ws Cs Q E → ws.length = 4 := fun ws Cs Q E ⟨_, _, _, _, e, _⟩ => by rw [e]; rfl
theorem sp1_iff {p : W → Cells → WK → XW → Prop} {x : W} {Cs : Cells} {Q : WK} {E : XW} : sp1 p [x] Cs Q E ↔ p x Cs Q E := ⟨fun ⟨a, e, h⟩ => by cases e; exact h, fun h => ⟨x, rfl, h⟩⟩
theorem sp2_iff {p : W → W → Cells → WK → XW → Prop} {x y : W} {Cs : Cells} {Q : WK} {E : XW} : sp2 p [x, y] Cs Q E ↔ p x y Cs Q E := ⟨fun ⟨a, b, e, h⟩ => by cases e; exact h, fun h => ⟨x, y, rfl, h⟩⟩
theorem sp3_iff {p : W → W → W → Cells → WK → XW → Prop} {x y z : W} {Cs : Cells} {Q : WK} {E : XW} : sp3 p [x, y, z] Cs Q E ↔ p x y z Cs Q E := ⟨fun ⟨a, b, c, e, h⟩ => by cases e; exact h, fun h => ⟨x, y, z, rfl, h⟩⟩
theorem sp4_iff {p : W → W → W → W → Cells → WK → XW → Prop} {x y z u : W} {Cs : Cells} {Q : WK} {E : XW} : sp4 p [x, y, z, u] Cs Q E ↔ p x y z u Cs Q E := ⟨fun ⟨a, b, c, d, e, h⟩ => by cases e; exact h, fun h => ⟨x, y, z, u, rfl, h⟩⟩
/-! ### the law's head -/
theorem len_law : ∀ ws Cs Q E, spLawW ws Cs Q E → ws.length = 1 := fun ws Cs Q E ⟨_, _, e, _⟩ => by rw [e]; rfl
theorem okL {P : Program} {w : World} {K : PySem.W.Frag} {mg : Str → Option Value} {fa : Addr} {st : Stmt} {N : List Str} {k : Nat} {t : MS} (h : Has K mg "law" st) (S : FnScope N ["script"] (defScope st)) (hmg : mg "law" = some (.ref fa))
    (bind : ∀ (kV doc pm : Value) (an : Option Addr) (cdv ct : Value) (u : Value), bindArgs (PySem.W.fnOf "law" "law" (defArgs st) (defBody st) (defScope st) .none kV doc pm an cdv ct) { pos := [u] } = pure [(("script" : Str), u)])
    (der : ∀ (base : Heap) (f : Addr) (cdv : Value) (A : Around) (outer : List Env) (s : Shared) (H : Hp) (E : XK), Room k (A.deeper (envOfC "law" (defScope st) s.heap.objs.size f cdv)) → A.guards = some [] →
      QSs (cxOf (L2.CX P w) P w K mg base N "law" (defScope st) f cdv A outer s H E) (defBody st) t)
    (pure : ∀ ws Cs Q E, spLawW ws Cs Q E → t (EndsD Q E) (rho0 ws) Cs) :
    ∃ fd : FuncData, (∀ (s : Shared) (u : Value), BindsTo s fd ⟨[u], []⟩ [("script", u)]) ∧ ∀ base : Heap, K.In base → base.Ns mainGlobals mg → FnG P w K mg base (k + 1) fa fd ["script"] (spOf K spLawW) := by
  obtain ⟨f, fd, hm, F⟩ := h.ex
  have e := hmg.symm.trans hm
  cases e
  refine ⟨fd, fun s u => ?_, fun base _ _ => okS F S len_law (der base fa) pure⟩
  obtain ⟨oc, od, kV, doc, pm, an, cdv, ct, osl, e, _⟩ := F.ex
  rw [e]
  exact .of_eq (bind kV doc pm an cdv ct u)
/-! ### the source of drawn numbers -/
structure SrcS where
  p : Addr
  digs : List Int
  cur : Int
  mix : Int
  cnt : Int
def SrcS.at_ (S : SrcS) (q : Addr) : Cells := [(q, .lst [.ref S.p, .int S.cur, .int S.mix, .int S.cnt]), (S.p, .lst (S.digs.map W.int))]
structure SrcS.ok (S : SrcS) (N : Nat) : Prop where
  c0 : 0 ≤ S.cnt
  c1 : S.cnt ≤ N
  m0 : 0 ≤ S.mix
  m1 : S.mix < 2305843009213693951
/-! ### little steps -/
theorem Part.here {Cs : Cells} : Part Cs Cs := inferInstance
theorem mty_l {a : Addr} {Cs : Cells} {ws : List W} [h : At a Cs (.lst ws)] : mtyW "list" (.ref a) Cs := .inr (.inl ⟨a, ws, rfl, rfl, h.mem⟩)
theorem mty_lm {a : Addr} {Cs : Cells} {ws : List W} (h : (a, MO.lst ws) ∈ Cs) : mtyW "list" (.ref a) Cs := .inr (.inl ⟨a, ws, rfl, rfl, h⟩)
theorem mty_d {a : Addr} {Cs : Cells} {ws} [h : At a Cs (.dic ws)] : mtyW "dict" (.ref a) Cs := .inr (.inr ⟨a, ws, rfl, rfl, h.mem⟩)
theorem mty_s {z : Str} {Cs : Cells} : mtyW "str" (.str z) Cs := .inl ⟨z, rfl, rfl⟩
theorem mutL_i {g : List W → List W → Option (W × List W)} {a : Addr} {ws xs us : List W} {y : W} {Cs Ds : Cells} {Q : WK} [t : Take a Cs (.lst ws) Ds] (hg : g ws xs = some (y, us)) (h : Q y ((a, .lst us) :: Ds)) : qMutL g (.ref a) xs Cs Q := ⟨a, ws, Ds, y, us, rfl, t.perm, hg, h⟩
theorem append_i {a : Addr} {ws : List W} {y : W} {Cs Ds : Cells} {Q : WK} [t : Take a Cs (.lst ws) Ds] (hl : ws.length < 100000) (h : Q .non ((a, .lst (ws ++ [y])) :: Ds)) : qMutL gAppend (.ref a) [y] Cs Q := mutL_i (by unfold gAppend; dsimp only; rw [if_pos hl]) h
theorem setL_i {a : Addr} {j : Int} {ws : List W} {v : W} {Cs Ds : Cells} {Q : Cells → Prop} [t : Take a Cs (.lst ws) Ds] (h0 : 0 ≤ j) (h1 : j < ws.length) (h : Q ((a, .lst (ws.set j.toNat v)) :: Ds)) : qSetL (.ref a) (.int j) v Cs Q := ⟨a, j, ws, Ds, rfl, rfl, t.perm, h0, h1, h⟩
/-- an object's list, from a place in the world -/
theorem lsAt_i {a : Addr} {Cs : Cells} {ws : List W} [h : At a Cs (.lst ws)] : LsAt a ws Cs := h.mem
theorem ex_lsAt {a : Addr} {Cs : Cells} {ws : List W} {R : List W → Prop} [h : At a Cs (.lst ws)] (r : R ws) : ∃ ws, LsAt a ws Cs ∧ R ws := ⟨ws, h.mem, r⟩
theorem powA {i j : Int} (h0 : 0 ≤ j) {n : Nat} (hn : i.natAbs < 2 ^ n) (h : (n : Int) * j ≤ 134217728) : CPowA i j := by
  refine ⟨h0, Int.le_trans ?_ (by simpa using h)⟩
  refine Int.mul_le_mul_of_nonneg_right ?_ h0
  unfold Builtin.Int.intBits
  split
  · exact Int.natCast_nonneg n
  · next hz =>
    have : i.natAbs ≠ 0 := by
      intro z
      apply hz
      rw [Int.natAbs_eq_zero.mp z]
      rfl
    have := (Nat.log2_lt this).mpr hn
    omega
theorem mul64 {i j : Int} (h : -18446744073709551616 < i) (h' : i < 18446744073709551616) : CMulA i j := .inl (.inl ⟨by simpa using h, by simpa using h'⟩)
theorem mul64r {i j : Int} (h : -18446744073709551616 < j) (h' : j < 18446744073709551616) : CMulA i j := .inl (.inr ⟨by simpa using h, by simpa using h'⟩)
theorem fdivOk {j : Int} (h : 0 < j) {n : Nat} (hn : j.natAbs < 2 ^ n) (h9 : n ≤ 9000) : 0 < j ∧ j.natAbs.log2 < 9000 := ⟨h, Nat.lt_of_lt_of_le ((Nat.log2_lt (by omega)).mpr hn) h9⟩
theorem pw_2_61 : CPowA 2 61 = True := eq_true (powA (by decide) (n := 2) (by decide) (by decide))
theorem pw_10_18 : CPowA 10 18 = True := eq_true (powA (by decide) (n := 4) (by decide) (by decide))
theorem pw_10_30 : CPowA 10 30 = True := eq_true (powA (by decide) (n := 4) (by decide) (by decide))
theorem pw_10_29 : CPowA 10 29 = True := eq_true (powA (by decide) (n := 4) (by decide) (by decide))
theorem pw_10_28 : CPowA 10 28 = True := eq_true (powA (by decide) (n := 4) (by decide) (by decide))
theorem pw_10_40 : CPowA 10 40 = True := eq_true (powA (by decide) (n := 4) (by decide) (by decide))
theorem pw_10_6 : CPowA 10 6 = True := eq_true (powA (by decide) (n := 4) (by decide) (by decide))
theorem pw_10_9 : CPowA 10 9 = True := eq_true (powA (by decide) (n := 4) (by decide) (by decide))
theorem lg_128 : ((Int.natAbs 128).log2 < 9000) = True := eq_true (by decide)
/-! ### operators, one row for each kind -/
section
variable {i j k : Int} {x y : Str} {a b c : Addr} {ws us : List W} {Cs : Cells} {Q : WK} {g h : Bool} {w z : W} {E : XW} {lo hi : Option Int}
theorem uAdd_i : uAdd (.int i) (.int j) Cs Q = Q (.int (i + j)) Cs := rfl
theorem uAdd_s : uAdd (.str x) (.str y) Cs Q = (x.length + y.length ≤ sizeLine ∧ Q (.str (x ++ y)) Cs) := rfl
theorem uAdd_l : uAdd (.ref a) (.ref b) Cs Q = ∃ ws us, LsAt a ws Cs ∧ LsAt b us Cs ∧ ws.length + us.length ≤ 100000 ∧ ∀ p, Q (.ref p) ((p, .lst (ws ++ us)) :: Cs) := rfl
theorem uMul_i : uMul (.int i) (.int j) Cs Q = (CMulA i j ∧ Q (.int (i * j)) Cs) := rfl
theorem uMul_l : uMul (.ref a) (.int k) Cs Q = ∃ ws, LsAt a ws Cs ∧ (-9223372036854775808 ≤ k ∧ k < 9223372036854775808) ∧ ws.length * k.toNat ≤ 100000 ∧ ∀ p, Q (.ref p) ((p, .lst (List.replicate k.toNat ws).flatten) :: Cs) := rfl
theorem uEq_ii : uEq (.int i) (.int j) Cs Q = Q (.bl (decide (i = j))) Cs := rfl
theorem uEq_ss : uEq (.str x) (.str y) Cs Q = Q (.bl (decide (x = y))) Cs := rfl
theorem uEq_bb : uEq (.bl g) (.bl h) Cs Q = Q (.bl (decide (g = h))) Cs := rfl
theorem uEq_nn : uEq .non .non Cs Q = Q (.bl true) Cs := rfl
theorem uEq_ni : uEq .non (.int j) Cs Q = Q (.bl false) Cs := rfl
theorem uEq_in : uEq (.int i) .non Cs Q = Q (.bl false) Cs := rfl
theorem uEq_ns : uEq .non (.str y) Cs Q = Q (.bl false) Cs := rfl
theorem uEq_sn : uEq (.str x) .non Cs Q = Q (.bl false) Cs := rfl
theorem uEq_is : uEq (.int i) (.str y) Cs Q = Q (.bl false) Cs := rfl
theorem uEq_si : uEq (.str x) (.int j) Cs Q = Q (.bl false) Cs := rfl
theorem uEq_rr : uEq (.ref a) (.ref b) Cs Q = qEqD (.ref a) (.ref b) Cs Q := rfl
theorem uEq_tt : uEq (.tup ws) (.tup us) Cs Q = qEqD (.tup ws) (.tup us) Cs Q := rfl
theorem uEq_rt : uEq (.ref a) (.tup us) Cs Q = qEqD (.ref a) (.tup us) Cs Q := rfl
theorem uEq_tr : uEq (.tup ws) (.ref a) Cs Q = qEqD (.tup ws) (.ref a) Cs Q := rfl
theorem uEq_tn : uEq (.tup ws) .non Cs Q = qEqD (.tup ws) .non Cs Q := rfl
theorem uEq_nt : uEq .non (.tup ws) Cs Q = qEqD .non (.tup ws) Cs Q := rfl
theorem uNe_ii : uNe (.int i) (.int j) Cs Q = Q (.bl (!decide (i = j))) Cs := rfl
theorem uNe_ss : uNe (.str x) (.str y) Cs Q = Q (.bl (!decide (x = y))) Cs := rfl
theorem uNe_bb : uNe (.bl g) (.bl h) Cs Q = Q (.bl (!decide (g = h))) Cs := rfl
theorem uNe_nn : uNe .non .non Cs Q = Q (.bl false) Cs := rfl
theorem uNe_ni : uNe .non (.int j) Cs Q = Q (.bl true) Cs := rfl
theorem uNe_in : uNe (.int i) .non Cs Q = Q (.bl true) Cs := rfl
theorem uNe_ns : uNe .non (.str y) Cs Q = Q (.bl true) Cs := rfl
theorem uNe_sn : uNe (.str x) .non Cs Q = Q (.bl true) Cs := rfl
theorem uNe_is : uNe (.int i) (.str y) Cs Q = Q (.bl true) Cs := rfl
theorem uNe_si : uNe (.str x) (.int j) Cs Q = Q (.bl true) Cs := rfl
theorem uNe_rr : uNe (.ref a) (.ref b) Cs Q = qNeD (.ref a) (.ref b) Cs Q := rfl
theorem uNe_tt : uNe (.tup ws) (.tup us) Cs Q = qNeD (.tup ws) (.tup us) Cs Q := rfl
theorem uNe_rt : uNe (.ref a) (.tup us) Cs Q = qNeD (.ref a) (.tup us) Cs Q := rfl
theorem uNe_tr : uNe (.tup ws) (.ref a) Cs Q = qNeD (.tup ws) (.ref a) Cs Q := rfl
theorem uNe_tn : uNe (.tup ws) .non Cs Q = qNeD (.tup ws) .non Cs Q := rfl
theorem uNe_nt : uNe .non (.tup ws) Cs Q = qNeD .non (.tup ws) Cs Q := rfl
theorem uIn_t : uIn g w (.tup ws) Cs Q = (flatW w = true ∧ ws.all flatW = true ∧ Q (.bl (if g then !win w ws else win w ws)) Cs) := rfl
theorem uIn_r : uIn g w (.ref a) Cs Q = ∃ ws, LsAt a ws Cs ∧ flatW w = true ∧ ws.all flatW = true ∧ Q (.bl (if g then !win w ws else win w ws)) Cs := rfl
theorem uIx_t : uIx (.tup ws) (.int i) Cs Q = ∃ w, nth ws i = some w ∧ Q w Cs := rfl
theorem uIx_r : uIx (.ref a) (.int i) Cs Q = ∃ ws w, LsAt a ws Cs ∧ nth ws i = some w ∧ Q w Cs := rfl
theorem uIx_c : uIx (.cst a ws) (.int i) Cs Q = ∃ w, nth ws i = some w ∧ Q w Cs := rfl
theorem uIx_s : uIx (.str x) (.int i) Cs Q = ∃ c, x.length ≤ sizeLine ∧ atI x.cps.toList i = some c ∧ Q (.str ⟨#[c]⟩) Cs := rfl
theorem uLen_c : uLen [.cst a ws] Cs Q = Q (.int (ws.length : Nat)) Cs := rfl
theorem uLen_r : uLen [.ref a] Cs Q = ∃ ws, LsAt a ws Cs ∧ Q (.int (ws.length : Nat)) Cs := rfl
theorem uLen_t : uLen [.tup ws] Cs Q = Q (.int (ws.length : Nat)) Cs := rfl
theorem uLen_s : uLen [.str x] Cs Q = (x.length ≤ sizeLine ∧ Q (.int (x.length : Nat)) Cs) := rfl
theorem uMin_i : uMin [.int i, .int j] Cs Q = Q (.int (if j < i then j else i)) Cs := rfl
theorem uMin_r : uMin [.ref a] Cs Q = ∃ ns : List Int, LsAt a (ns.map W.int) Cs ∧ 0 < ns.length ∧ ∀ m, m ∈ ns → (∀ y, y ∈ ns → m ≤ y) → Q (.int m) Cs := rfl
theorem uMax_i : uMax [.int i, .int j] Cs Q = Q (.int (if j > i then j else i)) Cs := rfl
theorem uMax_r : uMax [.ref a] Cs Q = ∃ ns : List Int, LsAt a (ns.map W.int) Cs ∧ 0 < ns.length ∧ ∀ m, m ∈ ns → (∀ y, y ∈ ns → y ≤ m) → Q (.int m) Cs := rfl
theorem uInt_b : uInt [.bl g] Cs Q = Q (.int (if g then 1 else 0)) Cs := rfl
theorem uInt_i : uInt [.int i] Cs Q = Q (.int i) Cs := rfl
theorem uInt_s : uInt [.str x] Cs Q = ∃ n, PySem.intText? x = some n ∧ x.length ≤ 640 ∧ Q (.int n) Cs := rfl
theorem uList_r : uList [.ref a] Cs Q = ∃ ws, LsAt a ws Cs ∧ ∀ p, Q (.ref p) ((p, .lst ws) :: Cs) := rfl
theorem uList_t : uList [.tup ws] Cs Q = ∀ p, Q (.ref p) ((p, .lst ws) :: Cs) := rfl
theorem uIsi_n {c : String} : uIsi [.non, .ty c] Cs Q = ∃ t b, t = "NoneType" ∧ kitB t c = some b ∧ Q (.bl b) Cs := rfl
theorem uIsi_b {c : String} : uIsi [.bl g, .ty c] Cs Q = ∃ t b, t = "bool" ∧ kitB t c = some b ∧ Q (.bl b) Cs := rfl
theorem uIsi_i {c : String} : uIsi [.int i, .ty c] Cs Q = ∃ t b, t = "int" ∧ kitB t c = some b ∧ Q (.bl b) Cs := rfl
theorem uIsi_s {c : String} : uIsi [.str x, .ty c] Cs Q = ∃ t b, t = "str" ∧ kitB t c = some b ∧ Q (.bl b) Cs := rfl
theorem uIsi_t {c : String} : uIsi [.tup ws, .ty c] Cs Q = ∃ t b, t = "tuple" ∧ kitB t c = some b ∧ Q (.bl b) Cs := rfl
theorem uIsi_c {c : String} : uIsi [.cst a ws, .ty c] Cs Q = ∃ t b, t = "list" ∧ kitB t c = some b ∧ Q (.bl b) Cs := rfl
theorem uSl_c : uSl (.cst a ws) lo hi Cs Q = ∀ p, Q (.ref p) ((p, .lst (cutW ws lo hi)) :: Cs) := rfl
theorem uSl_r : uSl (.ref a) lo hi Cs Q = ∃ ws, LsAt a ws Cs ∧ ∀ p, Q (.ref p) ((p, .lst (cutW ws lo hi)) :: Cs) := rfl
theorem uSl_s : uSl (.str x) lo hi Cs Q = (x.length ≤ sizeLine ∧ Q (.str (cutS x lo hi)) Cs) := rfl
theorem iOf_r {R : Wk → Cells → Prop} : iOf (.ref a) Cs R = ∃ ws, LsAt a ws Cs ∧ R ⟨ws.length, LsAt a ws, fun i w => ws[i]? = some w⟩ Cs := rfl
theorem iOf_c {R : Wk → Cells → Prop} : iOf (.cst a ws) Cs R = R ⟨ws.length, fun _ => True, fun i w => ws[i]? = some w⟩ Cs := rfl
theorem isNon_n : isNon .non = true := rfl
theorem isNon_i : isNon (.int i) = false := rfl
theorem isNon_s : isNon (.str x) = false := rfl
theorem isNon_b : isNon (.bl g) = false := rfl
theorem isNon_t : isNon (.tup ws) = false := rfl
theorem isNon_r : isNon (.ref a) = false := rfl
theorem flat_s : flatW (.str x) = true := rfl
theorem flat_i : flatW (.int i) = true := rfl
theorem flat_b : flatW (.bl g) = true := rfl
theorem flat_n : flatW .non = true := rfl
theorem weq_ss : weq (.str x) (.str y) = decide (x = y) := by
  show (x == y) = _
  by_cases h : x = y
  · rw [h, decide_eq_true rfl]; exact beq_self_eq_true y
  · rw [decide_eq_false h]; exact beq_false_of_ne h

theorem weq_ii : weq (.int i) (.int j) = decide (i = j) := rfl
theorem weq_ni : weq .non (.int j) = false := rfl
theorem weq_in : weq (.int j) .non = false := rfl
theorem weq_nn : weq .non .non = true := rfl
theorem kb_bb : kitB "bool" "bool" = some true := by decide +kernel
theorem kb_bi : kitB "bool" "int" = some true := by decide +kernel
theorem kb_bs : kitB "bool" "str" = some false := by decide +kernel
theorem kb_bl : kitB "bool" "list" = some false := by decide +kernel
theorem kb_bt : kitB "bool" "tuple" = some false := by decide +kernel
theorem kb_ib : kitB "int" "bool" = some false := by decide +kernel
theorem kb_ii : kitB "int" "int" = some true := by decide +kernel
theorem kb_is : kitB "int" "str" = some false := by decide +kernel
theorem kb_il : kitB "int" "list" = some false := by decide +kernel
theorem kb_it : kitB "int" "tuple" = some false := by decide +kernel
theorem kb_sb : kitB "str" "bool" = some false := by decide +kernel
theorem kb_si : kitB "str" "int" = some false := by decide +kernel
theorem kb_ss : kitB "str" "str" = some true := by decide +kernel
theorem kb_sl : kitB "str" "list" = some false := by decide +kernel
theorem kb_st : kitB "str" "tuple" = some false := by decide +kernel
theorem kb_lb : kitB "list" "bool" = some false := by decide +kernel
theorem kb_li : kitB "list" "int" = some false := by decide +kernel
theorem kb_ls : kitB "list" "str" = some false := by decide +kernel
theorem kb_ll : kitB "list" "list" = some true := by decide +kernel
theorem kb_lt : kitB "list" "tuple" = some false := by decide +kernel
theorem kb_tb : kitB "tuple" "bool" = some false := by decide +kernel
theorem kb_ti : kitB "tuple" "int" = some false := by decide +kernel
theorem kb_ts : kitB "tuple" "str" = some false := by decide +kernel
theorem kb_tl : kitB "tuple" "list" = some false := by decide +kernel
theorem kb_tt : kitB "tuple" "tuple" = some true := by decide +kernel
theorem kb_nb : kitB "NoneType" "bool" = some false := by decide +kernel
theorem kb_ni : kitB "NoneType" "int" = some false := by decide +kernel
theorem kb_ns : kitB "NoneType" "str" = some false := by decide +kernel
theorem kb_nl : kitB "NoneType" "list" = some false := by decide +kernel
theorem kb_nt : kitB "NoneType" "tuple" = some false := by decide +kernel
theorem nth0 : nth (w :: ws) 0 = some w := rfl
theorem nth1 : nth (w :: z :: ws) 1 = some z := rfl
theorem nth2 {u : W} : nth (w :: z :: u :: ws) 2 = some u := rfl
theorem nth3 {u v : W} : nth (w :: z :: u :: v :: ws) 3 = some v := rfl
/-- the i-th of a list, i told as a whole number -/
theorem nth_nat {α : Type} {ws : List α} {i : Int} (h0 : 0 ≤ i) (h1 : i < ws.length) : nth ws i = some (ws[i.toNat]'(by omega)) := by
  unfold nth
  rw [if_pos h0, List.getElem?_eq_getElem]
theorem nth_get {α : Type} {ws : List α} {n : Nat} : nth ws (n : Int) = ws[n]? := by
  unfold nth
  rw [if_pos (Int.natCast_nonneg n), Int.toNat_natCast]
end
/-! ### loops, closed -/
def forB (g : MG) (tb : MS) (D : EndsW) (ρ : Rho) (k : Wk) (C1 : Cells) : Prop := ∃ Pv : Nat → Rho → Cells → Prop, Pv 0 ρ C1 ∧ (∀ i ρ' C', i ≤ k.n → Pv i ρ' C' → k.keep C') ∧
  (∀ i w ρ' C', i < k.n → k.it i w → Pv i ρ' C' → g ρ' w C' fun ρ2 C2 => tb (D.turn (Pv (i + 1))) ρ2 C2) ∧ (∀ ρ' C', Pv k.n ρ' C' → D.nx ρ' C')
theorem sFor_eq {mi : MI} {g : MG} {tb : MS} {D : EndsW} {ρ : Rho} {Cs : Cells} : sFor mi g tb D ρ Cs = mi (fun C w Cs => D.ex C w ρ Cs) ρ Cs (forB g tb D ρ) := rfl
theorem forB_i {g : MG} {tb : MS} {D : EndsW} {ρ : Rho} {k : Wk} {C1 : Cells} (Pv : Nat → Rho → Cells → Prop) (h0 : Pv 0 ρ C1) (hk : ∀ i ρ' C', i ≤ k.n → Pv i ρ' C' → k.keep C')
    (ht : ∀ i w ρ' C', i < k.n → k.it i w → Pv i ρ' C' → g ρ' w C' fun ρ2 C2 => tb (D.turn (Pv (i + 1))) ρ2 C2) (hd : ∀ ρ' C', Pv k.n ρ' C' → D.nx ρ' C') : forB g tb D ρ k C1 := ⟨Pv, h0, hk, ht, hd⟩
def lcB (g : MG) (tt : MT) (te : ME) (vs : List Nat) (ρ : Rho) (Q : WK) (k : Wk) (C1 : Cells) : Prop := ∀ D, ∃ Pv : Nat → List W → Cells → Prop, Pv 0 [] C1 ∧ (∀ i acc C', i ≤ k.n → Pv i acc C' → k.keep C') ∧
  (∀ i w acc C', i < k.n → k.it i w → Pv i acc C' → g (ρ.wipe vs) w ((D, .lst acc) :: C') fun ρ2 C2 => tt X0 ρ2 C2 fun b C3 =>
    (b = true → te X0 ρ2 C3 fun y C4 => acc.length < 100000 ∧ ∃ C5, Part ((D, .lst acc) :: C5) C4 ∧ Pv (i + 1) (acc ++ [y]) C5) ∧ (b = false → ∃ C5, Part ((D, .lst acc) :: C5) C3 ∧ Pv (i + 1) acc C5)) ∧
  (∀ acc C', Pv k.n acc C' → Q (.ref D) ((D, .lst acc) :: C'))
theorem mLc_eq {mi : MI} {g : MG} {tt : MT} {te : ME} {vs : List Nat} {E : XW} {ρ : Rho} {Cs : Cells} {Q : WK} : mLc mi g tt te vs E ρ Cs Q = mi E ρ Cs (lcB g tt te vs ρ Q) := rfl
theorem lcB_i {g : MG} {tt : MT} {te : ME} {vs : List Nat} {ρ : Rho} {Q : WK} {k : Wk} {C1 : Cells} (Pv : Nat → List W → Cells → Prop) (h0 : Pv 0 [] C1) (hk : ∀ i acc C', i ≤ k.n → Pv i acc C' → k.keep C')
    (ht : ∀ (D : Addr) (i : Nat) (w : W) (acc : List W) (C' : Cells), i < k.n → k.it i w → Pv i acc C' → g (ρ.wipe vs) w ((D, .lst acc) :: C') fun ρ2 C2 => tt X0 ρ2 C2 fun b C3 =>
      (b = true → te X0 ρ2 C3 fun y C4 => acc.length < 100000 ∧ ∃ C5, Part ((D, .lst acc) :: C5) C4 ∧ Pv (i + 1) (acc ++ [y]) C5) ∧ (b = false → ∃ C5, Part ((D, .lst acc) :: C5) C3 ∧ Pv (i + 1) acc C5))
    (hd : ∀ (D : Addr) (acc : List W) (C' : Cells), Pv k.n acc C' → Q (.ref D) ((D, .lst acc) :: C')) : lcB g tt te vs ρ Q k C1 := fun D => ⟨Pv, h0, hk, ht D, hd D⟩
/-- a loop's end, told by R; a break goes to R as well -/
theorem seqW_i {c : MT} {tb u : MS} {D : EndsW} {ρ : Rho} {Cs : Cells} (Pv : Nat → Rho → Cells → Prop) (R : Rho → Cells → Prop) (m : Nat) (h0 : Pv m ρ Cs)
    (hd : ∀ ρ' C', R ρ' C' → u D ρ' C')
    (ht : ∀ m ρ' C', Pv m ρ' C' → ∀ N : Rho → Cells → Prop, (∀ ρ2 C2, R ρ2 C2 → N ρ2 C2) → c (fun C w Cs => D.ex C w ρ' Cs) ρ' C' fun k C1 =>
    (k = true → tb { nx := fun ρ2 C2 => ∃ C3, Part C3 C2 ∧ ∃ m', m' < m ∧ Pv m' ρ2 C3, ct := fun ρ2 C2 => ∃ C3, Part C3 C2 ∧ ∃ m', m' < m ∧ Pv m' ρ2 C3, bk := fun ρ2 C2 => ∃ C3, Part C3 C2 ∧ N ρ2 C3, rt := D.rt, ex := D.ex } ρ' C1) ∧ (k = false → ∃ C2, Part C2 C1 ∧ N ρ' C2)) : sSeq (sWhile c tb) u D ρ Cs :=
  ⟨Pv, ⟨m, h0⟩, fun m ρ' C' h => ht m ρ' C' h (u D) hd⟩
theorem while_i {c : MT} {tb : MS} {D : EndsW} {ρ : Rho} {Cs : Cells} (Pv : Nat → Rho → Cells → Prop) (m : Nat) (h0 : Pv m ρ Cs) (ht : ∀ m ρ' C', Pv m ρ' C' → c (fun C w Cs => D.ex C w ρ' Cs) ρ' C' fun k C1 =>
    (k = true → tb (D.turn fun ρ2 C2 => ∃ m', m' < m ∧ Pv m' ρ2 C2) ρ' C1) ∧ (k = false → ∃ C2, Part C2 C1 ∧ D.nx ρ' C2)) : sWhile c tb D ρ Cs := ⟨Pv, ⟨m, h0⟩, ht⟩
def dispB (p : Addr) (Q : WK) (ps : List (W × W)) (C2 : Cells) : Prop := ∃ Ds kvs, C2.Perm ((p, .dic []) :: Ds) ∧ ps = kvs.map (fun kv => (kW kv.1, kv.2)) ∧ kvs.length ≤ 15 ∧ Q (.ref p) ((p, .dic (mergeW [] kvs)) :: Ds)
theorem mDisp_eq {trs : List (ME × ME)} {E : XW} {ρ : Rho} {Cs : Cells} {Q : WK} : mDisp trs E ρ Cs Q = ∀ p, mPairs trs E ρ ((p, .dic []) :: Cs) (dispB p Q) := rfl
theorem disp_i {p : Addr} {ps : List (W × W)} {C2 Ds : Cells} {Q : WK} (kvs : List (Key × W)) [t : Take p C2 (.dic []) Ds] (e : ps = kvs.map (fun kv => (kW kv.1, kv.2))) (h15 : kvs.length ≤ 15) (q : Q (.ref p) ((p, .dic (mergeW [] kvs)) :: Ds)) : dispB p Q ps C2 := ⟨Ds, kvs, t.perm, e, h15, q⟩
/-! ### a caller may tell less of the world -/
def cl (sp : SpW) : SpW := fun ws Cs Q E => ∃ C', Part C' Cs ∧ sp ws C' Q E
theorem Cal.close {P : Program} {w : World} {K : PySem.W.Frag} {mg : Str → Option Value} {base : Heap} {k : Nat} {x : Str} {sp : SpW} {kb : List KSig} (C : Cal P w K mg base k x sp kb) : Cal P w K mg base k x (cl sp) kb := by
  obtain ⟨f, fd, ps, h1, h2⟩ := C.ex
  have up : ∀ vs H Q E, spOf K (cl sp) vs H Q E → spOf K sp vs H Q E := fun vs H Q E ⟨ws, Cs, Q1, E1, a, b, ⟨C', hp, c⟩, d, e⟩ => ⟨ws, C', Q1, E1, a, b.to hp, c, d, e⟩
  exact ⟨f, fd, ps, ⟨fun vs H Q E e => h1.len vs H Q E (up _ _ _ _ e), fun A outer s H args us vs Q E hr hg he hb hv hs => h1.run A outer s H args us vs Q E hr hg he hb hv (up _ _ _ _ hs)⟩, h2⟩
theorem cl_i {sp : SpW} {ws : List W} {C C' : Cells} {Q : WK} {E : XW} (p : Part C' C) (h : sp ws C' Q E) : cl sp ws C Q E := ⟨C', p, h⟩
theorem cl_h {sp : SpW} {ws : List W} {C : Cells} {Q : WK} {E : XW} (h : sp ws C Q E) : cl sp ws C Q E := ⟨C, .here, h⟩
/-- the source in a world -/
class TakeS (q : Addr) (Cs : Cells) (S : outParam SrcS) (Ds : outParam Cells) : Prop where
  perm : Cs.Perm (S.at_ q ++ Ds)
instance (priority := high) TakeS.here {q : Addr} {S : SrcS} {Ds : Cells} : TakeS q (S.at_ q ++ Ds) S Ds := ⟨List.Perm.refl _⟩
instance TakeS.there {q : Addr} {S : SrcS} {c : Addr × MO} {Cs Ds : Cells} [h : TakeS q Cs S Ds] : TakeS q (c :: Cs) S (c :: Ds) := ⟨(h.perm.cons c).trans List.perm_middle.symm⟩
instance Take.src {a q : Addr} {S : SrcS} {o : MO} {Cs Ds : Cells} [h : Take a Cs o Ds] : Take a (S.at_ q ++ Cs) o (S.at_ q ++ Ds) := ⟨(h.perm.append_left _).trans List.perm_middle⟩
instance At.src {a q : Addr} {S : SrcS} {o : MO} {Cs : Cells} [h : At a Cs o] : At a (S.at_ q ++ Cs) o := ⟨List.mem_append_right _ h.mem⟩
instance Part.src {q : Addr} {S : SrcS} {Cs Ds Es : Cells} [t : TakeS q Cs S Es] [h : Part Ds Es] : Part (S.at_ q ++ Ds) Cs := ⟨by
  obtain ⟨Fs, h1⟩ := h.part
  exact ⟨Fs, t.perm.trans (by rw [List.append_assoc]; exact h1.append_left _)⟩⟩
instance (priority := low) Part.skipS {q : Addr} {S : SrcS} {Cs Ds : Cells} [h : Part Ds Cs] : Part Ds (S.at_ q ++ Cs) := ⟨by
  obtain ⟨Fs, h1⟩ := h.part
  exact ⟨S.at_ q ++ Fs, (h1.append_left _).trans (by rw [← List.append_assoc, ← List.append_assoc]; exact (List.perm_append_comm).append_right _)⟩⟩
theorem part_app {Es Ds Cs : Cells} (h : Part Ds Cs) : Part (Es ++ Ds) (Es ++ Cs) := ⟨by
  obtain ⟨Fs, h1⟩ := h.part
  exact ⟨Fs, by rw [List.append_assoc]; exact h1.append_left _⟩⟩
theorem part_cons {c : Addr × MO} {Ds Cs : Cells} (h : Part Ds Cs) : Part (c :: Ds) (c :: Cs) := part_app (Es := [c]) h
theorem part_perm {Cs Ds : Cells} (h : Cs.Perm Ds) : Part Ds Cs := ⟨[], by rw [List.append_nil]; exact h⟩
theorem nx_i {P : Cells → Prop} {C : Cells} (h : P C) : ∃ C', Part C' C ∧ P C' := ⟨C, .here, h⟩
end SL
namespace SL
open PySem PySem.Spec PyProof.Rows L2
/-! ### what is told of deep data -/
theorem depthAll_le {n : Nat} : ∀ {ds : List PyData}, (∀ d, d ∈ ds → d.depth ≤ n) → PyData.depthAll ds ≤ n
  | [], _ => by rw [PyData.depthAll.eq_def]; exact Nat.zero_le _
  | d :: ds, h => by
    rw [PyData.depthAll.eq_def]
    exact Nat.max_le.mpr ⟨h d List.mem_cons_self, depthAll_le fun e he => h e (List.mem_cons_of_mem _ he)⟩
theorem layAll {ds : List PyData} : (∀ d, d ∈ ds → d.canLay0 = true) → PyData.canLayAll0 ds = true := by
  induction ds with
  | nil => intro _; rw [PyData.canLayAll0.eq_def]
  | cons d ds ih =>
    intro h
    rw [PyData.canLayAll0.eq_def]
    dsimp only
    rw [h d List.mem_cons_self, ih fun e he => h e (List.mem_cons_of_mem _ he)]
    rfl
theorem showAll {ds : List PyData} : (∀ d, d ∈ ds → d.showable = true) → PyData.showableAll ds = true := by
  induction ds with
  | nil => intro _; rw [PyData.showableAll.eq_def]
  | cons d ds ih =>
    intro h
    rw [PyData.showableAll.eq_def]
    dsimp only
    rw [h d List.mem_cons_self, ih fun e he => h e (List.mem_cons_of_mem _ he)]
    rfl
theorem noDictAll {ds : List PyData} : (∀ d, d ∈ ds → d.hasDict = false) → PyData.hasDictAll ds = false := by
  induction ds with
  | nil => intro _; rw [PyData.hasDictAll.eq_def]
  | cons d ds ih =>
    intro h
    rw [PyData.hasDictAll.eq_def]
    dsimp only
    rw [h d List.mem_cons_self, ih fun e he => h e (List.mem_cons_of_mem _ he)]
    rfl
theorem shaped_list {ds : List PyData} {n : Nat} (hn : n ≤ 63) (h : ∀ d, d ∈ ds → d.canLay0 = true ∧ d.depth ≤ n) : SeqAt.shaped (.list ds) = true := by
  unfold SeqAt.shaped
  rw [PyData.canLay0.eq_def, PyData.depth.eq_def]
  dsimp only
  rw [layAll fun d hd => (h d hd).1]
  have := depthAll_le fun d hd => (h d hd).2
  simp only [Bool.true_and, decide_eq_true_eq]
  omega
theorem shaped_tuple {ds : List PyData} {n : Nat} (hn : n ≤ 63) (h : ∀ d, d ∈ ds → d.canLay0 = true ∧ d.depth ≤ n) : SeqAt.shaped (.tuple ds) = true := by
  unfold SeqAt.shaped
  rw [PyData.canLay0.eq_def, PyData.depth.eq_def]
  dsimp only
  rw [layAll fun d hd => (h d hd).1]
  have := depthAll_le fun d hd => (h d hd).2
  simp only [Bool.true_and, decide_eq_true_eq]
  omega
/-! trees of None, numbers, texts and tuples -/
mutual
def nb : W → Bool
  | .non => true
  | .int _ => true
  | .str _ => true
  | .tup ws => nbs ws
  | .bl _ => false
  | .ref _ => false
  | .ty _ => false
  | .cst _ _ => false
def nbs : List W → Bool
  | [] => true
  | w :: ws => nb w && nbs ws
end
mutual
theorem nb_noref : ∀ {w : W}, nb w = true → noref w = true
  | .non, _ => by rw [noref.eq_def]
  | .int _, _ => by rw [noref.eq_def]
  | .str _, _ => by rw [noref.eq_def]
  | .tup ws, h => by
    rw [nb.eq_def] at h
    rw [noref.eq_def]
    exact nbs_noref h
  | .bl _, h => by rw [nb.eq_def] at h; cases h
  | .ref _, h => by rw [nb.eq_def] at h; cases h
  | .ty _, h => by rw [nb.eq_def] at h; cases h
  | .cst _ _, h => by rw [nb.eq_def] at h; cases h
theorem nbs_noref : ∀ {ws : List W}, nbs ws = true → norefs ws = true
  | [], _ => by rw [norefs.eq_def]
  | w :: ws, h => by
    rw [nbs.eq_def] at h
    dsimp only at h
    rw [Bool.and_eq_true] at h
    rw [norefs.eq_def]
    dsimp only
    rw [nb_noref h.1, nbs_noref h.2]
    rfl
end
mutual
theorem eqv_w : ∀ {x y : W}, nb x = true → nb y = true → (PyData.eqv (dW x) (dW y) = true ↔ x = y)
  | .non, .non, _, _ => by simp [dW, PyData.eqv]
  | .int _, .int _, _, _ => by simp [dW, PyData.eqv]
  | .str _, .str _, _, _ => by simp [dW, PyData.eqv]
  | .tup ws, .tup us, h, g => by
    rw [nb.eq_def] at h g
    have := eqv_ws h g
    rw [dW, dW, PyData.eqv]
    rw [this]
    constructor
    · intro e; rw [e]
    · intro e; injection e
  | .non, .int _, _, _ => by simp [dW, PyData.eqv]
  | .non, .str _, _, _ => by simp [dW, PyData.eqv]
  | .non, .tup _, _, _ => by simp [dW, PyData.eqv]
  | .int _, .non, _, _ => by simp [dW, PyData.eqv]
  | .int _, .str _, _, _ => by simp [dW, PyData.eqv]
  | .int _, .tup _, _, _ => by simp [dW, PyData.eqv]
  | .str _, .non, _, _ => by simp [dW, PyData.eqv]
  | .str _, .int _, _, _ => by simp [dW, PyData.eqv]
  | .str _, .tup _, _, _ => by simp [dW, PyData.eqv]
  | .tup _, .non, _, _ => by simp [dW, PyData.eqv]
  | .tup _, .int _, _, _ => by simp [dW, PyData.eqv]
  | .tup _, .str _, _, _ => by simp [dW, PyData.eqv]
  | .bl _, _, h, _ => by rw [nb.eq_def] at h; cases h
  | .ref _, _, h, _ => by rw [nb.eq_def] at h; cases h
  | .ty _, _, h, _ => by rw [nb.eq_def] at h; cases h
  | .cst _ _, _, h, _ => by rw [nb.eq_def] at h; cases h
  | _, .bl _, _, h => by rw [nb.eq_def] at h; cases h
  | _, .ref _, _, h => by rw [nb.eq_def] at h; cases h
  | _, .ty _, _, h => by rw [nb.eq_def] at h; cases h
  | _, .cst _ _, _, h => by rw [nb.eq_def] at h; cases h
theorem eqv_ws : ∀ {xs ys : List W}, nbs xs = true → nbs ys = true → (PyData.eqvAll (dWs xs) (dWs ys) = true ↔ xs = ys)
  | [], [], _, _ => by simp [dWs, PyData.eqvAll]
  | [], _ :: _, _, _ => by simp [dWs, PyData.eqvAll]
  | _ :: _, [], _, _ => by simp [dWs, PyData.eqvAll]
  | x :: xs, y :: ys, h, g => by
    rw [nbs.eq_def] at h g
    dsimp only at h g
    rw [Bool.and_eq_true] at h g
    rw [dWs, dWs, PyData.eqvAll, Bool.and_eq_true, eqv_w h.1 g.1, eqv_ws h.2 g.2, List.cons.injEq]
end
theorem nbs_all : ∀ {ws : List W}, (∀ w, w ∈ ws → nb w = true) → nbs ws = true
  | [], _ => by rw [nbs.eq_def]
  | w :: ws, h => by
    rw [nbs.eq_def]
    dsimp only
    rw [h w List.mem_cons_self, nbs_all fun u hu => h u (List.mem_cons_of_mem _ hu)]
    rfl
/-- a tree that may stand in a deep comparison: of depth n -/
structure Dok (n : Nat) (w : W) : Prop where
  nb : nb w = true
  lay : (dW w).canLay0 = true
  dep : (dW w).depth ≤ n
/-- == of two lists of such trees -/
theorem eqL_i {a b : Addr} {xs ys : List W} {Cs : Cells} {Q : WK} {n : Nat} (hn : n ≤ 63) (ha : LsAt a xs Cs) (hb : LsAt b ys Cs) (hx : ∀ w, w ∈ xs → Dok n w) (hy : ∀ w, w ∈ ys → Dok n w) (h : ∀ k : Bool, (k = true ↔ xs = ys) → Q (.bl k) Cs) : qEqD (.ref a) (.ref b) Cs Q := by
  refine ⟨_, _, .lflat ha (nbs_noref (nbs_all fun w hw => (hx w hw).nb)), .lflat hb (nbs_noref (nbs_all fun w hw => (hy w hw).nb)), shaped_list hn fun d hd => ?_, shaped_list hn fun d hd => ?_, h _ ?_⟩
  · obtain ⟨w, hw, rfl⟩ := List.mem_map.mp hd
    exact ⟨(hx w hw).lay, (hx w hw).dep⟩
  · obtain ⟨w, hw, rfl⟩ := List.mem_map.mp hd
    exact ⟨(hy w hw).lay, (hy w hw).dep⟩
  · rw [← dWs_map, ← dWs_map, PyData.eqv]
    exact eqv_ws (nbs_all fun w hw => (hx w hw).nb) (nbs_all fun w hw => (hy w hw).nb)
theorem neL_i {a b : Addr} {xs ys : List W} {Cs : Cells} {Q : WK} {n : Nat} (hn : n ≤ 63) (ha : LsAt a xs Cs) (hb : LsAt b ys Cs) (hx : ∀ w, w ∈ xs → Dok n w) (hy : ∀ w, w ∈ ys → Dok n w) (h : ∀ k : Bool, (k = true ↔ xs ≠ ys) → Q (.bl k) Cs) : qNeD (.ref a) (.ref b) Cs Q := by
  have g : qEqD (.ref a) (.ref b) Cs (fun w C => ∀ k, w = .bl k → Q (.bl (!k)) C) := eqL_i hn ha hb hx hy fun k hk j e => by
    cases e
    refine h _ ?_
    rw [Bool.not_eq_true', ← Bool.not_eq_true, hk]
  obtain ⟨d, e, h1, h2, h3, h4, h5⟩ := g
  exact ⟨d, e, h1, h2, h3, h4, h5 _ rfl⟩
theorem eqT_i {xs ys : List W} {Cs : Cells} {Q : WK} {n : Nat} (hn : n ≤ 64) (hx : Dok n (.tup xs)) (hy : Dok n (.tup ys)) (h : ∀ k : Bool, (k = true ↔ xs = ys) → Q (.bl k) Cs) : qEqD (.tup xs) (.tup ys) Cs Q := by
  refine ⟨_, _, .flat (nb_noref hx.nb), .flat (nb_noref hy.nb), ?_, ?_, h _ ?_⟩
  · unfold SeqAt.shaped
    rw [hx.lay]
    have := hx.dep
    simp only [Bool.true_and, decide_eq_true_eq]
    omega
  · unfold SeqAt.shaped
    rw [hy.lay]
    have := hy.dep
    simp only [Bool.true_and, decide_eq_true_eq]
    omega
  · rw [eqv_w hx.nb hy.nb]
    exact ⟨fun e => by injection e, fun e => by rw [e]⟩
theorem dok_int (n : Nat) (i : Int) : Dok n (.int i) := ⟨by rw [nb.eq_def], by rw [dW, PyData.canLay0.eq_def], by rw [dW, PyData.depth.eq_def]; exact Nat.zero_le _⟩
theorem dok_non (n : Nat) : Dok n .non := ⟨by rw [nb.eq_def], by rw [dW, PyData.canLay0.eq_def], by rw [dW, PyData.depth.eq_def]; exact Nat.zero_le _⟩
theorem dok_str (n : Nat) {x : Str} (h : PyData.strOk x = true) : Dok n (.str x) := ⟨by rw [nb.eq_def], by rw [dW, PyData.canLay0.eq_def]; exact h, by rw [dW, PyData.depth.eq_def]; exact Nat.zero_le _⟩
theorem dok_tup {n : Nat} {ws : List W} (h : ∀ w, w ∈ ws → Dok n w) : Dok (n + 1) (.tup ws) := by
  refine ⟨?_, ?_, ?_⟩
  · rw [nb.eq_def]
    exact nbs_all fun w hw => (h w hw).nb
  · rw [dW, PyData.canLay0.eq_def, dWs_map]
    exact layAll fun d hd => by
      obtain ⟨w, hw, rfl⟩ := List.mem_map.mp hd
      exact (h w hw).lay
  · rw [dW, PyData.depth.eq_def, dWs_map]
    exact Nat.succ_le_succ (depthAll_le fun d hd => by
      obtain ⟨w, hw, rfl⟩ := List.mem_map.mp hd
      exact (h w hw).dep)
theorem Dok.up {n m : Nat} {w : W} (h : Dok n w) (k : n ≤ m) : Dok m w := ⟨h.nb, h.lay, Nat.le_trans h.dep k⟩
theorem dok_ints {n : Nat} {ns : List Int} : ∀ w, w ∈ ns.map W.int → Dok n w := fun w hw => by
  obtain ⟨i, _, rfl⟩ := List.mem_map.mp hw
  exact dok_int n i
end SL
namespace SL
open PySem PySem.Spec PyProof.Rows L2
/-! ### defs that draw and give plain things -/
def spS1 (c : Nat) (R : W → Prop) : SpW := sp1 fun x Cs Q _ => ∃ (q : Addr) (S : SrcS) (Ds : Cells) (N : Nat), x = .ref q ∧ Cs = S.at_ q ++ Ds ∧ S.ok N ∧ N + c ≤ 1000000000 ∧ ∀ (w : W) (S' : SrcS), R w → S'.ok (N + c) → Q w (S'.at_ q ++ Ds)
theorem srcS1_i {c : Nat} {R : W → Prop} {q : Addr} {S : SrcS} {Cs Ds : Cells} {N : Nat} {Q : WK} {E : XW} [t : TakeS q Cs S Ds] (ok : S.ok N) (hN : N + c ≤ 1000000000) (k : ∀ (w : W) (S' : SrcS), R w → S'.ok (N + c) → Q w (S'.at_ q ++ Ds)) : cl (spS1 c R) [.ref q] Cs Q E :=
  cl_i (part_perm t.perm) ⟨_, rfl, q, S, Ds, N, rfl, rfl, ok, hN, k⟩
theorem SrcS.ok.up {S : SrcS} {N M : Nat} (h : S.ok N) (k : N ≤ M) : S.ok M := ⟨h.c0, Int.le_trans h.c1 (by omega), h.m0, h.m1⟩
/-- a number drawn is one of few -/
theorem few2 {r : Int} (h0 : 0 ≤ r) (h : r < 2) : r = 0 ∨ r = 1 := by omega
theorem few3 {r : Int} (h0 : 0 ≤ r) (h : r < 3) : r = 0 ∨ r = 1 ∨ r = 2 := by omega
theorem few4 {r : Int} (h0 : 0 ≤ r) (h : r < 4) : r = 0 ∨ r = 1 ∨ r = 2 ∨ r = 3 := by omega
theorem few5 {r : Int} (h0 : 0 ≤ r) (h : r < 5) : r = 0 ∨ r = 1 ∨ r = 2 ∨ r = 3 ∨ r = 4 := by omega
theorem few6 {r : Int} (h0 : 0 ≤ r) (h : r < 6) : r = 0 ∨ r = 1 ∨ r = 2 ∨ r = 3 ∨ r = 4 ∨ r = 5 := by omega
theorem few8 {r : Int} (h0 : 0 ≤ r) (h : r < 8) : r = 0 ∨ r = 1 ∨ r = 2 ∨ r = 3 ∨ r = 4 ∨ r = 5 ∨ r = 6 ∨ r = 7 := by omega
theorem nth_i {ws : List W} {r : Int} {P : W → Prop} (h0 : 0 ≤ r) (h1 : r < ws.length) (k : ∀ w, w ∈ ws → P w) : ∃ w, nth ws r = some w ∧ P w := ⟨_, nth_nat h0 h1, k _ (List.getElem_mem _)⟩
/-! ### names that differ -/
theorem sne_down_up : (Str.ofString "down" = Str.ofString "up") = False := eq_false (by decide)
theorem sne_down_right : (Str.ofString "down" = Str.ofString "right") = False := eq_false (by decide)
theorem sne_down_left : (Str.ofString "down" = Str.ofString "left") = False := eq_false (by decide)
theorem sne_down_home : (Str.ofString "down" = Str.ofString "home") = False := eq_false (by decide)
theorem sne_down_end : (Str.ofString "down" = Str.ofString "end") = False := eq_false (by decide)
theorem sne_up_down : (Str.ofString "up" = Str.ofString "down") = False := eq_false (by decide)
theorem sne_up_right : (Str.ofString "up" = Str.ofString "right") = False := eq_false (by decide)
theorem sne_up_left : (Str.ofString "up" = Str.ofString "left") = False := eq_false (by decide)
theorem sne_up_home : (Str.ofString "up" = Str.ofString "home") = False := eq_false (by decide)
theorem sne_up_end : (Str.ofString "up" = Str.ofString "end") = False := eq_false (by decide)
theorem sne_right_down : (Str.ofString "right" = Str.ofString "down") = False := eq_false (by decide)
theorem sne_right_up : (Str.ofString "right" = Str.ofString "up") = False := eq_false (by decide)
theorem sne_right_left : (Str.ofString "right" = Str.ofString "left") = False := eq_false (by decide)
theorem sne_right_home : (Str.ofString "right" = Str.ofString "home") = False := eq_false (by decide)
theorem sne_right_end : (Str.ofString "right" = Str.ofString "end") = False := eq_false (by decide)
theorem sne_left_down : (Str.ofString "left" = Str.ofString "down") = False := eq_false (by decide)
theorem sne_left_up : (Str.ofString "left" = Str.ofString "up") = False := eq_false (by decide)
theorem sne_left_right : (Str.ofString "left" = Str.ofString "right") = False := eq_false (by decide)
theorem sne_left_home : (Str.ofString "left" = Str.ofString "home") = False := eq_false (by decide)
theorem sne_left_end : (Str.ofString "left" = Str.ofString "end") = False := eq_false (by decide)
theorem sne_home_down : (Str.ofString "home" = Str.ofString "down") = False := eq_false (by decide)
theorem sne_home_up : (Str.ofString "home" = Str.ofString "up") = False := eq_false (by decide)
theorem sne_home_right : (Str.ofString "home" = Str.ofString "right") = False := eq_false (by decide)
theorem sne_home_left : (Str.ofString "home" = Str.ofString "left") = False := eq_false (by decide)
theorem sne_home_end : (Str.ofString "home" = Str.ofString "end") = False := eq_false (by decide)
theorem sne_end_down : (Str.ofString "end" = Str.ofString "down") = False := eq_false (by decide)
theorem sne_end_up : (Str.ofString "end" = Str.ofString "up") = False := eq_false (by decide)
theorem sne_end_right : (Str.ofString "end" = Str.ofString "right") = False := eq_false (by decide)
theorem sne_end_left : (Str.ofString "end" = Str.ofString "left") = False := eq_false (by decide)
theorem sne_end_home : (Str.ofString "end" = Str.ofString "home") = False := eq_false (by decide)
/-! ### commands -/
inductive Dir where
  | down | up | right | left
deriving DecidableEq
def Dir.nm : Dir → Str
  | .down => "down"
  | .up => "up"
  | .right => "right"
  | .left => "left"
inductive Cmd where
  | go (d : Dir) (n : Int)
  | home
  | fin
deriving DecidableEq
def Cmd.w : Cmd → W
  | .go d n => .tup [.str d.nm, .int n]
  | .home => .tup [.str "home"]
  | .fin => .tup [.str "end"]
def Cmd.ok (b : Int) : Cmd → Prop
  | .go _ n => 1 ≤ n ∧ n ≤ b
  | _ => True
theorem Cmd.ok.up {b c : Int} {x : Cmd} (h : x.ok b) (k : b ≤ c) : x.ok c := by
  cases x with
  | go d n => exact ⟨h.1, Int.le_trans h.2 k⟩
  | home => trivial
  | fin => trivial
theorem nm_ok (d : Dir) : PyData.strOk d.nm = true := by cases d <;> decide +kernel
theorem dok_cmd (c : Cmd) : Dok 1 c.w := by
  cases c with
  | go d n =>
    refine dok_tup (n := 0) fun w hw => ?_
    simp only [List.mem_cons, List.not_mem_nil, or_false] at hw
    rcases hw with rfl | rfl
    · exact dok_str _ (nm_ok d)
    · exact dok_int _ _
  | home =>
    refine dok_tup (n := 0) fun w hw => ?_
    simp only [List.mem_cons, List.not_mem_nil, or_false] at hw
    subst hw
    exact dok_str _ (by decide +kernel)
  | fin =>
    refine dok_tup (n := 0) fun w hw => ?_
    simp only [List.mem_cons, List.not_mem_nil, or_false] at hw
    subst hw
    exact dok_str _ (by decide +kernel)
theorem nm_home (d : Dir) : (d.nm = Str.ofString "home") = False := by cases d <;> exact eq_false (by decide)
theorem nm_fin (d : Dir) : (d.nm = Str.ofString "end") = False := by cases d <;> exact eq_false (by decide)
theorem home_nm (d : Dir) : (Str.ofString "home" = d.nm) = False := by cases d <;> exact eq_false (by decide)
theorem fin_nm (d : Dir) : (Str.ofString "end" = d.nm) = False := by cases d <;> exact eq_false (by decide)
theorem dok_cmds {cs : List Cmd} : ∀ w, w ∈ cs.map Cmd.w → Dok 1 w := fun w hw => by
  obtain ⟨c, _, rfl⟩ := List.mem_map.mp hw
  exact dok_cmd c
theorem nm_inj {d e : Dir} (h : d.nm = e.nm) : d = e := by cases d <;> cases e <;> first | rfl | exact absurd h (by decide)
theorem Cmd.w_inj {c d : Cmd} (h : c.w = d.w) : c = d := by
  cases c <;> cases d <;> simp only [Cmd.w, W.tup.injEq, List.cons.injEq, W.str.injEq, W.int.injEq, and_true, reduceCtorEq, and_false] at h
  · rw [nm_inj h.1, h.2]
  · rfl
  · exact absurd h (by decide)
  · exact absurd h (by decide)
  · rfl
theorem map_w_inj : ∀ {cs ds : List Cmd}, cs.map Cmd.w = ds.map Cmd.w → cs = ds
  | [], [], _ => rfl
  | [], _ :: _, h => by cases h
  | _ :: _, [], h => by cases h
  | c :: cs, d :: ds, h => by
    rw [List.map_cons, List.map_cons, List.cons.injEq] at h
    rw [Cmd.w_inj h.1, map_w_inj h.2]
end SL
namespace SL
open PySem PySem.Spec PyProof.Rows L2
/-! ### digits -/
def dg (n : Nat) : List Nat := (Nat.toDigits 10 n).map Char.toNat
theorem char_toNat_inj {a b : Char} (h : a.toNat = b.toNat) : a = b := by
  have : a.val = b.val := UInt32.toNat_inj.mp h
  exact Char.ext this
theorem map_toNat_inj : ∀ {a b : List Char}, a.map Char.toNat = b.map Char.toNat → a = b
  | [], [], _ => rfl
  | [], _ :: _, h => by cases h
  | _ :: _, [], h => by cases h
  | a :: as, b :: bs, h => by
    rw [List.map_cons, List.map_cons, List.cons.injEq] at h
    rw [char_toNat_inj h.1, map_toNat_inj h.2]
theorem dg_inj {m n : Nat} (h : dg m = dg n) : m = n := by
  have h := map_toNat_inj h
  rw [← Nat.ofDigitChars_toDigits (b := 10) (n := m) (by decide) (by decide), h, Nat.ofDigitChars_toDigits (by decide) (by decide)]
theorem dg_mem {n c : Nat} (h : c ∈ dg n) : 48 ≤ c ∧ c ≤ 57 := by
  obtain ⟨d, hd, rfl⟩ := List.mem_map.mp h
  have := Nat.isDigit_of_mem_toDigits (by decide) (by decide) hd
  unfold Char.isDigit at this
  rw [Bool.and_eq_true, decide_eq_true_eq, decide_eq_true_eq] at this
  exact ⟨this.1, this.2⟩
theorem dg_ne (n : Nat) : dg n ≠ [] := fun h => Nat.toDigits_ne_nil (List.map_eq_nil_iff.mp h)
theorem dg_len : ∀ (k n : Nat), n < 10 ^ (k + 1) → (dg n).length ≤ k + 1
  | 0, n, h => by
    unfold dg
    rw [List.length_map, Nat.toDigits_of_lt_base (by simpa using h)]
    exact Nat.le_refl _
  | k + 1, n, h => by
    unfold dg
    rw [List.length_map, Nat.toDigits_eq_if (by decide)]
    split
    · simp
    · have := dg_len k (n / 10) (by rw [Nat.pow_succ] at h; omega)
      unfold dg at this
      rw [List.length_map] at this
      rw [List.length_append]
      simp
      omega
/-- a text's codes -/
def cd (x : Str) : List Nat := x.cps.toList
theorem cd_inj {x y : Str} (h : cd x = cd y) : x = y := ext_toList h
theorem cd_app (x y : Str) : cd (x ++ y) = cd x ++ cd y := PySem.W.KT.app_list x y
theorem cd_len (x : Str) : (cd x).length = x.length := Array.length_toList
theorem cd_num {n : Int} (h : 0 ≤ n) : cd (Str.ofString (toString n)) = dg n.toNat := by
  have e : n = ((n.toNat : Nat) : Int) := (Int.toNat_of_nonneg h).symm
  rw [e]
  exact PySem.W.KIN.signs_num n.toNat
/-! ### joined texts -/
def jn (g : List Nat) : List (List Nat) → List Nat
  | [] => []
  | [w] => w
  | w :: u :: r => w ++ g ++ jn g (u :: r)
theorem jn_cons (g w : List Nat) : ∀ r : List (List Nat), jn g (w :: r) = w ++ (r.map (g ++ ·)).flatten
  | [] => by simp [jn]
  | u :: r => by rw [jn, jn_cons g u r]; simp
theorem foldl_glue (g : Array Nat) : ∀ (r : List Str) (a : Array Nat), (r.foldl (fun acc p => acc ++ g ++ p.cps) a).toList = a.toList ++ (r.map (fun p => g.toList ++ cd p)).flatten
  | [], a => by simp
  | p :: r, a => by
    rw [List.foldl_cons, foldl_glue g r]
    simp [cd]
theorem cd_join (g : Str) (ps : List Str) : cd (Txt.join g ps) = jn (cd g) (ps.map cd) := by
  unfold Txt.join Builtin.Str.glued
  refine (foldl_glue g.cps (ps.drop 1) _).trans ?_
  cases ps with
  | nil => rfl
  | cons p ps =>
    rw [List.map_cons, jn_cons]
    simp [cd, List.map_map, Function.comp_def]
theorem jn_snoc (g : List Nat) : ∀ (r : List (List Nat)) (w : List Nat), r ≠ [] → jn g (r ++ [w]) = jn g r ++ g ++ w
  | [], _, h => absurd rfl h
  | [u], w, _ => by simp [jn]
  | u :: v :: r, w, _ => by
    show jn g (u :: v :: (r ++ [w])) = _
    rw [jn, jn]
    have := jn_snoc g (v :: r) w (by simp)
    rw [List.cons_append] at this
    rw [this]
    simp
theorem jn_len (g : List Nat) (b : Nat) : ∀ (r : List (List Nat)), (∀ w, w ∈ r → w.length ≤ b) → (jn g r).length ≤ r.length * (b + g.length)
  | [], _ => by simp [jn]
  | [u], h => by
    have := h u (by simp)
    simp [jn]
    omega
  | u :: v :: r, h => by
    have h1 := h u (by simp)
    have h2 := jn_len g b (v :: r) fun w hw => h w (List.mem_cons_of_mem _ hw)
    rw [jn, List.length_append, List.length_append]
    rw [List.length_cons, Nat.succ_mul]
    omega
theorem split32 {a b r s : List Nat} (ha : 32 ∉ a) (hb : 32 ∉ b) (h : a ++ 32 :: r = b ++ 32 :: s) : a = b ∧ r = s := by
  induction a generalizing b with
  | nil =>
    cases b with
    | nil => simpa using h
    | cons c b =>
      simp at h hb
      exact absurd h.1 hb.1
  | cons c a ih =>
    cases b with
    | nil =>
      simp at h ha
      exact absurd h.1.symm ha.1
    | cons d b =>
      simp only [List.mem_cons, not_or] at ha hb
      rw [List.cons_append, List.cons_append, List.cons.injEq] at h
      obtain ⟨e1, e2⟩ := ih ha.2 hb.2 h.2
      exact ⟨by rw [h.1, e1], e2⟩
theorem no32 {a b s : List Nat} (ha : 32 ∉ a) (h : a = b ++ 32 :: s) : False := by
  subst h
  exact ha (by simp)
/-- words without spaces are told by their joined text -/
theorem jn_inj : ∀ {ws us : List (List Nat)}, (∀ w, w ∈ ws → 32 ∉ w) → (∀ w, w ∈ us → 32 ∉ w) → ws ≠ [] → us ≠ [] → jn [32] ws = jn [32] us → ws = us
  | [], _, _, _, h, _, _ => absurd rfl h
  | _, [], _, _, _, h, _ => absurd rfl h
  | [w], [u], _, _, _, _, h => by simpa [jn] using h
  | [w], u :: v :: r, hw, hu, _, _, h => by
    rw [jn, jn, List.append_assoc] at h
    exact (no32 (hw w (by simp)) h).elim
  | w :: v :: r, [u], hw, hu, _, _, h => by
    rw [jn, jn, List.append_assoc] at h
    exact (no32 (hu u (by simp)) h.symm).elim
  | w :: v :: r, u :: x :: s, hw, hu, _, _, h => by
    rw [jn, jn, List.append_assoc, List.append_assoc] at h
    obtain ⟨e1, e2⟩ := split32 (hw w (by simp)) (hu u (by simp)) h
    rw [e1, jn_inj (fun z hz => hw z (List.mem_cons_of_mem _ hz)) (fun z hz => hu z (List.mem_cons_of_mem _ hz)) (by simp) (by simp) e2]
/-! ### commands as texts -/
def Dir.lt : Dir → Nat
  | .down => 68
  | .up => 85
  | .right => 82
  | .left => 76
def Cmd.tx : Cmd → List Nat
  | .go d n => dg n.toNat ++ [d.lt]
  | .home => [72]
  | .fin => [69]
def txt (l : List Nat) : Str := ⟨l.toArray⟩
theorem cd_txt (l : List Nat) : cd (txt l) = l := rfl
def cmdsTx (cs : List Cmd) : List Nat := if cs = [] then [110, 111, 110, 101] else jn [32] (cs.map Cmd.tx)
theorem tx_no32 (c : Cmd) : 32 ∉ c.tx := by
  intro h
  cases c with
  | go d n =>
    rcases List.mem_append.mp h with h | h
    · have := dg_mem h
      omega
    · cases d <;> simp [Dir.lt] at h
  | home => simp [Cmd.tx] at h
  | fin => simp [Cmd.tx] at h
theorem tx_ne (c : Cmd) : c.tx ≠ [] := by
  cases c <;> simp [Cmd.tx]
theorem tx_last (c : Cmd) : ∃ r x, c.tx = r ++ [x] ∧ x ≠ 101 := by
  cases c with
  | go d n => exact ⟨_, _, rfl, by cases d <;> decide⟩
  | home => exact ⟨[], _, rfl, by decide⟩
  | fin => exact ⟨[], _, rfl, by decide⟩
theorem lt_inj {d e : Dir} (h : d.lt = e.lt) : d = e := by cases d <;> cases e <;> first | rfl | exact absurd h (by decide)
theorem tx_inj {b : Int} {c d : Cmd} (hc : c.ok b) (hd : d.ok b) (h : c.tx = d.tx) : c = d := by
  have one : ∀ (e : Dir) (n : Int) (x : Nat), dg n.toNat ++ [e.lt] = [x] → False := fun e n x h => by
    have := congrArg List.length h
    simp at this
    exact dg_ne _ this
  cases c with
  | go d n =>
    cases d with
    | _ =>
      rename Cmd => dd
      cases dd with
      | go e m =>
        have := List.append_inj' h rfl
        simp only [List.cons.injEq, and_true] at this
        rw [lt_inj this.2]
        have e1 := dg_inj this.1
        have : n = m := by
          have h1 := hc.1
          have h2 := hd.1
          omega
        rw [this]
      | home => exact (one _ _ _ h).elim
      | fin => exact (one _ _ _ h).elim
  | home =>
    cases d with
    | go e m => exact (one _ _ _ h.symm).elim
    | home => rfl
    | fin => exact absurd h (by decide)
  | fin =>
    cases d with
    | go e m => exact (one _ _ _ h.symm).elim
    | home => exact absurd h (by decide)
    | fin => rfl
theorem map_tx_inj {b : Int} : ∀ {cs ds : List Cmd}, (∀ c, c ∈ cs → c.ok b) → (∀ c, c ∈ ds → c.ok b) → cs.map Cmd.tx = ds.map Cmd.tx → cs = ds
  | [], [], _, _, _ => rfl
  | [], _ :: _, _, _, h => by cases h
  | _ :: _, [], _, _, h => by cases h
  | c :: cs, d :: ds, hc, hd, h => by
    rw [List.map_cons, List.map_cons, List.cons.injEq] at h
    rw [tx_inj (hc c (by simp)) (hd d (by simp)) h.1, map_tx_inj (fun x hx => hc x (List.mem_cons_of_mem _ hx)) (fun x hx => hd x (List.mem_cons_of_mem _ hx)) h.2]
theorem jn_last : ∀ (cs : List Cmd), cs ≠ [] → ∃ r x, jn [32] (cs.map Cmd.tx) = r ++ [x] ∧ x ≠ 101
  | [], h => absurd rfl h
  | [c], _ => by
    obtain ⟨r, x, e, h⟩ := tx_last c
    exact ⟨r, x, by simpa [jn] using e, h⟩
  | c :: d :: r, _ => by
    obtain ⟨q, x, e, h⟩ := jn_last (d :: r) (by simp)
    refine ⟨c.tx ++ [32] ++ q, x, ?_, h⟩
    rw [List.map_cons, List.map_cons, jn, ← List.map_cons, e]
    simp
/-- lists of commands are told by their texts -/
theorem cmdsTx_inj {b : Int} {cs ds : List Cmd} (hc : ∀ c, c ∈ cs → c.ok b) (hd : ∀ c, c ∈ ds → c.ok b) (h : cmdsTx cs = cmdsTx ds) : cs = ds := by
  have none : ∀ es : List Cmd, es ≠ [] → [110, 111, 110, 101] = jn [32] (es.map Cmd.tx) → False := fun es he h => by
    obtain ⟨r, x, e, hx⟩ := jn_last es he
    rw [e] at h
    have h2 : ([110, 111, 110] ++ [101] : List Nat) = r ++ [x] := h
    have := List.append_inj' h2 rfl
    simp only [List.cons.injEq, and_true] at this
    exact hx this.2.symm
  unfold cmdsTx at h
  by_cases h1 : cs = [] <;> by_cases h2 : ds = []
  · rw [h1, h2]
  · rw [if_pos h1, if_neg h2] at h
    exact (none ds h2 h).elim
  · rw [if_neg h1, if_pos h2] at h
    exact (none cs h1 h.symm).elim
  · rw [if_neg h1, if_neg h2] at h
    refine map_tx_inj hc hd (jn_inj (fun w hw => ?_) (fun w hw => ?_) (by simpa using h1) (by simpa using h2) h)
    · obtain ⟨c, _, rfl⟩ := List.mem_map.mp hw
      exact tx_no32 c
    · obtain ⟨c, _, rfl⟩ := List.mem_map.mp hw
      exact tx_no32 c
theorem tx_len {b : Int} {c : Cmd} {k : Nat} (h : c.ok b) (hb : b.toNat < 10 ^ (k + 1)) : c.tx.length ≤ k + 2 := by
  cases c with
  | go d n =>
    have := dg_len k n.toNat (Nat.lt_of_le_of_lt (by have := h.2; omega) hb)
    simp [Cmd.tx]
    omega
  | home => simp [Cmd.tx]
  | fin => simp [Cmd.tx]
theorem join_i {a : Str} {p : Addr} {ys : List Str} {Cs : Cells} {Q : WK} (h : LsAt p (ys.map W.str) Cs) (hz : (ys.map (·.length)).sum + ys.length * a.length ≤ 16777216) (q : Q (.str (Txt.join a ys)) Cs) : qJoin (.str a) [.ref p] Cs Q := ⟨a, p, ys, rfl, rfl, h, hz, q⟩
theorem sum_le {b : Nat} : ∀ {ys : List Str}, (∀ y, y ∈ ys → y.length ≤ b) → (ys.map (·.length)).sum ≤ ys.length * b
  | [], _ => by simp
  | y :: ys, h => by
    have h1 := h y (by simp)
    have h2 := sum_le (b := b) (ys := ys) fun z hz => h z (List.mem_cons_of_mem _ hz)
    rw [List.map_cons, List.sum_cons, List.length_cons, Nat.succ_mul]
    omega
theorem seq_i {t u : MS} {D : EndsW} {ρ : Rho} {Cs : Cells} (h : t { D with nx := u D } ρ Cs) : sSeq t u D ρ Cs := h
theorem starset_i {D : EndsW} {ρ : Rho} {Cs : Cells} {i a b : Nat} {x : W} {r : List W} (hρ : ρ i = some (.tup (x :: r))) (hl : r.length ≤ 1000) (k : ∀ p, D.nx ((ρ.put a x).put b (.ref p)) ((p, .lst r) :: Cs)) : sAsg (mVar i) (gStarW (gsCons (gSet a) (gsCons (gSet b) gsNil))) D ρ Cs :=
  ⟨_, hρ, x, r, rfl, hl, fun p => ⟨_, _, rfl, _, _, rfl, rfl, k p⟩⟩
theorem dget_i {a : Addr} {y w : W} {kvs : List (Key × W)} {k : Key} {Cs : Cells} {Q : WK} [h : At a Cs (.dic kvs)] (hk : y = kW k) (hv : valW kvs k = some w) (q : Q w Cs) : qDGet (.ref a) y Cs Q := ⟨a, kvs, k, w, rfl, h.mem, hk, hv, q⟩
theorem txt_app (a b : List Nat) : txt a ++ txt b = txt (a ++ b) := cd_inj (by rw [cd_app, cd_txt, cd_txt, cd_txt])
theorem txt_len (a : List Nat) : (txt a).length = a.length := by rw [← cd_len, cd_txt]
theorem txt_inj {a b : List Nat} : txt a = txt b ↔ a = b := ⟨fun h => by have := congrArg cd h; exact this, fun h => by rw [h]⟩
theorem of_num {n : Int} (h : 0 ≤ n) : Str.ofString (toString n) = txt (dg n.toNat) := cd_inj (by rw [cd_num h, cd_txt])
theorem sp_txt : Str.ofString " " = txt [32] := by decide
theorem no_txt : Str.ofString "" = txt [] := by decide
end SL
namespace SL
open PySem PySem.Spec PyProof.Rows L2
theorem noC {P : Program} {w : World} {K : PySem.W.Frag} {mg : Str → Option Value} {base : Heap} {k : Nat} {x : Str} {kb : List KSig} {st : Stmt} {ps : List Str} (h : Has K mg x st)
    (bind : ∀ (kV doc pm : Value) (an : Option Addr) (cdv ct : Value) (us : List Value), us.length = ps.length → bindArgs (PySem.W.fnOf x x (defArgs st) (defBody st) (defScope st) .none kV doc pm an cdv ct) { pos := us } = pure (ps.zip us))
    (kbind : ∀ t, t ∈ kb → ∀ (kV doc pm : Value) (an : Option Addr) (cdv ct : Value), KBd (PySem.W.fnOf x x (defArgs st) (defBody st) (defScope st) .none kV doc pm an cdv ct) ps t.1 t.2.1 t.2.2.1 t.2.2.2) : Cal P w K mg base k x (fun _ _ _ _ => False) kb := by
  obtain ⟨f, fd, hm, F⟩ := h.ex
  refine ⟨f, fd, ps, ⟨fun vs H Q E ⟨_, _, _, _, _, _, e, _⟩ => e.elim, fun A outer s H args us vs Q E _ _ _ _ _ ⟨_, _, _, _, _, _, e, _⟩ => e.elim⟩, hm, F.kp, F.binds bind, fun t ht => ?_⟩
  obtain ⟨oc, od, kV, doc, pm, an, cdv, ct, osl, e, _⟩ := F.ex
  rw [e]
  exact kbind t ht kV doc pm an cdv ct
theorem qIsN_n {x : W} {Cs : Cells} {Q : WK} : qIsN x .non Cs Q = Q (.bl (isNon x)) Cs := propext ⟨fun h => h.2, fun h => ⟨rfl, h⟩⟩
theorem qNotN_n {x : W} {Cs : Cells} {Q : WK} : qNotN x .non Cs Q = Q (.bl (!isNon x)) Cs := propext ⟨fun h => h.2, fun h => ⟨rfl, h⟩⟩
/-! ### a comprehension's scope, looked through -/
def blkOkB (N : List Str) (sc scope : Scope) (own : List (Str × Nat)) : Bool :=
  decide (scope.kind = .function) && scope.names.all (fun y => decide (scope.names.lookup y.1 = some y.2)) && own.all (fun p => decide (N[p.2]? = some p.1)) &&
  scope.names.all (fun y => !decide (y.2 = .free) || decide (sc.names.lookup y.1 = some .cell) || decide (sc.names.lookup y.1 = some .free)) &&
  scope.names.all (fun y => !(decide (y.2 = .local) || decide (y.2 = .cell)) || decide (y.1 ∈ own.map (·.1)) || !decide (y.1 ∈ N))
theorem blkOf {N : List Str} {sc scope : Scope} {own : List (Str × Nat)} (h : blkOkB N sc scope own = true) : BlkOk N sc scope own := by
  unfold blkOkB at h
  simp only [Bool.and_eq_true, List.all_eq_true, decide_eq_true_eq, Bool.or_eq_true, Bool.not_eq_true', decide_eq_false_iff_not, Bool.or_eq_false_iff] at h
  obtain ⟨⟨⟨⟨h1, h2⟩, h3⟩, h4⟩, h5⟩ := h
  refine ⟨h1, h2, h3, fun y hy e => ?_, fun y hy e => ?_⟩
  · rcases h4 y hy with (q | q) | q
    · exact absurd e q
    · exact .inl q
    · exact .inr q
  · rcases h5 y hy with (q | q) | q
    · exact (e.elim (fun z => q.1 z) fun z => q.2 z).elim
    · exact .inl q
    · exact .inr q
/-! ### data by kinds -/
inductive Kd (Cs : Cells) : W → PyData → Prop
  | non : Kd Cs .non .none
  | bl (b : Bool) : Kd Cs (.bl b) (.bool b)
  | int (i : Int) : Kd Cs (.int i) (.int i)
  | str (x : Str) : Kd Cs (.str x) (.str x)
  | tup {ws : List W} {ds : List PyData} (hl : ws.length = ds.length) (hd : ∀ (i : Nat) (w : W) (d : PyData), ws[i]? = some w → ds[i]? = some d → Dw Cs w d) : Kd Cs (.tup ws) (.tuple ds)
  | lst {a : Addr} {ws : List W} {ds : List PyData} (h : LsAt a ws Cs) (hl : ws.length = ds.length) (hd : ∀ (i : Nat) (w : W) (d : PyData), ws[i]? = some w → ds[i]? = some d → Dw Cs w d) : Kd Cs (.ref a) (.list ds)
theorem Dw.kd {Cs : Cells} {w : W} {d : PyData} (h : Dw Cs w d) : Kd Cs w d := by
  cases h with
  | lst h hl hd => exact .lst h hl hd
  | tup hl hd => exact .tup hl hd
  | flat h =>
    cases w with
    | non => rw [dW.eq_def]; exact .non
    | bl b => rw [dW.eq_def]; exact .bl b
    | int i => rw [dW.eq_def]; exact .int i
    | str x => rw [dW.eq_def]; exact .str x
    | ref a => rw [noref.eq_def] at h; cases h
    | ty n => rw [noref.eq_def] at h; cases h
    | cst a ws => rw [noref.eq_def] at h; cases h
    | tup ws =>
      rw [dW.eq_def]
      rw [noref.eq_def] at h
      dsimp only at h
      rw [norefs_all] at h
      refine .tup (by rw [dWs_map, List.length_map]) fun i w d e1 e2 => ?_
      rw [dWs_map, List.getElem?_map, e1] at e2
      cases e2
      exact .flat (List.all_eq_true.mp h w (List.mem_of_getElem? e1))
/-- of depth at most n, of lists that are not too long -/
def Sz : Nat → PyData → Prop
  | 0, .list _ => False
  | 0, .tuple _ => False
  | 0, .dict _ => False
  | 0, _ => True
  | n + 1, .list xs => xs.length ≤ 90000 ∧ ∀ x, x ∈ xs → Sz n x
  | n + 1, .tuple xs => xs.length ≤ 90000 ∧ ∀ x, x ∈ xs → Sz n x
  | _ + 1, .dict _ => False
  | _ + 1, _ => True
def spSame : Nat → SpW
  | 0 => fun _ _ _ _ => False
  | n + 1 => sp2 fun x y Cs Q _ => ∃ d e, Dw Cs x d ∧ Dw Cs y e ∧ Sz n e ∧ ∀ b : Bool, (b = true ↔ d = e) → Q (.bl b) Cs
theorem lenSame : ∀ n ws Cs Q E, spSame n ws Cs Q E → ws.length = 2
  | 0, _, _, _, _, h => h.elim
  | n + 1, ws, Cs, Q, E, ⟨_, _, e, _⟩ => by rw [e]; rfl
theorem same_i {n : Nat} {x y : W} {Cs : Cells} {Q : WK} {E : XW} {d e : PyData} (h1 : Dw Cs x d) (h2 : Dw Cs y e) (h3 : Sz n e) (k : ∀ b : Bool, (b = true ↔ d = e) → Q (.bl b) Cs) : cl (spSame (n + 1)) [x, y] Cs Q E := cl_h ⟨_, _, rfl, d, e, h1, h2, h3, k⟩
theorem uIsi_r {a : Addr} {c : String} {Cs : Cells} {Q : WK} : uIsi [.ref a, .ty c] Cs Q = ∃ t b, tyW Cs (.ref a) t ∧ kitB t c = some b ∧ Q (.bl b) Cs := rfl
theorem ty_l {a : Addr} {ws : List W} {Cs : Cells} (h : LsAt a ws Cs) : tyW Cs (.ref a) "list" := .inl ⟨rfl, ws, h⟩
theorem dec_iff {b : Bool} {p : Prop} [Decidable p] (h : b = true ↔ p) : b = decide p := by
  by_cases hp : p
  · rw [decide_eq_true hp]; exact h.mpr hp
  · rw [decide_eq_false hp]
    cases b
    · rfl
    · exact absurd (h.mp rfl) hp
end SL
namespace SL
open PySem PySem.Spec PyProof.Rows L2
def BIG : Int := 1000000000000000000000000000000000000000000000
theorem lg_big {i : Int} (h0 : 0 ≤ i) (h : i ≤ BIG) : i.natAbs.log2 < 1920 := by
  by_cases e : i = 0
  · rw [e]
    decide
  · have : i.natAbs < 2 ^ 200 := by
      unfold BIG at h
      omega
    exact Nat.lt_trans ((Nat.log2_lt (by omega)).mpr this) (by decide)
theorem tx_big {c : Cmd} (h : c.ok BIG) : c.tx.length ≤ 47 := tx_len (k := 45) h (by decide)
theorem num_big {n : Int} (h0 : 0 ≤ n) (h : n ≤ BIG) : (Str.ofString (toString n)).length ≤ 46 := by
  rw [← cd_len, cd_num h0]
  exact dg_len 45 _ (by unfold BIG at h; omega)
/-! ### how long a shown text is -/
theorem textFrom_len (b : Nat) : ∀ (ts : List Str) (k : Nat) (acc : Str), (∀ t, t ∈ ts → t.length ≤ b) → (textFrom k acc ts).length ≤ acc.length + ts.length * (b + 2)
  | [], k, acc, _ => by rw [textFrom.eq_def]; simp
  | t :: ts, k, acc, h => by
    rw [textFrom.eq_def]
    dsimp only
    have h1 := textFrom_len b ts (k + 1) (acc ++ Str.ofString (if k > 0 then ", " else "") ++ t) fun x hx => h x (List.mem_cons_of_mem _ hx)
    have h2 := h t (by simp)
    rw [Str.length_append, Str.length_append] at h1
    have h3 : (Str.ofString (if k > 0 then ", " else "")).length ≤ 2 := by split <;> decide
    rw [List.length_cons, Nat.succ_mul]
    omega
theorem listText_len {b : Nat} {ts : List Str} (h : ∀ t, t ∈ ts → t.length ≤ b) : (listText ts).length ≤ 2 + ts.length * (b + 2) := by
  unfold listText
  rw [Str.length_append]
  have h1 := textFrom_len b ts 0 (Str.ofString "[") h
  have h2 : (Str.ofString "[").length = 1 := by decide
  have h3 : (Str.ofString "]").length = 1 := by decide
  omega
theorem cd_sjoin (g : Str) : ∀ ps : List Str, cd (Str.join g ps) = jn (cd g) (ps.map cd)
  | [] => by rw [Str.join.eq_def]; rfl
  | [p] => by rw [Str.join.eq_def]; rfl
  | p :: u :: r => by
    rw [Str.join.eq_def]
    dsimp only
    rw [cd_app, cd_app, cd_sjoin g (u :: r)]
    rfl
theorem tupleText_len {b : Nat} {ts : List Str} (h : ∀ t, t ∈ ts → t.length ≤ b) : (tupleText ts).length ≤ 3 + ts.length * (b + 2) := by
  unfold tupleText
  rw [Str.length_append, Str.length_append]
  have h2 : (Str.ofString "(").length = 1 := by decide
  have h3 : (Str.ofString (if (ts.length == 1) = true then ",)" else ")")).length ≤ 2 := by split <;> decide
  have h4 : (Str.join (Str.ofString ", ") ts).length ≤ ts.length * (b + 2) := by
    rw [← cd_len, cd_sjoin]
    have := jn_len (cd (Str.ofString ", ")) b (ts.map cd) fun w hw => by
      obtain ⟨t, ht, rfl⟩ := List.mem_map.mp hw
      rw [cd_len]
      exact h t ht
    have e2 : (cd (Str.ofString ", ")).length = 2 := by decide
    rw [List.length_map, e2] at this
    exact this
  omega
theorem shownAll_map : ∀ ds : List PyData, PyData.shownAll ds = ds.map PyData.shown
  | [] => by rw [PyData.shownAll.eq_def]; rfl
  | d :: ds => by rw [PyData.shownAll.eq_def, List.map_cons, ← shownAll_map ds]
theorem shown_cmd {c : Cmd} (h : c.ok BIG) : (dW c.w).shown.length ≤ 150 := by
  have tl : ∀ (ts : List Str), (∀ t, t ∈ ts → t.length ≤ 46) → ts.length ≤ 2 → (tupleText ts).length ≤ 150 := fun ts h hl => by
    have := tupleText_len h
    have : ts.length * (46 + 2) ≤ 2 * 48 := Nat.mul_le_mul hl (Nat.le_refl _)
    omega
  have rt : ∀ d : Dir, (reprText d.nm).length ≤ 46 := fun d => by cases d <;> decide +kernel
  cases c with
  | go d n =>
    rw [Cmd.w, dW, PyData.shown.eq_def, dWs, dWs, dWs]
    dsimp only
    rw [shownAll_map, List.map_cons, List.map_cons, List.map_nil, dW, dW, PyData.shown.eq_def, PyData.shown.eq_def]
    dsimp only
    refine tl _ (fun t ht => ?_) (by simp)
    simp only [List.mem_cons, List.not_mem_nil, or_false] at ht
    rcases ht with rfl | rfl
    · exact rt d
    · have := h.1
      exact num_big (by omega) h.2
  | home =>
    rw [Cmd.w, dW, PyData.shown.eq_def, dWs, dWs]
    dsimp only
    rw [shownAll_map, List.map_cons, List.map_nil, dW, PyData.shown.eq_def]
    dsimp only
    refine tl _ (fun t ht => ?_) (by simp)
    simp only [List.mem_cons, List.not_mem_nil, or_false] at ht
    subst ht
    decide +kernel
  | fin =>
    rw [Cmd.w, dW, PyData.shown.eq_def, dWs, dWs]
    dsimp only
    rw [shownAll_map, List.map_cons, List.map_nil, dW, PyData.shown.eq_def]
    dsimp only
    refine tl _ (fun t ht => ?_) (by simp)
    simp only [List.mem_cons, List.not_mem_nil, or_false] at ht
    subst ht
    decide +kernel
theorem showable_cmd {c : Cmd} (h : c.ok BIG) : (dW c.w).showable = true := by
  cases c with
  | go d n =>
    have e : decide (n.natAbs.log2 < 1920) = true := decide_eq_true (lg_big (by have := h.1; omega) h.2)
    rw [Cmd.w, dW, dWs, dWs, dWs, dW, dW, PyData.showable.eq_def]
    dsimp only
    rw [PyData.showableAll.eq_def]
    dsimp only
    rw [PyData.showableAll.eq_def]
    dsimp only
    rw [PyData.showableAll.eq_def, PyData.showable.eq_def, PyData.showable.eq_def]
    dsimp only
    rw [e]
    rfl
  | home => decide +kernel
  | fin => decide +kernel
theorem noDict_cmd (c : Cmd) : (dW c.w).hasDict = false := by
  cases c with
  | go d n =>
    rw [Cmd.w, dW, dWs, dWs, dWs, dW, dW, PyData.hasDict.eq_def]
    dsimp only
    rw [PyData.hasDictAll.eq_def]
    dsimp only
    rw [PyData.hasDictAll.eq_def]
    dsimp only
    rw [PyData.hasDictAll.eq_def, PyData.hasDict.eq_def, PyData.hasDict.eq_def]
    rfl
  | home => decide +kernel
  | fin => decide +kernel
def cmdsRepr (cs : List Cmd) : Str := PyData.shown (.list ((cs.map Cmd.w).map dW))
theorem repr_cmds {a : Addr} {cs : List Cmd} {Cs : Cells} {Q : WK} (h : LsAt a (cs.map Cmd.w) Cs) (hn : cs.length ≤ 5000) (hc : ∀ c, c ∈ cs → c.ok BIG) (k : Q (.str (cmdsRepr cs)) Cs) : qRepr [.ref a] Cs Q := by
  have el : ∀ d, d ∈ (cs.map Cmd.w).map dW → ∃ c, c ∈ cs ∧ d = dW c.w := fun d hd => by
    obtain ⟨w, hw, rfl⟩ := List.mem_map.mp hd
    obtain ⟨c, hc, rfl⟩ := List.mem_map.mp hw
    exact ⟨c, hc, rfl⟩
  refine ⟨a, (cs.map Cmd.w).map dW, rfl, .lflat h (nbs_noref (nbs_all fun w hw => (dok_cmds w hw).nb)), showAll fun d hd => ?_, noDictAll fun d hd => ?_, Nat.le_trans (depthAll_le (n := 1) fun d hd => ?_) (by decide), ?_, k⟩
  · obtain ⟨c, h1, rfl⟩ := el d hd
    exact showable_cmd (hc c h1)
  · obtain ⟨c, h1, rfl⟩ := el d hd
    exact noDict_cmd c
  · obtain ⟨c, h1, rfl⟩ := el d hd
    exact (dok_cmd c).dep
  · rw [PyData.shown.eq_def]
    dsimp only
    rw [shownAll_map]
    have := listText_len (b := 150) (ts := ((cs.map Cmd.w).map dW).map PyData.shown) fun t ht => by
      obtain ⟨d, hd, rfl⟩ := List.mem_map.mp ht
      obtain ⟨c, h1, rfl⟩ := el d hd
      exact shown_cmd (hc c h1)
    rw [List.length_map, List.length_map, List.length_map] at this
    refine Nat.le_trans this ?_
    rw [sizeLine_eq]
    omega
end SL
namespace SL
open PySem PySem.Spec PyProof.Rows L2
def d_LETTERS : Str → Option W := fun x => if x = "down" then some (.str "D") else if x = "up" then some (.str "U") else if x = "right" then some (.str "R") else if x = "left" then some (.str "L") else if x = "home" then some (.str "H") else if x = "end" then some (.str "E") else none
/-! ### show_command -/
def sp_show_command : SpW := sp1 fun x Cs Q _ => ∃ c : Cmd, x = c.w ∧ c.ok BIG ∧ Q (.str (txt c.tx)) Cs
theorem len_show_command : ∀ ws Cs Q E, sp_show_command ws Cs Q E → ws.length = 1 := len1
def b_show_command : MS := sSeq (sAsg (mVar 0) (gStarW (gsCons (gSet 1) (gsCons (gSet 2) (gsNil))))) (sRet (mBin uAdd (mBM "str" qJoin (mC (.str "")) (mCons (mLc (iLst (mVar 2)) (gSet 3) (mYes) (mCB qStrI (mCons (mVar 3) (mNil))) [3]) (mNil))) (mDT d_LETTERS (mVar 1))))
def kb_show_command : List KSig := []
theorem letter_at (d : Dir) : d_LETTERS d.nm = some (.str (txt [d.lt])) := by cases d <;> rfl
theorem pure_show_command : ∀ ws Cs Q E, sp_show_command ws Cs Q E → b_show_command (EndsD Q E) (rho0 ws) Cs := by
  rintro ws Cs Q E ⟨x, rfl, c, rfl, hc, k⟩
  have num : ∀ (D : Addr) (nm : Str) (ns : List Int) (y : Str), (∀ n, n ∈ ns → 0 ≤ n ∧ n ≤ BIG) → ns.length ≤ 1 → d_LETTERS nm = some (.str y) → y.length ≤ 10 → Txt.join "" (ns.map fun n => Str.ofString (toString n)) ++ y = txt c.tx →
      sRet (mBin uAdd (mBM "str" qJoin (mC (.str "")) (mCons (mLc (iLst (mVar 2)) (gSet 3) (mYes) (mCB qStrI (mCons (mVar 3) (mNil))) [3]) (mNil))) (mDT d_LETTERS (mVar 1))) (EndsD Q E) (((rho0 [c.w]).put 1 (.str nm)).put 2 (.ref D)) ((D, .lst (ns.map W.int)) :: Cs) := by
    intro D nm ns y hn hl hy hz hx
    (repeat (first | (simp only [Int.zero_add, qIsN_n, qNotN_n, uIsi_r, nm_home, nm_fin, home_nm, fin_nm, sne_down_up, sne_down_right, sne_down_left, sne_down_home, sne_down_end, sne_up_down, sne_up_right, sne_up_left, sne_up_home, sne_up_end, sne_right_down, sne_right_up, sne_right_left, sne_right_home, sne_right_end, sne_left_down, sne_left_up, sne_left_right, sne_left_home, sne_left_end, sne_home_down, sne_home_up, sne_home_right, sne_home_left, sne_home_end, sne_end_down, sne_end_up, sne_end_right, sne_end_left, sne_end_home, sFor_eq, mLc_eq, uAdd_i, uAdd_s, uAdd_l, uMul_i, uMul_l, uEq_ii, uEq_ss, uEq_bb, uEq_nn, uEq_ni, uEq_in, uEq_ns, uEq_sn, uEq_is, uEq_si, uEq_rr, uEq_tt, uEq_rt, uEq_tr, uEq_tn, uEq_nt, uNe_ii, uNe_ss, uNe_bb, uNe_nn, uNe_ni, uNe_in, uNe_ns, uNe_sn, uNe_is, uNe_si, uNe_rr, uNe_tt, uNe_rt, uNe_tr, uNe_tn, uNe_nt, uIn_t, uIn_r, uIx_t, uIx_r, uIx_c, uIx_s, uLen_c, uLen_r, uLen_t, uLen_s, uMin_i, uMin_r, uMax_i, uMax_r, uInt_b, uInt_i, uInt_s, uList_r, uList_t, uIsi_n, uIsi_b, uIsi_i, uIsi_s, uIsi_t, uIsi_c, uSl_c, uSl_r, uSl_s, iOf_r, iOf_c, isNon_n, isNon_i, isNon_s, isNon_b, isNon_t, isNon_r, flat_s, flat_i, flat_b, flat_n, weq_ss, weq_ii, weq_ni, weq_in, weq_nn, kb_bb, kb_bi, kb_bs, kb_bl, kb_bt, kb_ib, kb_ii, kb_is, kb_il, kb_it, kb_sb, kb_si, kb_ss, kb_sl, kb_st, kb_lb, kb_li, kb_ls, kb_ll, kb_lt, kb_tb, kb_ti, kb_ts, kb_tl, kb_tt, kb_nb, kb_ni, kb_ns, kb_nl, kb_nt, nth0, nth1, nth2, nth3, mVar, mC, mBin, mUn, mNil, mCons, mCB, mTest, mAnd, mOr, mNot, mIf, mAndV, mOrV, mNotV, mTup, mLst, mChain, mCall, mCallK, reord, mYes, sNext, sSeq, sDrop, sRet, sRetN, sIf, sNever, sBreak, sCont, sAsg, sPar, sAug, sStore, gSet, gsNil, gsCons, gTupW, gStarW, qI2, qI, qNeg, qAbs, qStrI, iLst, iRgn, iRg2, iEnu, iTpl, mDT, mBM, mBM0, mSl, oNone, oSome, sMatch, mGo, mDNew, mDisp_eq, mPairs, EndsD, EndsW.turn, Rho.put, Rho.wipe, Rho.del, rho0, sp1_iff, sp2_iff, sp3_iff, sp4_iff, win, List.filterMap_cons, List.filterMap_nil, List.cons_append, List.nil_append, List.length_cons, List.length_nil, List.all_cons, List.all_nil, List.any_cons, List.any_nil, List.getElem?_cons_zero, List.getElem?_cons_succ, List.getElem?_nil, List.set_cons_zero, List.set_cons_succ, reduceIte, reduceCtorEq, Nat.reduceEqDiff, Nat.reduceAdd, Nat.reduceSub, Nat.reduceMul, Nat.reduceLeDiff, Int.reduceToNat, Int.cast_ofNat_Int, Int.natCast_zero, Int.natCast_one, Int.reduceLE, Int.reduceLT, Int.reduceNeg, Int.reduceAdd, Int.reduceSub, Int.reducePow, Int.reduceEq, Int.reduceNe, Int.toNat_zero, Int.toNat_one, Int.ofNat_eq_natCast, Nat.reducePow, Nat.le_refl, ge_iff_le, gt_iff_lt, List.mem_cons, List.not_mem_nil, or_false, false_or, or_true, true_or, Option.some.injEq, exists_eq_left', exists_eq_left, exists_eq', exists_eq, exists_and_left, exists_and_right, and_assoc, true_and, and_true, false_and, and_false, exists_false, exists_const, not_true_eq_false, not_false_eq_true, W.int.injEq, W.bl.injEq, W.str.injEq, W.ref.injEq, W.tup.injEq, List.cons.injEq, Bool.true_eq_false, Bool.false_eq_true, decide_eq_true_eq, decide_eq_false_iff_not, Bool.not_eq_true', Bool.not_eq_false', Bool.not_true, Bool.not_false, forall_const, true_implies, false_implies, implies_true, imp_self, decide_true, decide_false, Bool.and_true, Bool.true_and, Bool.and_false, Bool.false_and, Bool.or_false, Bool.or_true, Bool.false_or, Bool.true_or, beq_self_eq_true, pw_2_61, pw_10_18, pw_10_30, pw_10_29, pw_10_28, pw_10_40, pw_10_6, pw_10_9, lg_128, eq_self_iff_true, ne_eq, Int.not_lt, Int.not_le, Nat.not_lt, Nat.not_le, BEq.rfl]) | (refine ⟨_, (by first | exact lsAt_i | assumption), ?_⟩) | (refine ⟨mty_l, ?_⟩) | (refine ⟨mty_s, ?_⟩) | (refine ⟨_, ty_l (by first | exact lsAt_i | assumption), ?_⟩)))
    refine lcB_i (fun i acc C => acc = ((ns.take i).map fun n => Str.ofString (toString n)).map W.str ∧ C = (D, .lst (ns.map W.int)) :: Cs) ⟨rfl, rfl⟩ (fun i acc C hi h => by rw [h.2]; exact lsAt_i) ?_ ?_
    · rintro D2 i w acc C hi hw ⟨rfl, rfl⟩
      dsimp only at hi hw
      rw [List.length_map] at hi
      rw [List.getElem?_map, List.getElem?_eq_getElem hi] at hw
      obtain rfl := Option.some.inj hw
      have hb := hn _ (List.getElem_mem hi)
      (repeat (first | (simp only [Int.zero_add, qIsN_n, qNotN_n, uIsi_r, nm_home, nm_fin, home_nm, fin_nm, sne_down_up, sne_down_right, sne_down_left, sne_down_home, sne_down_end, sne_up_down, sne_up_right, sne_up_left, sne_up_home, sne_up_end, sne_right_down, sne_right_up, sne_right_left, sne_right_home, sne_right_end, sne_left_down, sne_left_up, sne_left_right, sne_left_home, sne_left_end, sne_home_down, sne_home_up, sne_home_right, sne_home_left, sne_home_end, sne_end_down, sne_end_up, sne_end_right, sne_end_left, sne_end_home, sFor_eq, mLc_eq, uAdd_i, uAdd_s, uAdd_l, uMul_i, uMul_l, uEq_ii, uEq_ss, uEq_bb, uEq_nn, uEq_ni, uEq_in, uEq_ns, uEq_sn, uEq_is, uEq_si, uEq_rr, uEq_tt, uEq_rt, uEq_tr, uEq_tn, uEq_nt, uNe_ii, uNe_ss, uNe_bb, uNe_nn, uNe_ni, uNe_in, uNe_ns, uNe_sn, uNe_is, uNe_si, uNe_rr, uNe_tt, uNe_rt, uNe_tr, uNe_tn, uNe_nt, uIn_t, uIn_r, uIx_t, uIx_r, uIx_c, uIx_s, uLen_c, uLen_r, uLen_t, uLen_s, uMin_i, uMin_r, uMax_i, uMax_r, uInt_b, uInt_i, uInt_s, uList_r, uList_t, uIsi_n, uIsi_b, uIsi_i, uIsi_s, uIsi_t, uIsi_c, uSl_c, uSl_r, uSl_s, iOf_r, iOf_c, isNon_n, isNon_i, isNon_s, isNon_b, isNon_t, isNon_r, flat_s, flat_i, flat_b, flat_n, weq_ss, weq_ii, weq_ni, weq_in, weq_nn, kb_bb, kb_bi, kb_bs, kb_bl, kb_bt, kb_ib, kb_ii, kb_is, kb_il, kb_it, kb_sb, kb_si, kb_ss, kb_sl, kb_st, kb_lb, kb_li, kb_ls, kb_ll, kb_lt, kb_tb, kb_ti, kb_ts, kb_tl, kb_tt, kb_nb, kb_ni, kb_ns, kb_nl, kb_nt, nth0, nth1, nth2, nth3, mVar, mC, mBin, mUn, mNil, mCons, mCB, mTest, mAnd, mOr, mNot, mIf, mAndV, mOrV, mNotV, mTup, mLst, mChain, mCall, mCallK, reord, mYes, sNext, sSeq, sDrop, sRet, sRetN, sIf, sNever, sBreak, sCont, sAsg, sPar, sAug, sStore, gSet, gsNil, gsCons, gTupW, gStarW, qI2, qI, qNeg, qAbs, qStrI, iLst, iRgn, iRg2, iEnu, iTpl, mDT, mBM, mBM0, mSl, oNone, oSome, sMatch, mGo, mDNew, mDisp_eq, mPairs, EndsD, EndsW.turn, Rho.put, Rho.wipe, Rho.del, rho0, sp1_iff, sp2_iff, sp3_iff, sp4_iff, win, List.filterMap_cons, List.filterMap_nil, List.cons_append, List.nil_append, List.length_cons, List.length_nil, List.all_cons, List.all_nil, List.any_cons, List.any_nil, List.getElem?_cons_zero, List.getElem?_cons_succ, List.getElem?_nil, List.set_cons_zero, List.set_cons_succ, reduceIte, reduceCtorEq, Nat.reduceEqDiff, Nat.reduceAdd, Nat.reduceSub, Nat.reduceMul, Nat.reduceLeDiff, Int.reduceToNat, Int.cast_ofNat_Int, Int.natCast_zero, Int.natCast_one, Int.reduceLE, Int.reduceLT, Int.reduceNeg, Int.reduceAdd, Int.reduceSub, Int.reducePow, Int.reduceEq, Int.reduceNe, Int.toNat_zero, Int.toNat_one, Int.ofNat_eq_natCast, Nat.reducePow, Nat.le_refl, ge_iff_le, gt_iff_lt, List.mem_cons, List.not_mem_nil, or_false, false_or, or_true, true_or, Option.some.injEq, exists_eq_left', exists_eq_left, exists_eq', exists_eq, exists_and_left, exists_and_right, and_assoc, true_and, and_true, false_and, and_false, exists_false, exists_const, not_true_eq_false, not_false_eq_true, W.int.injEq, W.bl.injEq, W.str.injEq, W.ref.injEq, W.tup.injEq, List.cons.injEq, Bool.true_eq_false, Bool.false_eq_true, decide_eq_true_eq, decide_eq_false_iff_not, Bool.not_eq_true', Bool.not_eq_false', Bool.not_true, Bool.not_false, forall_const, true_implies, false_implies, implies_true, imp_self, decide_true, decide_false, Bool.and_true, Bool.true_and, Bool.and_false, Bool.false_and, Bool.or_false, Bool.or_true, Bool.false_or, Bool.true_or, beq_self_eq_true, pw_2_61, pw_10_18, pw_10_30, pw_10_29, pw_10_28, pw_10_40, pw_10_6, pw_10_9, lg_128, eq_self_iff_true, ne_eq, Int.not_lt, Int.not_le, Nat.not_lt, Nat.not_le, BEq.rfl]) | (refine ⟨_, (by first | exact lsAt_i | assumption), ?_⟩) | (refine ⟨mty_l, ?_⟩) | (refine ⟨mty_s, ?_⟩) | (refine ⟨_, ty_l (by first | exact lsAt_i | assumption), ?_⟩)))
      refine ⟨lg_big hb.1 hb.2, ?_, _, .here, ?_, rfl⟩
      · rw [List.length_map, List.length_map, List.length_take]
        omega
      · rw [List.take_succ_eq_append_getElem hi, List.map_append, List.map_append]
        rfl
    · rintro D2 acc C ⟨rfl, rfl⟩
      rw [List.length_map, List.take_length]
      have hs : ((ns.map fun n => Str.ofString (toString n)).map (·.length)).sum ≤ 46 := Nat.le_trans (sum_le (b := 46) fun y hy => by
        obtain ⟨n, hn', rfl⟩ := List.mem_map.mp hy
        exact num_big (hn n hn').1 (hn n hn').2) (by rw [List.length_map]; omega)
      (repeat (first | (simp only [Int.zero_add, qIsN_n, qNotN_n, uIsi_r, nm_home, nm_fin, home_nm, fin_nm, sne_down_up, sne_down_right, sne_down_left, sne_down_home, sne_down_end, sne_up_down, sne_up_right, sne_up_left, sne_up_home, sne_up_end, sne_right_down, sne_right_up, sne_right_left, sne_right_home, sne_right_end, sne_left_down, sne_left_up, sne_left_right, sne_left_home, sne_left_end, sne_home_down, sne_home_up, sne_home_right, sne_home_left, sne_home_end, sne_end_down, sne_end_up, sne_end_right, sne_end_left, sne_end_home, sFor_eq, mLc_eq, uAdd_i, uAdd_s, uAdd_l, uMul_i, uMul_l, uEq_ii, uEq_ss, uEq_bb, uEq_nn, uEq_ni, uEq_in, uEq_ns, uEq_sn, uEq_is, uEq_si, uEq_rr, uEq_tt, uEq_rt, uEq_tr, uEq_tn, uEq_nt, uNe_ii, uNe_ss, uNe_bb, uNe_nn, uNe_ni, uNe_in, uNe_ns, uNe_sn, uNe_is, uNe_si, uNe_rr, uNe_tt, uNe_rt, uNe_tr, uNe_tn, uNe_nt, uIn_t, uIn_r, uIx_t, uIx_r, uIx_c, uIx_s, uLen_c, uLen_r, uLen_t, uLen_s, uMin_i, uMin_r, uMax_i, uMax_r, uInt_b, uInt_i, uInt_s, uList_r, uList_t, uIsi_n, uIsi_b, uIsi_i, uIsi_s, uIsi_t, uIsi_c, uSl_c, uSl_r, uSl_s, iOf_r, iOf_c, isNon_n, isNon_i, isNon_s, isNon_b, isNon_t, isNon_r, flat_s, flat_i, flat_b, flat_n, weq_ss, weq_ii, weq_ni, weq_in, weq_nn, kb_bb, kb_bi, kb_bs, kb_bl, kb_bt, kb_ib, kb_ii, kb_is, kb_il, kb_it, kb_sb, kb_si, kb_ss, kb_sl, kb_st, kb_lb, kb_li, kb_ls, kb_ll, kb_lt, kb_tb, kb_ti, kb_ts, kb_tl, kb_tt, kb_nb, kb_ni, kb_ns, kb_nl, kb_nt, nth0, nth1, nth2, nth3, mVar, mC, mBin, mUn, mNil, mCons, mCB, mTest, mAnd, mOr, mNot, mIf, mAndV, mOrV, mNotV, mTup, mLst, mChain, mCall, mCallK, reord, mYes, sNext, sSeq, sDrop, sRet, sRetN, sIf, sNever, sBreak, sCont, sAsg, sPar, sAug, sStore, gSet, gsNil, gsCons, gTupW, gStarW, qI2, qI, qNeg, qAbs, qStrI, iLst, iRgn, iRg2, iEnu, iTpl, mDT, mBM, mBM0, mSl, oNone, oSome, sMatch, mGo, mDNew, mDisp_eq, mPairs, EndsD, EndsW.turn, Rho.put, Rho.wipe, Rho.del, rho0, sp1_iff, sp2_iff, sp3_iff, sp4_iff, win, List.filterMap_cons, List.filterMap_nil, List.cons_append, List.nil_append, List.length_cons, List.length_nil, List.all_cons, List.all_nil, List.any_cons, List.any_nil, List.getElem?_cons_zero, List.getElem?_cons_succ, List.getElem?_nil, List.set_cons_zero, List.set_cons_succ, reduceIte, reduceCtorEq, Nat.reduceEqDiff, Nat.reduceAdd, Nat.reduceSub, Nat.reduceMul, Nat.reduceLeDiff, Int.reduceToNat, Int.cast_ofNat_Int, Int.natCast_zero, Int.natCast_one, Int.reduceLE, Int.reduceLT, Int.reduceNeg, Int.reduceAdd, Int.reduceSub, Int.reducePow, Int.reduceEq, Int.reduceNe, Int.toNat_zero, Int.toNat_one, Int.ofNat_eq_natCast, Nat.reducePow, Nat.le_refl, ge_iff_le, gt_iff_lt, List.mem_cons, List.not_mem_nil, or_false, false_or, or_true, true_or, Option.some.injEq, exists_eq_left', exists_eq_left, exists_eq', exists_eq, exists_and_left, exists_and_right, and_assoc, true_and, and_true, false_and, and_false, exists_false, exists_const, not_true_eq_false, not_false_eq_true, W.int.injEq, W.bl.injEq, W.str.injEq, W.ref.injEq, W.tup.injEq, List.cons.injEq, Bool.true_eq_false, Bool.false_eq_true, decide_eq_true_eq, decide_eq_false_iff_not, Bool.not_eq_true', Bool.not_eq_false', Bool.not_true, Bool.not_false, forall_const, true_implies, false_implies, implies_true, imp_self, decide_true, decide_false, Bool.and_true, Bool.true_and, Bool.and_false, Bool.false_and, Bool.or_false, Bool.or_true, Bool.false_or, Bool.true_or, beq_self_eq_true, pw_2_61, pw_10_18, pw_10_30, pw_10_29, pw_10_28, pw_10_40, pw_10_6, pw_10_9, lg_128, eq_self_iff_true, ne_eq, Int.not_lt, Int.not_le, Nat.not_lt, Nat.not_le, BEq.rfl]) | (refine ⟨_, (by first | exact lsAt_i | assumption), ?_⟩) | (refine ⟨mty_l, ?_⟩) | (refine ⟨mty_s, ?_⟩) | (refine ⟨_, ty_l (by first | exact lsAt_i | assumption), ?_⟩)))
      refine join_i lsAt_i (by rw [List.length_map]; show _ + _ * 0 ≤ _; omega) ?_
      (repeat (first | (simp only [hy, Int.zero_add, qIsN_n, qNotN_n, uIsi_r, nm_home, nm_fin, home_nm, fin_nm, sne_down_up, sne_down_right, sne_down_left, sne_down_home, sne_down_end, sne_up_down, sne_up_right, sne_up_left, sne_up_home, sne_up_end, sne_right_down, sne_right_up, sne_right_left, sne_right_home, sne_right_end, sne_left_down, sne_left_up, sne_left_right, sne_left_home, sne_left_end, sne_home_down, sne_home_up, sne_home_right, sne_home_left, sne_home_end, sne_end_down, sne_end_up, sne_end_right, sne_end_left, sne_end_home, sFor_eq, mLc_eq, uAdd_i, uAdd_s, uAdd_l, uMul_i, uMul_l, uEq_ii, uEq_ss, uEq_bb, uEq_nn, uEq_ni, uEq_in, uEq_ns, uEq_sn, uEq_is, uEq_si, uEq_rr, uEq_tt, uEq_rt, uEq_tr, uEq_tn, uEq_nt, uNe_ii, uNe_ss, uNe_bb, uNe_nn, uNe_ni, uNe_in, uNe_ns, uNe_sn, uNe_is, uNe_si, uNe_rr, uNe_tt, uNe_rt, uNe_tr, uNe_tn, uNe_nt, uIn_t, uIn_r, uIx_t, uIx_r, uIx_c, uIx_s, uLen_c, uLen_r, uLen_t, uLen_s, uMin_i, uMin_r, uMax_i, uMax_r, uInt_b, uInt_i, uInt_s, uList_r, uList_t, uIsi_n, uIsi_b, uIsi_i, uIsi_s, uIsi_t, uIsi_c, uSl_c, uSl_r, uSl_s, iOf_r, iOf_c, isNon_n, isNon_i, isNon_s, isNon_b, isNon_t, isNon_r, flat_s, flat_i, flat_b, flat_n, weq_ss, weq_ii, weq_ni, weq_in, weq_nn, kb_bb, kb_bi, kb_bs, kb_bl, kb_bt, kb_ib, kb_ii, kb_is, kb_il, kb_it, kb_sb, kb_si, kb_ss, kb_sl, kb_st, kb_lb, kb_li, kb_ls, kb_ll, kb_lt, kb_tb, kb_ti, kb_ts, kb_tl, kb_tt, kb_nb, kb_ni, kb_ns, kb_nl, kb_nt, nth0, nth1, nth2, nth3, mVar, mC, mBin, mUn, mNil, mCons, mCB, mTest, mAnd, mOr, mNot, mIf, mAndV, mOrV, mNotV, mTup, mLst, mChain, mCall, mCallK, reord, mYes, sNext, sSeq, sDrop, sRet, sRetN, sIf, sNever, sBreak, sCont, sAsg, sPar, sAug, sStore, gSet, gsNil, gsCons, gTupW, gStarW, qI2, qI, qNeg, qAbs, qStrI, iLst, iRgn, iRg2, iEnu, iTpl, mDT, mBM, mBM0, mSl, oNone, oSome, sMatch, mGo, mDNew, mDisp_eq, mPairs, EndsD, EndsW.turn, Rho.put, Rho.wipe, Rho.del, rho0, sp1_iff, sp2_iff, sp3_iff, sp4_iff, win, List.filterMap_cons, List.filterMap_nil, List.cons_append, List.nil_append, List.length_cons, List.length_nil, List.all_cons, List.all_nil, List.any_cons, List.any_nil, List.getElem?_cons_zero, List.getElem?_cons_succ, List.getElem?_nil, List.set_cons_zero, List.set_cons_succ, reduceIte, reduceCtorEq, Nat.reduceEqDiff, Nat.reduceAdd, Nat.reduceSub, Nat.reduceMul, Nat.reduceLeDiff, Int.reduceToNat, Int.cast_ofNat_Int, Int.natCast_zero, Int.natCast_one, Int.reduceLE, Int.reduceLT, Int.reduceNeg, Int.reduceAdd, Int.reduceSub, Int.reducePow, Int.reduceEq, Int.reduceNe, Int.toNat_zero, Int.toNat_one, Int.ofNat_eq_natCast, Nat.reducePow, Nat.le_refl, ge_iff_le, gt_iff_lt, List.mem_cons, List.not_mem_nil, or_false, false_or, or_true, true_or, Option.some.injEq, exists_eq_left', exists_eq_left, exists_eq', exists_eq, exists_and_left, exists_and_right, and_assoc, true_and, and_true, false_and, and_false, exists_false, exists_const, not_true_eq_false, not_false_eq_true, W.int.injEq, W.bl.injEq, W.str.injEq, W.ref.injEq, W.tup.injEq, List.cons.injEq, Bool.true_eq_false, Bool.false_eq_true, decide_eq_true_eq, decide_eq_false_iff_not, Bool.not_eq_true', Bool.not_eq_false', Bool.not_true, Bool.not_false, forall_const, true_implies, false_implies, implies_true, imp_self, decide_true, decide_false, Bool.and_true, Bool.true_and, Bool.and_false, Bool.false_and, Bool.or_false, Bool.or_true, Bool.false_or, Bool.true_or, beq_self_eq_true, pw_2_61, pw_10_18, pw_10_30, pw_10_29, pw_10_28, pw_10_40, pw_10_6, pw_10_9, lg_128, eq_self_iff_true, ne_eq, Int.not_lt, Int.not_le, Nat.not_lt, Nat.not_le, BEq.rfl]) | (refine ⟨_, (by first | exact lsAt_i | assumption), ?_⟩) | (refine ⟨mty_l, ?_⟩) | (refine ⟨mty_s, ?_⟩) | (refine ⟨_, ty_l (by first | exact lsAt_i | assumption), ?_⟩)))
      refine ⟨?_, Cs, inferInstance, ?_⟩
      · rw [← Str.length_append, hx, ← cd_len, cd_txt]
        exact Nat.le_trans (tx_big hc) (by decide)
      · rw [hx]
        exact k
  unfold b_show_command
  cases c with
  | go d n =>
    refine seq_i (starset_i (r := [.int n]) rfl (by simp) fun D => num D d.nm [n] _ (fun m hm => ?_) (by simp) (letter_at d) (by simp [txt, Str.length]) ?_)
    · obtain rfl := List.mem_singleton.mp hm
      exact ⟨by have := hc.1; omega, hc.2⟩
    · refine cd_inj ?_
      rw [cd_app, cd_join, cd_txt]
      show cd (Str.ofString (toString n)) ++ [d.lt] = dg n.toNat ++ [d.lt]
      rw [cd_num (by have := hc.1; omega)]
  | home =>
    exact seq_i (starset_i (r := []) rfl (by simp) fun D => num D "home" [] "H" (fun m hm => nomatch hm) (by simp) rfl (by decide) (by decide))
  | fin =>
    exact seq_i (starset_i (r := []) rfl (by simp) fun D => num D "end" [] "E" (fun m hm => nomatch hm) (by simp) rfl (by decide) (by decide))
/-! ### show_commands -/
def sp_show_commands : SpW := sp1 fun x Cs Q _ => ∃ (a : Addr) (cs : List Cmd), x = .ref a ∧ LsAt a (cs.map Cmd.w) Cs ∧ cs.length ≤ 5000 ∧ (∀ c, c ∈ cs → c.ok BIG) ∧ Q (.str (txt (cmdsTx cs))) Cs
theorem len_show_commands : ∀ ws Cs Q E, sp_show_commands ws Cs Q E → ws.length = 1 := len1
theorem txs_len {cs : List Cmd} (hn : cs.length ≤ 5000) (hc : ∀ c, c ∈ cs → c.ok BIG) : (cmdsTx cs).length ≤ 300000 := by
  unfold cmdsTx
  split
  · simp
  · have := jn_len [32] 47 (cs.map Cmd.tx) fun w hw => by
      obtain ⟨c, hc', rfl⟩ := List.mem_map.mp hw
      exact tx_big (hc c hc')
    rw [List.length_map] at this
    simp at this
    omega
def b_show_commands : MS := sRet (mIf (mTest (mBin uNe (mVar 0) (mLst (mNil)))) (mBM "str" qJoin (mC (.str " ")) (mCons (mLc (iLst (mVar 0)) (gSet 1) (mYes) (mCall (cl sp_show_command) (mCons (mVar 1) (mNil))) [1]) (mNil))) (mC (.str "none")))
def kb_show_commands : List KSig := [(["commands"], 0, 1, [0])]
theorem pure_show_commands : ∀ ws Cs Q E, sp_show_commands ws Cs Q E → b_show_commands (EndsD Q E) (rho0 ws) Cs := by
  rintro ws Cs Q E ⟨x, rfl, a, cs, rfl, hl, hn, hc, k⟩
  (repeat (first | (simp only [b_show_commands, Int.zero_add, qIsN_n, qNotN_n, uIsi_r, nm_home, nm_fin, home_nm, fin_nm, sne_down_up, sne_down_right, sne_down_left, sne_down_home, sne_down_end, sne_up_down, sne_up_right, sne_up_left, sne_up_home, sne_up_end, sne_right_down, sne_right_up, sne_right_left, sne_right_home, sne_right_end, sne_left_down, sne_left_up, sne_left_right, sne_left_home, sne_left_end, sne_home_down, sne_home_up, sne_home_right, sne_home_left, sne_home_end, sne_end_down, sne_end_up, sne_end_right, sne_end_left, sne_end_home, sFor_eq, mLc_eq, uAdd_i, uAdd_s, uAdd_l, uMul_i, uMul_l, uEq_ii, uEq_ss, uEq_bb, uEq_nn, uEq_ni, uEq_in, uEq_ns, uEq_sn, uEq_is, uEq_si, uEq_rr, uEq_tt, uEq_rt, uEq_tr, uEq_tn, uEq_nt, uNe_ii, uNe_ss, uNe_bb, uNe_nn, uNe_ni, uNe_in, uNe_ns, uNe_sn, uNe_is, uNe_si, uNe_rr, uNe_tt, uNe_rt, uNe_tr, uNe_tn, uNe_nt, uIn_t, uIn_r, uIx_t, uIx_r, uIx_c, uIx_s, uLen_c, uLen_r, uLen_t, uLen_s, uMin_i, uMin_r, uMax_i, uMax_r, uInt_b, uInt_i, uInt_s, uList_r, uList_t, uIsi_n, uIsi_b, uIsi_i, uIsi_s, uIsi_t, uIsi_c, uSl_c, uSl_r, uSl_s, iOf_r, iOf_c, isNon_n, isNon_i, isNon_s, isNon_b, isNon_t, isNon_r, flat_s, flat_i, flat_b, flat_n, weq_ss, weq_ii, weq_ni, weq_in, weq_nn, kb_bb, kb_bi, kb_bs, kb_bl, kb_bt, kb_ib, kb_ii, kb_is, kb_il, kb_it, kb_sb, kb_si, kb_ss, kb_sl, kb_st, kb_lb, kb_li, kb_ls, kb_ll, kb_lt, kb_tb, kb_ti, kb_ts, kb_tl, kb_tt, kb_nb, kb_ni, kb_ns, kb_nl, kb_nt, nth0, nth1, nth2, nth3, mVar, mC, mBin, mUn, mNil, mCons, mCB, mTest, mAnd, mOr, mNot, mIf, mAndV, mOrV, mNotV, mTup, mLst, mChain, mCall, mCallK, reord, mYes, sNext, sSeq, sDrop, sRet, sRetN, sIf, sNever, sBreak, sCont, sAsg, sPar, sAug, sStore, gSet, gsNil, gsCons, gTupW, gStarW, qI2, qI, qNeg, qAbs, qStrI, iLst, iRgn, iRg2, iEnu, iTpl, mDT, mBM, mBM0, mSl, oNone, oSome, sMatch, mGo, mDNew, mDisp_eq, mPairs, EndsD, EndsW.turn, Rho.put, Rho.wipe, Rho.del, rho0, sp1_iff, sp2_iff, sp3_iff, sp4_iff, win, List.filterMap_cons, List.filterMap_nil, List.cons_append, List.nil_append, List.length_cons, List.length_nil, List.all_cons, List.all_nil, List.any_cons, List.any_nil, List.getElem?_cons_zero, List.getElem?_cons_succ, List.getElem?_nil, List.set_cons_zero, List.set_cons_succ, reduceIte, reduceCtorEq, Nat.reduceEqDiff, Nat.reduceAdd, Nat.reduceSub, Nat.reduceMul, Nat.reduceLeDiff, Int.reduceToNat, Int.cast_ofNat_Int, Int.natCast_zero, Int.natCast_one, Int.reduceLE, Int.reduceLT, Int.reduceNeg, Int.reduceAdd, Int.reduceSub, Int.reducePow, Int.reduceEq, Int.reduceNe, Int.toNat_zero, Int.toNat_one, Int.ofNat_eq_natCast, Nat.reducePow, Nat.le_refl, ge_iff_le, gt_iff_lt, List.mem_cons, List.not_mem_nil, or_false, false_or, or_true, true_or, Option.some.injEq, exists_eq_left', exists_eq_left, exists_eq', exists_eq, exists_and_left, exists_and_right, and_assoc, true_and, and_true, false_and, and_false, exists_false, exists_const, not_true_eq_false, not_false_eq_true, W.int.injEq, W.bl.injEq, W.str.injEq, W.ref.injEq, W.tup.injEq, List.cons.injEq, Bool.true_eq_false, Bool.false_eq_true, decide_eq_true_eq, decide_eq_false_iff_not, Bool.not_eq_true', Bool.not_eq_false', Bool.not_true, Bool.not_false, forall_const, true_implies, false_implies, implies_true, imp_self, decide_true, decide_false, Bool.and_true, Bool.true_and, Bool.and_false, Bool.false_and, Bool.or_false, Bool.or_true, Bool.false_or, Bool.true_or, beq_self_eq_true, pw_2_61, pw_10_18, pw_10_30, pw_10_29, pw_10_28, pw_10_40, pw_10_6, pw_10_9, lg_128, eq_self_iff_true, ne_eq, Int.not_lt, Int.not_le, Nat.not_lt, Nat.not_le, BEq.rfl]) | (refine ⟨_, (by first | exact lsAt_i | assumption), ?_⟩) | (refine ⟨mty_l, ?_⟩) | (refine ⟨mty_s, ?_⟩) | (refine ⟨_, ty_l (by first | exact lsAt_i | assumption), ?_⟩)))
  intro p
  refine neL_i (n := 1) (by decide) (List.mem_cons_of_mem _ hl) lsAt_i dok_cmds (fun w hw => (nomatch hw)) fun b hb => ?_
  (repeat (first | (simp only [Int.zero_add, qIsN_n, qNotN_n, uIsi_r, nm_home, nm_fin, home_nm, fin_nm, sne_down_up, sne_down_right, sne_down_left, sne_down_home, sne_down_end, sne_up_down, sne_up_right, sne_up_left, sne_up_home, sne_up_end, sne_right_down, sne_right_up, sne_right_left, sne_right_home, sne_right_end, sne_left_down, sne_left_up, sne_left_right, sne_left_home, sne_left_end, sne_home_down, sne_home_up, sne_home_right, sne_home_left, sne_home_end, sne_end_down, sne_end_up, sne_end_right, sne_end_left, sne_end_home, sFor_eq, mLc_eq, uAdd_i, uAdd_s, uAdd_l, uMul_i, uMul_l, uEq_ii, uEq_ss, uEq_bb, uEq_nn, uEq_ni, uEq_in, uEq_ns, uEq_sn, uEq_is, uEq_si, uEq_rr, uEq_tt, uEq_rt, uEq_tr, uEq_tn, uEq_nt, uNe_ii, uNe_ss, uNe_bb, uNe_nn, uNe_ni, uNe_in, uNe_ns, uNe_sn, uNe_is, uNe_si, uNe_rr, uNe_tt, uNe_rt, uNe_tr, uNe_tn, uNe_nt, uIn_t, uIn_r, uIx_t, uIx_r, uIx_c, uIx_s, uLen_c, uLen_r, uLen_t, uLen_s, uMin_i, uMin_r, uMax_i, uMax_r, uInt_b, uInt_i, uInt_s, uList_r, uList_t, uIsi_n, uIsi_b, uIsi_i, uIsi_s, uIsi_t, uIsi_c, uSl_c, uSl_r, uSl_s, iOf_r, iOf_c, isNon_n, isNon_i, isNon_s, isNon_b, isNon_t, isNon_r, flat_s, flat_i, flat_b, flat_n, weq_ss, weq_ii, weq_ni, weq_in, weq_nn, kb_bb, kb_bi, kb_bs, kb_bl, kb_bt, kb_ib, kb_ii, kb_is, kb_il, kb_it, kb_sb, kb_si, kb_ss, kb_sl, kb_st, kb_lb, kb_li, kb_ls, kb_ll, kb_lt, kb_tb, kb_ti, kb_ts, kb_tl, kb_tt, kb_nb, kb_ni, kb_ns, kb_nl, kb_nt, nth0, nth1, nth2, nth3, mVar, mC, mBin, mUn, mNil, mCons, mCB, mTest, mAnd, mOr, mNot, mIf, mAndV, mOrV, mNotV, mTup, mLst, mChain, mCall, mCallK, reord, mYes, sNext, sSeq, sDrop, sRet, sRetN, sIf, sNever, sBreak, sCont, sAsg, sPar, sAug, sStore, gSet, gsNil, gsCons, gTupW, gStarW, qI2, qI, qNeg, qAbs, qStrI, iLst, iRgn, iRg2, iEnu, iTpl, mDT, mBM, mBM0, mSl, oNone, oSome, sMatch, mGo, mDNew, mDisp_eq, mPairs, EndsD, EndsW.turn, Rho.put, Rho.wipe, Rho.del, rho0, sp1_iff, sp2_iff, sp3_iff, sp4_iff, win, List.filterMap_cons, List.filterMap_nil, List.cons_append, List.nil_append, List.length_cons, List.length_nil, List.all_cons, List.all_nil, List.any_cons, List.any_nil, List.getElem?_cons_zero, List.getElem?_cons_succ, List.getElem?_nil, List.set_cons_zero, List.set_cons_succ, reduceIte, reduceCtorEq, Nat.reduceEqDiff, Nat.reduceAdd, Nat.reduceSub, Nat.reduceMul, Nat.reduceLeDiff, Int.reduceToNat, Int.cast_ofNat_Int, Int.natCast_zero, Int.natCast_one, Int.reduceLE, Int.reduceLT, Int.reduceNeg, Int.reduceAdd, Int.reduceSub, Int.reducePow, Int.reduceEq, Int.reduceNe, Int.toNat_zero, Int.toNat_one, Int.ofNat_eq_natCast, Nat.reducePow, Nat.le_refl, ge_iff_le, gt_iff_lt, List.mem_cons, List.not_mem_nil, or_false, false_or, or_true, true_or, Option.some.injEq, exists_eq_left', exists_eq_left, exists_eq', exists_eq, exists_and_left, exists_and_right, and_assoc, true_and, and_true, false_and, and_false, exists_false, exists_const, not_true_eq_false, not_false_eq_true, W.int.injEq, W.bl.injEq, W.str.injEq, W.ref.injEq, W.tup.injEq, List.cons.injEq, Bool.true_eq_false, Bool.false_eq_true, decide_eq_true_eq, decide_eq_false_iff_not, Bool.not_eq_true', Bool.not_eq_false', Bool.not_true, Bool.not_false, forall_const, true_implies, false_implies, implies_true, imp_self, decide_true, decide_false, Bool.and_true, Bool.true_and, Bool.and_false, Bool.false_and, Bool.or_false, Bool.or_true, Bool.false_or, Bool.true_or, beq_self_eq_true, pw_2_61, pw_10_18, pw_10_30, pw_10_29, pw_10_28, pw_10_40, pw_10_6, pw_10_9, lg_128, eq_self_iff_true, ne_eq, Int.not_lt, Int.not_le, Nat.not_lt, Nat.not_le, BEq.rfl]) | (refine ⟨_, (by first | exact lsAt_i | assumption), ?_⟩) | (refine ⟨mty_l, ?_⟩) | (refine ⟨mty_s, ?_⟩) | (refine ⟨_, ty_l (by first | exact lsAt_i | assumption), ?_⟩)))
  refine ⟨fun e => ?_, fun e => ?_⟩
  · have ne : cs ≠ [] := fun z => hb.mp e (by rw [z]; rfl)
    (repeat (first | (simp only [Int.zero_add, qIsN_n, qNotN_n, uIsi_r, nm_home, nm_fin, home_nm, fin_nm, sne_down_up, sne_down_right, sne_down_left, sne_down_home, sne_down_end, sne_up_down, sne_up_right, sne_up_left, sne_up_home, sne_up_end, sne_right_down, sne_right_up, sne_right_left, sne_right_home, sne_right_end, sne_left_down, sne_left_up, sne_left_right, sne_left_home, sne_left_end, sne_home_down, sne_home_up, sne_home_right, sne_home_left, sne_home_end, sne_end_down, sne_end_up, sne_end_right, sne_end_left, sne_end_home, sFor_eq, mLc_eq, uAdd_i, uAdd_s, uAdd_l, uMul_i, uMul_l, uEq_ii, uEq_ss, uEq_bb, uEq_nn, uEq_ni, uEq_in, uEq_ns, uEq_sn, uEq_is, uEq_si, uEq_rr, uEq_tt, uEq_rt, uEq_tr, uEq_tn, uEq_nt, uNe_ii, uNe_ss, uNe_bb, uNe_nn, uNe_ni, uNe_in, uNe_ns, uNe_sn, uNe_is, uNe_si, uNe_rr, uNe_tt, uNe_rt, uNe_tr, uNe_tn, uNe_nt, uIn_t, uIn_r, uIx_t, uIx_r, uIx_c, uIx_s, uLen_c, uLen_r, uLen_t, uLen_s, uMin_i, uMin_r, uMax_i, uMax_r, uInt_b, uInt_i, uInt_s, uList_r, uList_t, uIsi_n, uIsi_b, uIsi_i, uIsi_s, uIsi_t, uIsi_c, uSl_c, uSl_r, uSl_s, iOf_r, iOf_c, isNon_n, isNon_i, isNon_s, isNon_b, isNon_t, isNon_r, flat_s, flat_i, flat_b, flat_n, weq_ss, weq_ii, weq_ni, weq_in, weq_nn, kb_bb, kb_bi, kb_bs, kb_bl, kb_bt, kb_ib, kb_ii, kb_is, kb_il, kb_it, kb_sb, kb_si, kb_ss, kb_sl, kb_st, kb_lb, kb_li, kb_ls, kb_ll, kb_lt, kb_tb, kb_ti, kb_ts, kb_tl, kb_tt, kb_nb, kb_ni, kb_ns, kb_nl, kb_nt, nth0, nth1, nth2, nth3, mVar, mC, mBin, mUn, mNil, mCons, mCB, mTest, mAnd, mOr, mNot, mIf, mAndV, mOrV, mNotV, mTup, mLst, mChain, mCall, mCallK, reord, mYes, sNext, sSeq, sDrop, sRet, sRetN, sIf, sNever, sBreak, sCont, sAsg, sPar, sAug, sStore, gSet, gsNil, gsCons, gTupW, gStarW, qI2, qI, qNeg, qAbs, qStrI, iLst, iRgn, iRg2, iEnu, iTpl, mDT, mBM, mBM0, mSl, oNone, oSome, sMatch, mGo, mDNew, mDisp_eq, mPairs, EndsD, EndsW.turn, Rho.put, Rho.wipe, Rho.del, rho0, sp1_iff, sp2_iff, sp3_iff, sp4_iff, win, List.filterMap_cons, List.filterMap_nil, List.cons_append, List.nil_append, List.length_cons, List.length_nil, List.all_cons, List.all_nil, List.any_cons, List.any_nil, List.getElem?_cons_zero, List.getElem?_cons_succ, List.getElem?_nil, List.set_cons_zero, List.set_cons_succ, reduceIte, reduceCtorEq, Nat.reduceEqDiff, Nat.reduceAdd, Nat.reduceSub, Nat.reduceMul, Nat.reduceLeDiff, Int.reduceToNat, Int.cast_ofNat_Int, Int.natCast_zero, Int.natCast_one, Int.reduceLE, Int.reduceLT, Int.reduceNeg, Int.reduceAdd, Int.reduceSub, Int.reducePow, Int.reduceEq, Int.reduceNe, Int.toNat_zero, Int.toNat_one, Int.ofNat_eq_natCast, Nat.reducePow, Nat.le_refl, ge_iff_le, gt_iff_lt, List.mem_cons, List.not_mem_nil, or_false, false_or, or_true, true_or, Option.some.injEq, exists_eq_left', exists_eq_left, exists_eq', exists_eq, exists_and_left, exists_and_right, and_assoc, true_and, and_true, false_and, and_false, exists_false, exists_const, not_true_eq_false, not_false_eq_true, W.int.injEq, W.bl.injEq, W.str.injEq, W.ref.injEq, W.tup.injEq, List.cons.injEq, Bool.true_eq_false, Bool.false_eq_true, decide_eq_true_eq, decide_eq_false_iff_not, Bool.not_eq_true', Bool.not_eq_false', Bool.not_true, Bool.not_false, forall_const, true_implies, false_implies, implies_true, imp_self, decide_true, decide_false, Bool.and_true, Bool.true_and, Bool.and_false, Bool.false_and, Bool.or_false, Bool.or_true, Bool.false_or, Bool.true_or, beq_self_eq_true, pw_2_61, pw_10_18, pw_10_30, pw_10_29, pw_10_28, pw_10_40, pw_10_6, pw_10_9, lg_128, eq_self_iff_true, ne_eq, Int.not_lt, Int.not_le, Nat.not_lt, Nat.not_le, BEq.rfl]) | (refine ⟨_, (by first | exact lsAt_i | assumption), ?_⟩) | (refine ⟨mty_l, ?_⟩) | (refine ⟨mty_s, ?_⟩) | (refine ⟨_, ty_l (by first | exact lsAt_i | assumption), ?_⟩)))
    refine ⟨_, List.mem_cons_of_mem _ hl, ?_⟩
    refine lcB_i (fun i acc C => acc = ((cs.take i).map fun c => txt c.tx).map W.str ∧ C = (p, .lst []) :: Cs) ⟨rfl, rfl⟩ (fun i acc C hi h => by rw [h.2]; exact List.mem_cons_of_mem _ hl) ?_ ?_
    · rintro D i w acc C hi hw ⟨rfl, rfl⟩
      dsimp only at hi hw
      rw [List.length_map] at hi
      rw [List.getElem?_map, List.getElem?_eq_getElem hi] at hw
      obtain rfl := Option.some.inj hw
      (repeat (first | (simp only [Int.zero_add, qIsN_n, qNotN_n, uIsi_r, nm_home, nm_fin, home_nm, fin_nm, sne_down_up, sne_down_right, sne_down_left, sne_down_home, sne_down_end, sne_up_down, sne_up_right, sne_up_left, sne_up_home, sne_up_end, sne_right_down, sne_right_up, sne_right_left, sne_right_home, sne_right_end, sne_left_down, sne_left_up, sne_left_right, sne_left_home, sne_left_end, sne_home_down, sne_home_up, sne_home_right, sne_home_left, sne_home_end, sne_end_down, sne_end_up, sne_end_right, sne_end_left, sne_end_home, sFor_eq, mLc_eq, uAdd_i, uAdd_s, uAdd_l, uMul_i, uMul_l, uEq_ii, uEq_ss, uEq_bb, uEq_nn, uEq_ni, uEq_in, uEq_ns, uEq_sn, uEq_is, uEq_si, uEq_rr, uEq_tt, uEq_rt, uEq_tr, uEq_tn, uEq_nt, uNe_ii, uNe_ss, uNe_bb, uNe_nn, uNe_ni, uNe_in, uNe_ns, uNe_sn, uNe_is, uNe_si, uNe_rr, uNe_tt, uNe_rt, uNe_tr, uNe_tn, uNe_nt, uIn_t, uIn_r, uIx_t, uIx_r, uIx_c, uIx_s, uLen_c, uLen_r, uLen_t, uLen_s, uMin_i, uMin_r, uMax_i, uMax_r, uInt_b, uInt_i, uInt_s, uList_r, uList_t, uIsi_n, uIsi_b, uIsi_i, uIsi_s, uIsi_t, uIsi_c, uSl_c, uSl_r, uSl_s, iOf_r, iOf_c, isNon_n, isNon_i, isNon_s, isNon_b, isNon_t, isNon_r, flat_s, flat_i, flat_b, flat_n, weq_ss, weq_ii, weq_ni, weq_in, weq_nn, kb_bb, kb_bi, kb_bs, kb_bl, kb_bt, kb_ib, kb_ii, kb_is, kb_il, kb_it, kb_sb, kb_si, kb_ss, kb_sl, kb_st, kb_lb, kb_li, kb_ls, kb_ll, kb_lt, kb_tb, kb_ti, kb_ts, kb_tl, kb_tt, kb_nb, kb_ni, kb_ns, kb_nl, kb_nt, nth0, nth1, nth2, nth3, mVar, mC, mBin, mUn, mNil, mCons, mCB, mTest, mAnd, mOr, mNot, mIf, mAndV, mOrV, mNotV, mTup, mLst, mChain, mCall, mCallK, reord, mYes, sNext, sSeq, sDrop, sRet, sRetN, sIf, sNever, sBreak, sCont, sAsg, sPar, sAug, sStore, gSet, gsNil, gsCons, gTupW, gStarW, qI2, qI, qNeg, qAbs, qStrI, iLst, iRgn, iRg2, iEnu, iTpl, mDT, mBM, mBM0, mSl, oNone, oSome, sMatch, mGo, mDNew, mDisp_eq, mPairs, EndsD, EndsW.turn, Rho.put, Rho.wipe, Rho.del, rho0, sp1_iff, sp2_iff, sp3_iff, sp4_iff, win, List.filterMap_cons, List.filterMap_nil, List.cons_append, List.nil_append, List.length_cons, List.length_nil, List.all_cons, List.all_nil, List.any_cons, List.any_nil, List.getElem?_cons_zero, List.getElem?_cons_succ, List.getElem?_nil, List.set_cons_zero, List.set_cons_succ, reduceIte, reduceCtorEq, Nat.reduceEqDiff, Nat.reduceAdd, Nat.reduceSub, Nat.reduceMul, Nat.reduceLeDiff, Int.reduceToNat, Int.cast_ofNat_Int, Int.natCast_zero, Int.natCast_one, Int.reduceLE, Int.reduceLT, Int.reduceNeg, Int.reduceAdd, Int.reduceSub, Int.reducePow, Int.reduceEq, Int.reduceNe, Int.toNat_zero, Int.toNat_one, Int.ofNat_eq_natCast, Nat.reducePow, Nat.le_refl, ge_iff_le, gt_iff_lt, List.mem_cons, List.not_mem_nil, or_false, false_or, or_true, true_or, Option.some.injEq, exists_eq_left', exists_eq_left, exists_eq', exists_eq, exists_and_left, exists_and_right, and_assoc, true_and, and_true, false_and, and_false, exists_false, exists_const, not_true_eq_false, not_false_eq_true, W.int.injEq, W.bl.injEq, W.str.injEq, W.ref.injEq, W.tup.injEq, List.cons.injEq, Bool.true_eq_false, Bool.false_eq_true, decide_eq_true_eq, decide_eq_false_iff_not, Bool.not_eq_true', Bool.not_eq_false', Bool.not_true, Bool.not_false, forall_const, true_implies, false_implies, implies_true, imp_self, decide_true, decide_false, Bool.and_true, Bool.true_and, Bool.and_false, Bool.false_and, Bool.or_false, Bool.or_true, Bool.false_or, Bool.true_or, beq_self_eq_true, pw_2_61, pw_10_18, pw_10_30, pw_10_29, pw_10_28, pw_10_40, pw_10_6, pw_10_9, lg_128, eq_self_iff_true, ne_eq, Int.not_lt, Int.not_le, Nat.not_lt, Nat.not_le, BEq.rfl]) | (refine ⟨_, (by first | exact lsAt_i | assumption), ?_⟩) | (refine ⟨mty_l, ?_⟩) | (refine ⟨mty_s, ?_⟩) | (refine ⟨_, ty_l (by first | exact lsAt_i | assumption), ?_⟩)))
      refine cl_h ⟨_, rfl, _, rfl, hc _ (List.getElem_mem hi), ?_⟩
      refine ⟨?_, _, .here, ?_, rfl⟩
      · rw [List.length_map, List.length_map, List.length_take]
        omega
      · rw [List.take_succ_eq_append_getElem hi, List.map_append, List.map_append]
        rfl
    · rintro D acc C ⟨rfl, rfl⟩
      rw [List.length_map, List.take_length]
      have hs : ((cs.map fun c => txt c.tx).map (·.length)).sum ≤ cs.length * 47 := Nat.le_trans (sum_le (b := 47) fun y hy => by
        obtain ⟨c, hc', rfl⟩ := List.mem_map.mp hy
        rw [← cd_len, cd_txt]
        exact tx_big (hc c hc')) (by rw [List.length_map]; exact Nat.le_refl _)
      (repeat (first | (simp only [Int.zero_add, qIsN_n, qNotN_n, uIsi_r, nm_home, nm_fin, home_nm, fin_nm, sne_down_up, sne_down_right, sne_down_left, sne_down_home, sne_down_end, sne_up_down, sne_up_right, sne_up_left, sne_up_home, sne_up_end, sne_right_down, sne_right_up, sne_right_left, sne_right_home, sne_right_end, sne_left_down, sne_left_up, sne_left_right, sne_left_home, sne_left_end, sne_home_down, sne_home_up, sne_home_right, sne_home_left, sne_home_end, sne_end_down, sne_end_up, sne_end_right, sne_end_left, sne_end_home, sFor_eq, mLc_eq, uAdd_i, uAdd_s, uAdd_l, uMul_i, uMul_l, uEq_ii, uEq_ss, uEq_bb, uEq_nn, uEq_ni, uEq_in, uEq_ns, uEq_sn, uEq_is, uEq_si, uEq_rr, uEq_tt, uEq_rt, uEq_tr, uEq_tn, uEq_nt, uNe_ii, uNe_ss, uNe_bb, uNe_nn, uNe_ni, uNe_in, uNe_ns, uNe_sn, uNe_is, uNe_si, uNe_rr, uNe_tt, uNe_rt, uNe_tr, uNe_tn, uNe_nt, uIn_t, uIn_r, uIx_t, uIx_r, uIx_c, uIx_s, uLen_c, uLen_r, uLen_t, uLen_s, uMin_i, uMin_r, uMax_i, uMax_r, uInt_b, uInt_i, uInt_s, uList_r, uList_t, uIsi_n, uIsi_b, uIsi_i, uIsi_s, uIsi_t, uIsi_c, uSl_c, uSl_r, uSl_s, iOf_r, iOf_c, isNon_n, isNon_i, isNon_s, isNon_b, isNon_t, isNon_r, flat_s, flat_i, flat_b, flat_n, weq_ss, weq_ii, weq_ni, weq_in, weq_nn, kb_bb, kb_bi, kb_bs, kb_bl, kb_bt, kb_ib, kb_ii, kb_is, kb_il, kb_it, kb_sb, kb_si, kb_ss, kb_sl, kb_st, kb_lb, kb_li, kb_ls, kb_ll, kb_lt, kb_tb, kb_ti, kb_ts, kb_tl, kb_tt, kb_nb, kb_ni, kb_ns, kb_nl, kb_nt, nth0, nth1, nth2, nth3, mVar, mC, mBin, mUn, mNil, mCons, mCB, mTest, mAnd, mOr, mNot, mIf, mAndV, mOrV, mNotV, mTup, mLst, mChain, mCall, mCallK, reord, mYes, sNext, sSeq, sDrop, sRet, sRetN, sIf, sNever, sBreak, sCont, sAsg, sPar, sAug, sStore, gSet, gsNil, gsCons, gTupW, gStarW, qI2, qI, qNeg, qAbs, qStrI, iLst, iRgn, iRg2, iEnu, iTpl, mDT, mBM, mBM0, mSl, oNone, oSome, sMatch, mGo, mDNew, mDisp_eq, mPairs, EndsD, EndsW.turn, Rho.put, Rho.wipe, Rho.del, rho0, sp1_iff, sp2_iff, sp3_iff, sp4_iff, win, List.filterMap_cons, List.filterMap_nil, List.cons_append, List.nil_append, List.length_cons, List.length_nil, List.all_cons, List.all_nil, List.any_cons, List.any_nil, List.getElem?_cons_zero, List.getElem?_cons_succ, List.getElem?_nil, List.set_cons_zero, List.set_cons_succ, reduceIte, reduceCtorEq, Nat.reduceEqDiff, Nat.reduceAdd, Nat.reduceSub, Nat.reduceMul, Nat.reduceLeDiff, Int.reduceToNat, Int.cast_ofNat_Int, Int.natCast_zero, Int.natCast_one, Int.reduceLE, Int.reduceLT, Int.reduceNeg, Int.reduceAdd, Int.reduceSub, Int.reducePow, Int.reduceEq, Int.reduceNe, Int.toNat_zero, Int.toNat_one, Int.ofNat_eq_natCast, Nat.reducePow, Nat.le_refl, ge_iff_le, gt_iff_lt, List.mem_cons, List.not_mem_nil, or_false, false_or, or_true, true_or, Option.some.injEq, exists_eq_left', exists_eq_left, exists_eq', exists_eq, exists_and_left, exists_and_right, and_assoc, true_and, and_true, false_and, and_false, exists_false, exists_const, not_true_eq_false, not_false_eq_true, W.int.injEq, W.bl.injEq, W.str.injEq, W.ref.injEq, W.tup.injEq, List.cons.injEq, Bool.true_eq_false, Bool.false_eq_true, decide_eq_true_eq, decide_eq_false_iff_not, Bool.not_eq_true', Bool.not_eq_false', Bool.not_true, Bool.not_false, forall_const, true_implies, false_implies, implies_true, imp_self, decide_true, decide_false, Bool.and_true, Bool.true_and, Bool.and_false, Bool.false_and, Bool.or_false, Bool.or_true, Bool.false_or, Bool.true_or, beq_self_eq_true, pw_2_61, pw_10_18, pw_10_30, pw_10_29, pw_10_28, pw_10_40, pw_10_6, pw_10_9, lg_128, eq_self_iff_true, ne_eq, Int.not_lt, Int.not_le, Nat.not_lt, Nat.not_le, BEq.rfl]) | (refine ⟨_, (by first | exact lsAt_i | assumption), ?_⟩) | (refine ⟨mty_l, ?_⟩) | (refine ⟨mty_s, ?_⟩) | (refine ⟨_, ty_l (by first | exact lsAt_i | assumption), ?_⟩)))
      refine join_i lsAt_i (by rw [List.length_map]; show _ + _ * 1 ≤ _; omega) ?_
      have e : Txt.join " " (cs.map fun c => txt c.tx) = txt (cmdsTx cs) := cd_inj (by
        rw [cd_join, cd_txt, List.map_map]
        unfold cmdsTx
        rw [if_neg ne]
        rfl)
      rw [e]
      exact ⟨Cs, inferInstance, k⟩
  · have z : cs = [] := by
      cases cs with
      | nil => rfl
      | cons c cs =>
        have := hb.mpr (by simp)
        rw [e] at this
        cases this
    subst z
    (repeat (first | (simp only [Int.zero_add, qIsN_n, qNotN_n, uIsi_r, nm_home, nm_fin, home_nm, fin_nm, sne_down_up, sne_down_right, sne_down_left, sne_down_home, sne_down_end, sne_up_down, sne_up_right, sne_up_left, sne_up_home, sne_up_end, sne_right_down, sne_right_up, sne_right_left, sne_right_home, sne_right_end, sne_left_down, sne_left_up, sne_left_right, sne_left_home, sne_left_end, sne_home_down, sne_home_up, sne_home_right, sne_home_left, sne_home_end, sne_end_down, sne_end_up, sne_end_right, sne_end_left, sne_end_home, sFor_eq, mLc_eq, uAdd_i, uAdd_s, uAdd_l, uMul_i, uMul_l, uEq_ii, uEq_ss, uEq_bb, uEq_nn, uEq_ni, uEq_in, uEq_ns, uEq_sn, uEq_is, uEq_si, uEq_rr, uEq_tt, uEq_rt, uEq_tr, uEq_tn, uEq_nt, uNe_ii, uNe_ss, uNe_bb, uNe_nn, uNe_ni, uNe_in, uNe_ns, uNe_sn, uNe_is, uNe_si, uNe_rr, uNe_tt, uNe_rt, uNe_tr, uNe_tn, uNe_nt, uIn_t, uIn_r, uIx_t, uIx_r, uIx_c, uIx_s, uLen_c, uLen_r, uLen_t, uLen_s, uMin_i, uMin_r, uMax_i, uMax_r, uInt_b, uInt_i, uInt_s, uList_r, uList_t, uIsi_n, uIsi_b, uIsi_i, uIsi_s, uIsi_t, uIsi_c, uSl_c, uSl_r, uSl_s, iOf_r, iOf_c, isNon_n, isNon_i, isNon_s, isNon_b, isNon_t, isNon_r, flat_s, flat_i, flat_b, flat_n, weq_ss, weq_ii, weq_ni, weq_in, weq_nn, kb_bb, kb_bi, kb_bs, kb_bl, kb_bt, kb_ib, kb_ii, kb_is, kb_il, kb_it, kb_sb, kb_si, kb_ss, kb_sl, kb_st, kb_lb, kb_li, kb_ls, kb_ll, kb_lt, kb_tb, kb_ti, kb_ts, kb_tl, kb_tt, kb_nb, kb_ni, kb_ns, kb_nl, kb_nt, nth0, nth1, nth2, nth3, mVar, mC, mBin, mUn, mNil, mCons, mCB, mTest, mAnd, mOr, mNot, mIf, mAndV, mOrV, mNotV, mTup, mLst, mChain, mCall, mCallK, reord, mYes, sNext, sSeq, sDrop, sRet, sRetN, sIf, sNever, sBreak, sCont, sAsg, sPar, sAug, sStore, gSet, gsNil, gsCons, gTupW, gStarW, qI2, qI, qNeg, qAbs, qStrI, iLst, iRgn, iRg2, iEnu, iTpl, mDT, mBM, mBM0, mSl, oNone, oSome, sMatch, mGo, mDNew, mDisp_eq, mPairs, EndsD, EndsW.turn, Rho.put, Rho.wipe, Rho.del, rho0, sp1_iff, sp2_iff, sp3_iff, sp4_iff, win, List.filterMap_cons, List.filterMap_nil, List.cons_append, List.nil_append, List.length_cons, List.length_nil, List.all_cons, List.all_nil, List.any_cons, List.any_nil, List.getElem?_cons_zero, List.getElem?_cons_succ, List.getElem?_nil, List.set_cons_zero, List.set_cons_succ, reduceIte, reduceCtorEq, Nat.reduceEqDiff, Nat.reduceAdd, Nat.reduceSub, Nat.reduceMul, Nat.reduceLeDiff, Int.reduceToNat, Int.cast_ofNat_Int, Int.natCast_zero, Int.natCast_one, Int.reduceLE, Int.reduceLT, Int.reduceNeg, Int.reduceAdd, Int.reduceSub, Int.reducePow, Int.reduceEq, Int.reduceNe, Int.toNat_zero, Int.toNat_one, Int.ofNat_eq_natCast, Nat.reducePow, Nat.le_refl, ge_iff_le, gt_iff_lt, List.mem_cons, List.not_mem_nil, or_false, false_or, or_true, true_or, Option.some.injEq, exists_eq_left', exists_eq_left, exists_eq', exists_eq, exists_and_left, exists_and_right, and_assoc, true_and, and_true, false_and, and_false, exists_false, exists_const, not_true_eq_false, not_false_eq_true, W.int.injEq, W.bl.injEq, W.str.injEq, W.ref.injEq, W.tup.injEq, List.cons.injEq, Bool.true_eq_false, Bool.false_eq_true, decide_eq_true_eq, decide_eq_false_iff_not, Bool.not_eq_true', Bool.not_eq_false', Bool.not_true, Bool.not_false, forall_const, true_implies, false_implies, implies_true, imp_self, decide_true, decide_false, Bool.and_true, Bool.true_and, Bool.and_false, Bool.false_and, Bool.or_false, Bool.or_true, Bool.false_or, Bool.true_or, beq_self_eq_true, pw_2_61, pw_10_18, pw_10_30, pw_10_29, pw_10_28, pw_10_40, pw_10_6, pw_10_9, lg_128, eq_self_iff_true, ne_eq, Int.not_lt, Int.not_le, Nat.not_lt, Nat.not_le, BEq.rfl]) | (refine ⟨_, (by first | exact lsAt_i | assumption), ?_⟩) | (refine ⟨mty_l, ?_⟩) | (refine ⟨mty_s, ?_⟩) | (refine ⟨_, ty_l (by first | exact lsAt_i | assumption), ?_⟩)))
    exact ⟨Cs, inferInstance, k⟩
/-! ### _law_source -/
def sp__law_source : SpW := sp1 fun x Cs Q _ => ∃ (a : Addr) (ns : List Int), x = .cst a (ns.map W.int) ∧ ns.length ≤ 63 ∧ ∀ (q : Addr) (S : SrcS), S.ok 0 → Q (.ref q) (S.at_ q ++ Cs)
theorem len__law_source : ∀ ws Cs Q E, sp__law_source ws Cs Q E → ws.length = 1 := len1
structure I__law_source (p : Addr) (Cs : Cells) (i : Nat) (ρ : Rho) (C : Cells) (mix : Int) (digs : List Int) : Prop where
  h1 : ρ 1 = some (.int mix)
  h2 : ρ 2 = some (.ref p)
  m0 : 0 ≤ mix
  m1 : mix < 2305843009213693951
  hd : digs.length ≤ i
  hc : C = (p, .lst (digs.map W.int)) :: Cs
def b__law_source : MS := sSeq (sAsg (mC (.int 271828182845904)) (gSet 1)) (sSeq (sAsg (mLst (mNil)) (gSet 2)) (sSeq (sFor (iLst (mVar 0)) (gSet 3) (sSeq (sAsg (mBin qMod (mBin uAdd (mBin uMul (mVar 1) (mC (.int 1000033))) (mVar 3)) (mBin qSub (mBin qPow (mC (.int 2)) (mC (.int 61))) (mC (.int 1)))) (gSet 1)) (sSeq (sAsg (mCB uMax (mCons (mVar 3) (mCons (mBin qSub (mC (.int 0)) (mVar 3)) (mNil)))) (gSet 4)) (sIf (mTest (mBin qGe (mVar 4) (mBin qPow (mC (.int 10)) (mC (.int 18))))) (sDrop (mBM "list" (qMutL gAppend) (mVar 2) (mCons (mBin qSub (mVar 4) (mBin qPow (mC (.int 10)) (mC (.int 18)))) (mNil)))) (sNext))))) (sRet (mLst (mCons (mVar 2) (mCons (mC (.int 0)) (mCons (mVar 1) (mCons (mC (.int 0)) (mNil)))))))))
def kb__law_source : List KSig := []
theorem pure__law_source : ∀ ws Cs Q E, sp__law_source ws Cs Q E → b__law_source (EndsD Q E) (rho0 ws) Cs := by
  rintro ws Cs Q E ⟨x, rfl, a, ns, rfl, hn, q⟩
  simp only [b__law_source, Int.zero_add, qIsN_n, qNotN_n, uIsi_r, nm_home, nm_fin, home_nm, fin_nm, sne_down_up, sne_down_right, sne_down_left, sne_down_home, sne_down_end, sne_up_down, sne_up_right, sne_up_left, sne_up_home, sne_up_end, sne_right_down, sne_right_up, sne_right_left, sne_right_home, sne_right_end, sne_left_down, sne_left_up, sne_left_right, sne_left_home, sne_left_end, sne_home_down, sne_home_up, sne_home_right, sne_home_left, sne_home_end, sne_end_down, sne_end_up, sne_end_right, sne_end_left, sne_end_home, sFor_eq, mLc_eq, uAdd_i, uAdd_s, uAdd_l, uMul_i, uMul_l, uEq_ii, uEq_ss, uEq_bb, uEq_nn, uEq_ni, uEq_in, uEq_ns, uEq_sn, uEq_is, uEq_si, uEq_rr, uEq_tt, uEq_rt, uEq_tr, uEq_tn, uEq_nt, uNe_ii, uNe_ss, uNe_bb, uNe_nn, uNe_ni, uNe_in, uNe_ns, uNe_sn, uNe_is, uNe_si, uNe_rr, uNe_tt, uNe_rt, uNe_tr, uNe_tn, uNe_nt, uIn_t, uIn_r, uIx_t, uIx_r, uIx_c, uIx_s, uLen_c, uLen_r, uLen_t, uLen_s, uMin_i, uMin_r, uMax_i, uMax_r, uInt_b, uInt_i, uInt_s, uList_r, uList_t, uIsi_n, uIsi_b, uIsi_i, uIsi_s, uIsi_t, uIsi_c, uSl_c, uSl_r, uSl_s, iOf_r, iOf_c, isNon_n, isNon_i, isNon_s, isNon_b, isNon_t, isNon_r, flat_s, flat_i, flat_b, flat_n, weq_ss, weq_ii, weq_ni, weq_in, weq_nn, kb_bb, kb_bi, kb_bs, kb_bl, kb_bt, kb_ib, kb_ii, kb_is, kb_il, kb_it, kb_sb, kb_si, kb_ss, kb_sl, kb_st, kb_lb, kb_li, kb_ls, kb_ll, kb_lt, kb_tb, kb_ti, kb_ts, kb_tl, kb_tt, kb_nb, kb_ni, kb_ns, kb_nl, kb_nt, nth0, nth1, nth2, nth3, mVar, mC, mBin, mUn, mNil, mCons, mCB, mTest, mAnd, mOr, mNot, mIf, mAndV, mOrV, mNotV, mTup, mLst, mChain, mCall, mCallK, reord, mYes, sNext, sSeq, sDrop, sRet, sRetN, sIf, sNever, sBreak, sCont, sAsg, sPar, sAug, sStore, gSet, gsNil, gsCons, gTupW, gStarW, qI2, qI, qNeg, qAbs, qStrI, iLst, iRgn, iRg2, iEnu, iTpl, mDT, mBM, mBM0, mSl, oNone, oSome, sMatch, mGo, mDNew, mDisp_eq, mPairs, EndsD, EndsW.turn, Rho.put, Rho.wipe, Rho.del, rho0, sp1_iff, sp2_iff, sp3_iff, sp4_iff, win, List.filterMap_cons, List.filterMap_nil, List.cons_append, List.nil_append, List.length_cons, List.length_nil, List.all_cons, List.all_nil, List.any_cons, List.any_nil, List.getElem?_cons_zero, List.getElem?_cons_succ, List.getElem?_nil, List.set_cons_zero, List.set_cons_succ, reduceIte, reduceCtorEq, Nat.reduceEqDiff, Nat.reduceAdd, Nat.reduceSub, Nat.reduceMul, Nat.reduceLeDiff, Int.reduceToNat, Int.cast_ofNat_Int, Int.natCast_zero, Int.natCast_one, Int.reduceLE, Int.reduceLT, Int.reduceNeg, Int.reduceAdd, Int.reduceSub, Int.reducePow, Int.reduceEq, Int.reduceNe, Int.toNat_zero, Int.toNat_one, Int.ofNat_eq_natCast, Nat.reducePow, Nat.le_refl, ge_iff_le, gt_iff_lt, List.mem_cons, List.not_mem_nil, or_false, false_or, or_true, true_or, Option.some.injEq, exists_eq_left', exists_eq_left, exists_eq', exists_eq, exists_and_left, exists_and_right, and_assoc, true_and, and_true, false_and, and_false, exists_false, exists_const, not_true_eq_false, not_false_eq_true, W.int.injEq, W.bl.injEq, W.str.injEq, W.ref.injEq, W.tup.injEq, List.cons.injEq, Bool.true_eq_false, Bool.false_eq_true, decide_eq_true_eq, decide_eq_false_iff_not, Bool.not_eq_true', Bool.not_eq_false', Bool.not_true, Bool.not_false, forall_const, true_implies, false_implies, implies_true, imp_self, decide_true, decide_false, Bool.and_true, Bool.true_and, Bool.and_false, Bool.false_and, Bool.or_false, Bool.or_true, Bool.false_or, Bool.true_or, beq_self_eq_true, pw_2_61, pw_10_18, pw_10_30, pw_10_29, pw_10_28, pw_10_40, pw_10_6, pw_10_9, lg_128, eq_self_iff_true, ne_eq, Int.not_lt, Int.not_le, Nat.not_lt, Nat.not_le, BEq.rfl]
  intro p
  refine forB_i (fun i ρ C => ∃ mix digs, I__law_source p Cs i ρ C mix digs) ⟨_, [], rfl, rfl, by decide, by decide, by decide, rfl⟩ (fun _ _ _ _ _ => trivial) ?_ ?_
  · rintro i w ρ C hi hw ⟨mix, digs, ⟨h1, h2, m0, m1, hd, rfl⟩⟩
    dsimp only at hi hw
    rw [List.length_map] at hi
    rw [List.getElem?_map, List.getElem?_eq_getElem hi] at hw
    obtain rfl := Option.some.inj hw
    simp only [h1, h2, Int.zero_add, qIsN_n, qNotN_n, uIsi_r, nm_home, nm_fin, home_nm, fin_nm, sne_down_up, sne_down_right, sne_down_left, sne_down_home, sne_down_end, sne_up_down, sne_up_right, sne_up_left, sne_up_home, sne_up_end, sne_right_down, sne_right_up, sne_right_left, sne_right_home, sne_right_end, sne_left_down, sne_left_up, sne_left_right, sne_left_home, sne_left_end, sne_home_down, sne_home_up, sne_home_right, sne_home_left, sne_home_end, sne_end_down, sne_end_up, sne_end_right, sne_end_left, sne_end_home, sFor_eq, mLc_eq, uAdd_i, uAdd_s, uAdd_l, uMul_i, uMul_l, uEq_ii, uEq_ss, uEq_bb, uEq_nn, uEq_ni, uEq_in, uEq_ns, uEq_sn, uEq_is, uEq_si, uEq_rr, uEq_tt, uEq_rt, uEq_tr, uEq_tn, uEq_nt, uNe_ii, uNe_ss, uNe_bb, uNe_nn, uNe_ni, uNe_in, uNe_ns, uNe_sn, uNe_is, uNe_si, uNe_rr, uNe_tt, uNe_rt, uNe_tr, uNe_tn, uNe_nt, uIn_t, uIn_r, uIx_t, uIx_r, uIx_c, uIx_s, uLen_c, uLen_r, uLen_t, uLen_s, uMin_i, uMin_r, uMax_i, uMax_r, uInt_b, uInt_i, uInt_s, uList_r, uList_t, uIsi_n, uIsi_b, uIsi_i, uIsi_s, uIsi_t, uIsi_c, uSl_c, uSl_r, uSl_s, iOf_r, iOf_c, isNon_n, isNon_i, isNon_s, isNon_b, isNon_t, isNon_r, flat_s, flat_i, flat_b, flat_n, weq_ss, weq_ii, weq_ni, weq_in, weq_nn, kb_bb, kb_bi, kb_bs, kb_bl, kb_bt, kb_ib, kb_ii, kb_is, kb_il, kb_it, kb_sb, kb_si, kb_ss, kb_sl, kb_st, kb_lb, kb_li, kb_ls, kb_ll, kb_lt, kb_tb, kb_ti, kb_ts, kb_tl, kb_tt, kb_nb, kb_ni, kb_ns, kb_nl, kb_nt, nth0, nth1, nth2, nth3, mVar, mC, mBin, mUn, mNil, mCons, mCB, mTest, mAnd, mOr, mNot, mIf, mAndV, mOrV, mNotV, mTup, mLst, mChain, mCall, mCallK, reord, mYes, sNext, sSeq, sDrop, sRet, sRetN, sIf, sNever, sBreak, sCont, sAsg, sPar, sAug, sStore, gSet, gsNil, gsCons, gTupW, gStarW, qI2, qI, qNeg, qAbs, qStrI, iLst, iRgn, iRg2, iEnu, iTpl, mDT, mBM, mBM0, mSl, oNone, oSome, sMatch, mGo, mDNew, mDisp_eq, mPairs, EndsD, EndsW.turn, Rho.put, Rho.wipe, Rho.del, rho0, sp1_iff, sp2_iff, sp3_iff, sp4_iff, win, List.filterMap_cons, List.filterMap_nil, List.cons_append, List.nil_append, List.length_cons, List.length_nil, List.all_cons, List.all_nil, List.any_cons, List.any_nil, List.getElem?_cons_zero, List.getElem?_cons_succ, List.getElem?_nil, List.set_cons_zero, List.set_cons_succ, reduceIte, reduceCtorEq, Nat.reduceEqDiff, Nat.reduceAdd, Nat.reduceSub, Nat.reduceMul, Nat.reduceLeDiff, Int.reduceToNat, Int.cast_ofNat_Int, Int.natCast_zero, Int.natCast_one, Int.reduceLE, Int.reduceLT, Int.reduceNeg, Int.reduceAdd, Int.reduceSub, Int.reducePow, Int.reduceEq, Int.reduceNe, Int.toNat_zero, Int.toNat_one, Int.ofNat_eq_natCast, Nat.reducePow, Nat.le_refl, ge_iff_le, gt_iff_lt, List.mem_cons, List.not_mem_nil, or_false, false_or, or_true, true_or, Option.some.injEq, exists_eq_left', exists_eq_left, exists_eq', exists_eq, exists_and_left, exists_and_right, and_assoc, true_and, and_true, false_and, and_false, exists_false, exists_const, not_true_eq_false, not_false_eq_true, W.int.injEq, W.bl.injEq, W.str.injEq, W.ref.injEq, W.tup.injEq, List.cons.injEq, Bool.true_eq_false, Bool.false_eq_true, decide_eq_true_eq, decide_eq_false_iff_not, Bool.not_eq_true', Bool.not_eq_false', Bool.not_true, Bool.not_false, forall_const, true_implies, false_implies, implies_true, imp_self, decide_true, decide_false, Bool.and_true, Bool.true_and, Bool.and_false, Bool.false_and, Bool.or_false, Bool.or_true, Bool.false_or, Bool.true_or, beq_self_eq_true, pw_2_61, pw_10_18, pw_10_30, pw_10_29, pw_10_28, pw_10_40, pw_10_6, pw_10_9, lg_128, eq_self_iff_true, ne_eq, Int.not_lt, Int.not_le, Nat.not_lt, Nat.not_le, BEq.rfl]
    refine ⟨mul64 (by omega) (by omega), ?_, ?_⟩
    · intro _
      refine ⟨mty_l, append_i (by rw [List.length_map]; omega) ?_⟩
      exact ⟨_, Part.here, _, digs ++ [_], rfl, h2, Int.emod_nonneg _ (by decide), Int.emod_lt_of_pos _ (by decide), by simp; omega, by rw [List.map_append]; rfl⟩
    · intro _
      exact ⟨_, Part.here, _, digs, rfl, h2, Int.emod_nonneg _ (by decide), Int.emod_lt_of_pos _ (by decide), by omega, rfl⟩
  · rintro ρ C ⟨mix, digs, ⟨h1, h2, m0, m1, hd, rfl⟩⟩
    simp only [h1, h2, Int.zero_add, qIsN_n, qNotN_n, uIsi_r, nm_home, nm_fin, home_nm, fin_nm, sne_down_up, sne_down_right, sne_down_left, sne_down_home, sne_down_end, sne_up_down, sne_up_right, sne_up_left, sne_up_home, sne_up_end, sne_right_down, sne_right_up, sne_right_left, sne_right_home, sne_right_end, sne_left_down, sne_left_up, sne_left_right, sne_left_home, sne_left_end, sne_home_down, sne_home_up, sne_home_right, sne_home_left, sne_home_end, sne_end_down, sne_end_up, sne_end_right, sne_end_left, sne_end_home, sFor_eq, mLc_eq, uAdd_i, uAdd_s, uAdd_l, uMul_i, uMul_l, uEq_ii, uEq_ss, uEq_bb, uEq_nn, uEq_ni, uEq_in, uEq_ns, uEq_sn, uEq_is, uEq_si, uEq_rr, uEq_tt, uEq_rt, uEq_tr, uEq_tn, uEq_nt, uNe_ii, uNe_ss, uNe_bb, uNe_nn, uNe_ni, uNe_in, uNe_ns, uNe_sn, uNe_is, uNe_si, uNe_rr, uNe_tt, uNe_rt, uNe_tr, uNe_tn, uNe_nt, uIn_t, uIn_r, uIx_t, uIx_r, uIx_c, uIx_s, uLen_c, uLen_r, uLen_t, uLen_s, uMin_i, uMin_r, uMax_i, uMax_r, uInt_b, uInt_i, uInt_s, uList_r, uList_t, uIsi_n, uIsi_b, uIsi_i, uIsi_s, uIsi_t, uIsi_c, uSl_c, uSl_r, uSl_s, iOf_r, iOf_c, isNon_n, isNon_i, isNon_s, isNon_b, isNon_t, isNon_r, flat_s, flat_i, flat_b, flat_n, weq_ss, weq_ii, weq_ni, weq_in, weq_nn, kb_bb, kb_bi, kb_bs, kb_bl, kb_bt, kb_ib, kb_ii, kb_is, kb_il, kb_it, kb_sb, kb_si, kb_ss, kb_sl, kb_st, kb_lb, kb_li, kb_ls, kb_ll, kb_lt, kb_tb, kb_ti, kb_ts, kb_tl, kb_tt, kb_nb, kb_ni, kb_ns, kb_nl, kb_nt, nth0, nth1, nth2, nth3, mVar, mC, mBin, mUn, mNil, mCons, mCB, mTest, mAnd, mOr, mNot, mIf, mAndV, mOrV, mNotV, mTup, mLst, mChain, mCall, mCallK, reord, mYes, sNext, sSeq, sDrop, sRet, sRetN, sIf, sNever, sBreak, sCont, sAsg, sPar, sAug, sStore, gSet, gsNil, gsCons, gTupW, gStarW, qI2, qI, qNeg, qAbs, qStrI, iLst, iRgn, iRg2, iEnu, iTpl, mDT, mBM, mBM0, mSl, oNone, oSome, sMatch, mGo, mDNew, mDisp_eq, mPairs, EndsD, EndsW.turn, Rho.put, Rho.wipe, Rho.del, rho0, sp1_iff, sp2_iff, sp3_iff, sp4_iff, win, List.filterMap_cons, List.filterMap_nil, List.cons_append, List.nil_append, List.length_cons, List.length_nil, List.all_cons, List.all_nil, List.any_cons, List.any_nil, List.getElem?_cons_zero, List.getElem?_cons_succ, List.getElem?_nil, List.set_cons_zero, List.set_cons_succ, reduceIte, reduceCtorEq, Nat.reduceEqDiff, Nat.reduceAdd, Nat.reduceSub, Nat.reduceMul, Nat.reduceLeDiff, Int.reduceToNat, Int.cast_ofNat_Int, Int.natCast_zero, Int.natCast_one, Int.reduceLE, Int.reduceLT, Int.reduceNeg, Int.reduceAdd, Int.reduceSub, Int.reducePow, Int.reduceEq, Int.reduceNe, Int.toNat_zero, Int.toNat_one, Int.ofNat_eq_natCast, Nat.reducePow, Nat.le_refl, ge_iff_le, gt_iff_lt, List.mem_cons, List.not_mem_nil, or_false, false_or, or_true, true_or, Option.some.injEq, exists_eq_left', exists_eq_left, exists_eq', exists_eq, exists_and_left, exists_and_right, and_assoc, true_and, and_true, false_and, and_false, exists_false, exists_const, not_true_eq_false, not_false_eq_true, W.int.injEq, W.bl.injEq, W.str.injEq, W.ref.injEq, W.tup.injEq, List.cons.injEq, Bool.true_eq_false, Bool.false_eq_true, decide_eq_true_eq, decide_eq_false_iff_not, Bool.not_eq_true', Bool.not_eq_false', Bool.not_true, Bool.not_false, forall_const, true_implies, false_implies, implies_true, imp_self, decide_true, decide_false, Bool.and_true, Bool.true_and, Bool.and_false, Bool.false_and, Bool.or_false, Bool.or_true, Bool.false_or, Bool.true_or, beq_self_eq_true, pw_2_61, pw_10_18, pw_10_30, pw_10_29, pw_10_28, pw_10_40, pw_10_6, pw_10_9, lg_128, eq_self_iff_true, ne_eq, Int.not_lt, Int.not_le, Nat.not_lt, Nat.not_le, BEq.rfl]
    exact fun q' => ⟨_, Part.here, q q' ⟨p, digs, 0, mix, 0⟩ ⟨Int.le_refl _, Int.le_refl _, m0, m1⟩⟩
/-! ### _law_draw -/
def sp__law_draw : SpW := sp2 fun x y Cs Q _ => ∃ (q : Addr) (many : Int) (S : SrcS) (Ds : Cells) (N : Nat), x = .ref q ∧ y = .int many ∧ 0 < many ∧ many.natAbs < 2 ^ 200 ∧ Cs = S.at_ q ++ Ds ∧ S.ok N ∧ N + 1 ≤ 1000000000 ∧
  ∀ (r : Int) (S' : SrcS), 0 ≤ r → r < many → S'.ok (N + 1) → Q (.int r) (S'.at_ q ++ Ds)
theorem len__law_draw : ∀ ws Cs Q E, sp__law_draw ws Cs Q E → ws.length = 2 := len2
/-- one number is drawn -/
theorem draw_i {q : Addr} {many : Int} {S : SrcS} {Cs Ds : Cells} {N : Nat} {Q : WK} {E : XW} [t : TakeS q Cs S Ds] (hm : 0 < many) (hM : many.natAbs < 2 ^ 200) (ok : S.ok N) (hN : N + 1 ≤ 1000000000) (k : ∀ (r : Int) (S' : SrcS), 0 ≤ r → r < many → S'.ok (N + 1) → Q (.int r) (S'.at_ q ++ Ds)) :
    cl sp__law_draw [.ref q, .int many] Cs Q E := cl_i (part_perm t.perm) ⟨_, _, rfl, q, many, S, Ds, N, rfl, rfl, hm, hM, rfl, ok, hN, k⟩
structure I__law_draw (q : Addr) (many : Int) (N : Nat) (Ds : Cells) (m : Nat) (ρ : Rho) (C : Cells) (S : SrcS) : Prop where
  h0 : ρ 0 = some (.ref q)
  h1 : ρ 1 = some (.int many)
  ok : S.ok N
  hm : S.digs.length ≤ m
  hc : C = S.at_ q ++ Ds
def b__law_draw : MS := sSeq (sWhile (mAnd (mTest (mBin qLt (mBin uIx (mVar 0) (mC (.int 1))) (mC (.int 2)))) (mTest (mBin uNe (mBin uIx (mVar 0) (mC (.int 0))) (mLst (mNil))))) (sStore qSetL (mBM "list" (qMutL gPop0) (mBin uIx (mVar 0) (mC (.int 0))) (mCons (mC (.int 0)) (mNil))) (mVar 0) (mC (.int 1)))) (sSeq (sIf (mTest (mBin qGe (mBin uIx (mVar 0) (mC (.int 1))) (mC (.int 2)))) (sSeq (sAsg (mBin qMod (mBin uIx (mVar 0) (mC (.int 1))) (mVar 1)) (gSet 2)) (sSeq (sStore qSetL (mBin qFdiv (mBin uIx (mVar 0) (mC (.int 1))) (mVar 1)) (mVar 0) (mC (.int 1))) (sRet (mVar 2)))) (sNext)) (sSeq (sStore qSetL (mBin uAdd (mBin uIx (mVar 0) (mC (.int 3))) (mC (.int 1))) (mVar 0) (mC (.int 3))) (sSeq (sAsg (mBin uMul (mBin uAdd (mBin uIx (mVar 0) (mC (.int 2))) (mC (.int 7))) (mBin qPow (mBin uAdd (mBin uIx (mVar 0) (mC (.int 3))) (mC (.int 3))) (mC (.int 3)))) (gSet 3)) (sSeq (sAsg (mBin qMod (mBin uAdd (mVar 3) (mBin uMul (mC (.int 1000081)) (mBin uIx (mVar 0) (mC (.int 3))))) (mBin qSub (mBin qPow (mC (.int 2)) (mC (.int 61))) (mC (.int 1)))) (gSet 3)) (sRet (mBin qMod (mBin qFdiv (mBin qMod (mBin qPow (mVar 3) (mC (.int 5))) (mBin uAdd (mBin qPow (mC (.int 10)) (mC (.int 18))) (mC (.int 9)))) (mC (.int 128))) (mVar 1)))))))
def kb__law_draw : List KSig := []
theorem pure__law_draw : ∀ ws Cs Q E, sp__law_draw ws Cs Q E → b__law_draw (EndsD Q E) (rho0 ws) Cs := by
  rintro ws Cs Q E ⟨x, y, rfl, q, many, S, Ds, N, rfl, rfl, hm, hM, rfl, ok, hN, k⟩
  unfold b__law_draw
  refine seqW_i (fun m ρ C => ∃ S, I__law_draw q many N Ds m ρ C S) (fun ρ C => ∃ S, I__law_draw q many N Ds S.digs.length ρ C S) S.digs.length ⟨S, rfl, rfl, ok, Nat.le_refl _, rfl⟩ ?_ ?_
  · rintro ρ C ⟨⟨p, digs, cur, mix, cnt⟩, ⟨h0, h1, ok, hl, rfl⟩⟩
    obtain ⟨c0, c1, m0, m1⟩ := ok
    dsimp only at c0 c1 m0 m1
    (repeat (first | (simp only [h0, h1, SrcS.at_, Int.zero_add, qIsN_n, qNotN_n, uIsi_r, nm_home, nm_fin, home_nm, fin_nm, sne_down_up, sne_down_right, sne_down_left, sne_down_home, sne_down_end, sne_up_down, sne_up_right, sne_up_left, sne_up_home, sne_up_end, sne_right_down, sne_right_up, sne_right_left, sne_right_home, sne_right_end, sne_left_down, sne_left_up, sne_left_right, sne_left_home, sne_left_end, sne_home_down, sne_home_up, sne_home_right, sne_home_left, sne_home_end, sne_end_down, sne_end_up, sne_end_right, sne_end_left, sne_end_home, sFor_eq, mLc_eq, uAdd_i, uAdd_s, uAdd_l, uMul_i, uMul_l, uEq_ii, uEq_ss, uEq_bb, uEq_nn, uEq_ni, uEq_in, uEq_ns, uEq_sn, uEq_is, uEq_si, uEq_rr, uEq_tt, uEq_rt, uEq_tr, uEq_tn, uEq_nt, uNe_ii, uNe_ss, uNe_bb, uNe_nn, uNe_ni, uNe_in, uNe_ns, uNe_sn, uNe_is, uNe_si, uNe_rr, uNe_tt, uNe_rt, uNe_tr, uNe_tn, uNe_nt, uIn_t, uIn_r, uIx_t, uIx_r, uIx_c, uIx_s, uLen_c, uLen_r, uLen_t, uLen_s, uMin_i, uMin_r, uMax_i, uMax_r, uInt_b, uInt_i, uInt_s, uList_r, uList_t, uIsi_n, uIsi_b, uIsi_i, uIsi_s, uIsi_t, uIsi_c, uSl_c, uSl_r, uSl_s, iOf_r, iOf_c, isNon_n, isNon_i, isNon_s, isNon_b, isNon_t, isNon_r, flat_s, flat_i, flat_b, flat_n, weq_ss, weq_ii, weq_ni, weq_in, weq_nn, kb_bb, kb_bi, kb_bs, kb_bl, kb_bt, kb_ib, kb_ii, kb_is, kb_il, kb_it, kb_sb, kb_si, kb_ss, kb_sl, kb_st, kb_lb, kb_li, kb_ls, kb_ll, kb_lt, kb_tb, kb_ti, kb_ts, kb_tl, kb_tt, kb_nb, kb_ni, kb_ns, kb_nl, kb_nt, nth0, nth1, nth2, nth3, mVar, mC, mBin, mUn, mNil, mCons, mCB, mTest, mAnd, mOr, mNot, mIf, mAndV, mOrV, mNotV, mTup, mLst, mChain, mCall, mCallK, reord, mYes, sNext, sSeq, sDrop, sRet, sRetN, sIf, sNever, sBreak, sCont, sAsg, sPar, sAug, sStore, gSet, gsNil, gsCons, gTupW, gStarW, qI2, qI, qNeg, qAbs, qStrI, iLst, iRgn, iRg2, iEnu, iTpl, mDT, mBM, mBM0, mSl, oNone, oSome, sMatch, mGo, mDNew, mDisp_eq, mPairs, EndsD, EndsW.turn, Rho.put, Rho.wipe, Rho.del, rho0, sp1_iff, sp2_iff, sp3_iff, sp4_iff, win, List.filterMap_cons, List.filterMap_nil, List.cons_append, List.nil_append, List.length_cons, List.length_nil, List.all_cons, List.all_nil, List.any_cons, List.any_nil, List.getElem?_cons_zero, List.getElem?_cons_succ, List.getElem?_nil, List.set_cons_zero, List.set_cons_succ, reduceIte, reduceCtorEq, Nat.reduceEqDiff, Nat.reduceAdd, Nat.reduceSub, Nat.reduceMul, Nat.reduceLeDiff, Int.reduceToNat, Int.cast_ofNat_Int, Int.natCast_zero, Int.natCast_one, Int.reduceLE, Int.reduceLT, Int.reduceNeg, Int.reduceAdd, Int.reduceSub, Int.reducePow, Int.reduceEq, Int.reduceNe, Int.toNat_zero, Int.toNat_one, Int.ofNat_eq_natCast, Nat.reducePow, Nat.le_refl, ge_iff_le, gt_iff_lt, List.mem_cons, List.not_mem_nil, or_false, false_or, or_true, true_or, Option.some.injEq, exists_eq_left', exists_eq_left, exists_eq', exists_eq, exists_and_left, exists_and_right, and_assoc, true_and, and_true, false_and, and_false, exists_false, exists_const, not_true_eq_false, not_false_eq_true, W.int.injEq, W.bl.injEq, W.str.injEq, W.ref.injEq, W.tup.injEq, List.cons.injEq, Bool.true_eq_false, Bool.false_eq_true, decide_eq_true_eq, decide_eq_false_iff_not, Bool.not_eq_true', Bool.not_eq_false', Bool.not_true, Bool.not_false, forall_const, true_implies, false_implies, implies_true, imp_self, decide_true, decide_false, Bool.and_true, Bool.true_and, Bool.and_false, Bool.false_and, Bool.or_false, Bool.or_true, Bool.false_or, Bool.true_or, beq_self_eq_true, pw_2_61, pw_10_18, pw_10_30, pw_10_29, pw_10_28, pw_10_40, pw_10_6, pw_10_9, lg_128, eq_self_iff_true, ne_eq, Int.not_lt, Int.not_le, Nat.not_lt, Nat.not_le, BEq.rfl]) | (refine ⟨_, (by first | exact lsAt_i | assumption), ?_⟩) | (refine ⟨mty_l, ?_⟩) | (refine ⟨mty_s, ?_⟩) | (refine ⟨_, ty_l (by first | exact lsAt_i | assumption), ?_⟩)))
    refine ⟨fun hc => ?_, fun hc => ?_⟩
    · (repeat (first | (simp only [h0, h1, Int.zero_add, qIsN_n, qNotN_n, uIsi_r, nm_home, nm_fin, home_nm, fin_nm, sne_down_up, sne_down_right, sne_down_left, sne_down_home, sne_down_end, sne_up_down, sne_up_right, sne_up_left, sne_up_home, sne_up_end, sne_right_down, sne_right_up, sne_right_left, sne_right_home, sne_right_end, sne_left_down, sne_left_up, sne_left_right, sne_left_home, sne_left_end, sne_home_down, sne_home_up, sne_home_right, sne_home_left, sne_home_end, sne_end_down, sne_end_up, sne_end_right, sne_end_left, sne_end_home, sFor_eq, mLc_eq, uAdd_i, uAdd_s, uAdd_l, uMul_i, uMul_l, uEq_ii, uEq_ss, uEq_bb, uEq_nn, uEq_ni, uEq_in, uEq_ns, uEq_sn, uEq_is, uEq_si, uEq_rr, uEq_tt, uEq_rt, uEq_tr, uEq_tn, uEq_nt, uNe_ii, uNe_ss, uNe_bb, uNe_nn, uNe_ni, uNe_in, uNe_ns, uNe_sn, uNe_is, uNe_si, uNe_rr, uNe_tt, uNe_rt, uNe_tr, uNe_tn, uNe_nt, uIn_t, uIn_r, uIx_t, uIx_r, uIx_c, uIx_s, uLen_c, uLen_r, uLen_t, uLen_s, uMin_i, uMin_r, uMax_i, uMax_r, uInt_b, uInt_i, uInt_s, uList_r, uList_t, uIsi_n, uIsi_b, uIsi_i, uIsi_s, uIsi_t, uIsi_c, uSl_c, uSl_r, uSl_s, iOf_r, iOf_c, isNon_n, isNon_i, isNon_s, isNon_b, isNon_t, isNon_r, flat_s, flat_i, flat_b, flat_n, weq_ss, weq_ii, weq_ni, weq_in, weq_nn, kb_bb, kb_bi, kb_bs, kb_bl, kb_bt, kb_ib, kb_ii, kb_is, kb_il, kb_it, kb_sb, kb_si, kb_ss, kb_sl, kb_st, kb_lb, kb_li, kb_ls, kb_ll, kb_lt, kb_tb, kb_ti, kb_ts, kb_tl, kb_tt, kb_nb, kb_ni, kb_ns, kb_nl, kb_nt, nth0, nth1, nth2, nth3, mVar, mC, mBin, mUn, mNil, mCons, mCB, mTest, mAnd, mOr, mNot, mIf, mAndV, mOrV, mNotV, mTup, mLst, mChain, mCall, mCallK, reord, mYes, sNext, sSeq, sDrop, sRet, sRetN, sIf, sNever, sBreak, sCont, sAsg, sPar, sAug, sStore, gSet, gsNil, gsCons, gTupW, gStarW, qI2, qI, qNeg, qAbs, qStrI, iLst, iRgn, iRg2, iEnu, iTpl, mDT, mBM, mBM0, mSl, oNone, oSome, sMatch, mGo, mDNew, mDisp_eq, mPairs, EndsD, EndsW.turn, Rho.put, Rho.wipe, Rho.del, rho0, sp1_iff, sp2_iff, sp3_iff, sp4_iff, win, List.filterMap_cons, List.filterMap_nil, List.cons_append, List.nil_append, List.length_cons, List.length_nil, List.all_cons, List.all_nil, List.any_cons, List.any_nil, List.getElem?_cons_zero, List.getElem?_cons_succ, List.getElem?_nil, List.set_cons_zero, List.set_cons_succ, reduceIte, reduceCtorEq, Nat.reduceEqDiff, Nat.reduceAdd, Nat.reduceSub, Nat.reduceMul, Nat.reduceLeDiff, Int.reduceToNat, Int.cast_ofNat_Int, Int.natCast_zero, Int.natCast_one, Int.reduceLE, Int.reduceLT, Int.reduceNeg, Int.reduceAdd, Int.reduceSub, Int.reducePow, Int.reduceEq, Int.reduceNe, Int.toNat_zero, Int.toNat_one, Int.ofNat_eq_natCast, Nat.reducePow, Nat.le_refl, ge_iff_le, gt_iff_lt, List.mem_cons, List.not_mem_nil, or_false, false_or, or_true, true_or, Option.some.injEq, exists_eq_left', exists_eq_left, exists_eq', exists_eq, exists_and_left, exists_and_right, and_assoc, true_and, and_true, false_and, and_false, exists_false, exists_const, not_true_eq_false, not_false_eq_true, W.int.injEq, W.bl.injEq, W.str.injEq, W.ref.injEq, W.tup.injEq, List.cons.injEq, Bool.true_eq_false, Bool.false_eq_true, decide_eq_true_eq, decide_eq_false_iff_not, Bool.not_eq_true', Bool.not_eq_false', Bool.not_true, Bool.not_false, forall_const, true_implies, false_implies, implies_true, imp_self, decide_true, decide_false, Bool.and_true, Bool.true_and, Bool.and_false, Bool.false_and, Bool.or_false, Bool.or_true, Bool.false_or, Bool.true_or, beq_self_eq_true, pw_2_61, pw_10_18, pw_10_30, pw_10_29, pw_10_28, pw_10_40, pw_10_6, pw_10_9, lg_128, eq_self_iff_true, ne_eq, Int.not_lt, Int.not_le, Nat.not_lt, Nat.not_le, BEq.rfl]) | (refine ⟨_, (by first | exact lsAt_i | assumption), ?_⟩) | (refine ⟨mty_l, ?_⟩) | (refine ⟨mty_s, ?_⟩) | (refine ⟨_, ty_l (by first | exact lsAt_i | assumption), ?_⟩)))
      refine ⟨hm, ?_⟩
      (repeat (first | (simp only [h0, h1, Int.zero_add, qIsN_n, qNotN_n, uIsi_r, nm_home, nm_fin, home_nm, fin_nm, sne_down_up, sne_down_right, sne_down_left, sne_down_home, sne_down_end, sne_up_down, sne_up_right, sne_up_left, sne_up_home, sne_up_end, sne_right_down, sne_right_up, sne_right_left, sne_right_home, sne_right_end, sne_left_down, sne_left_up, sne_left_right, sne_left_home, sne_left_end, sne_home_down, sne_home_up, sne_home_right, sne_home_left, sne_home_end, sne_end_down, sne_end_up, sne_end_right, sne_end_left, sne_end_home, sFor_eq, mLc_eq, uAdd_i, uAdd_s, uAdd_l, uMul_i, uMul_l, uEq_ii, uEq_ss, uEq_bb, uEq_nn, uEq_ni, uEq_in, uEq_ns, uEq_sn, uEq_is, uEq_si, uEq_rr, uEq_tt, uEq_rt, uEq_tr, uEq_tn, uEq_nt, uNe_ii, uNe_ss, uNe_bb, uNe_nn, uNe_ni, uNe_in, uNe_ns, uNe_sn, uNe_is, uNe_si, uNe_rr, uNe_tt, uNe_rt, uNe_tr, uNe_tn, uNe_nt, uIn_t, uIn_r, uIx_t, uIx_r, uIx_c, uIx_s, uLen_c, uLen_r, uLen_t, uLen_s, uMin_i, uMin_r, uMax_i, uMax_r, uInt_b, uInt_i, uInt_s, uList_r, uList_t, uIsi_n, uIsi_b, uIsi_i, uIsi_s, uIsi_t, uIsi_c, uSl_c, uSl_r, uSl_s, iOf_r, iOf_c, isNon_n, isNon_i, isNon_s, isNon_b, isNon_t, isNon_r, flat_s, flat_i, flat_b, flat_n, weq_ss, weq_ii, weq_ni, weq_in, weq_nn, kb_bb, kb_bi, kb_bs, kb_bl, kb_bt, kb_ib, kb_ii, kb_is, kb_il, kb_it, kb_sb, kb_si, kb_ss, kb_sl, kb_st, kb_lb, kb_li, kb_ls, kb_ll, kb_lt, kb_tb, kb_ti, kb_ts, kb_tl, kb_tt, kb_nb, kb_ni, kb_ns, kb_nl, kb_nt, nth0, nth1, nth2, nth3, mVar, mC, mBin, mUn, mNil, mCons, mCB, mTest, mAnd, mOr, mNot, mIf, mAndV, mOrV, mNotV, mTup, mLst, mChain, mCall, mCallK, reord, mYes, sNext, sSeq, sDrop, sRet, sRetN, sIf, sNever, sBreak, sCont, sAsg, sPar, sAug, sStore, gSet, gsNil, gsCons, gTupW, gStarW, qI2, qI, qNeg, qAbs, qStrI, iLst, iRgn, iRg2, iEnu, iTpl, mDT, mBM, mBM0, mSl, oNone, oSome, sMatch, mGo, mDNew, mDisp_eq, mPairs, EndsD, EndsW.turn, Rho.put, Rho.wipe, Rho.del, rho0, sp1_iff, sp2_iff, sp3_iff, sp4_iff, win, List.filterMap_cons, List.filterMap_nil, List.cons_append, List.nil_append, List.length_cons, List.length_nil, List.all_cons, List.all_nil, List.any_cons, List.any_nil, List.getElem?_cons_zero, List.getElem?_cons_succ, List.getElem?_nil, List.set_cons_zero, List.set_cons_succ, reduceIte, reduceCtorEq, Nat.reduceEqDiff, Nat.reduceAdd, Nat.reduceSub, Nat.reduceMul, Nat.reduceLeDiff, Int.reduceToNat, Int.cast_ofNat_Int, Int.natCast_zero, Int.natCast_one, Int.reduceLE, Int.reduceLT, Int.reduceNeg, Int.reduceAdd, Int.reduceSub, Int.reducePow, Int.reduceEq, Int.reduceNe, Int.toNat_zero, Int.toNat_one, Int.ofNat_eq_natCast, Nat.reducePow, Nat.le_refl, ge_iff_le, gt_iff_lt, List.mem_cons, List.not_mem_nil, or_false, false_or, or_true, true_or, Option.some.injEq, exists_eq_left', exists_eq_left, exists_eq', exists_eq, exists_and_left, exists_and_right, and_assoc, true_and, and_true, false_and, and_false, exists_false, exists_const, not_true_eq_false, not_false_eq_true, W.int.injEq, W.bl.injEq, W.str.injEq, W.ref.injEq, W.tup.injEq, List.cons.injEq, Bool.true_eq_false, Bool.false_eq_true, decide_eq_true_eq, decide_eq_false_iff_not, Bool.not_eq_true', Bool.not_eq_false', Bool.not_true, Bool.not_false, forall_const, true_implies, false_implies, implies_true, imp_self, decide_true, decide_false, Bool.and_true, Bool.true_and, Bool.and_false, Bool.false_and, Bool.or_false, Bool.or_true, Bool.false_or, Bool.true_or, beq_self_eq_true, pw_2_61, pw_10_18, pw_10_30, pw_10_29, pw_10_28, pw_10_40, pw_10_6, pw_10_9, lg_128, eq_self_iff_true, ne_eq, Int.not_lt, Int.not_le, Nat.not_lt, Nat.not_le, BEq.rfl]) | (refine ⟨_, (by first | exact lsAt_i | assumption), ?_⟩) | (refine ⟨mty_l, ?_⟩) | (refine ⟨mty_s, ?_⟩) | (refine ⟨_, ty_l (by first | exact lsAt_i | assumption), ?_⟩)))
      refine ⟨hm, (fdivOk hm hM (by decide)).2, setL_i (by decide) (by simp) ?_⟩
      exact ⟨_, .here, k _ ⟨p, digs, cur / many, mix, cnt⟩ (Int.emod_nonneg _ (by omega)) (Int.emod_lt_of_pos _ hm) ⟨c0, Int.le_trans c1 (by omega), m0, m1⟩⟩
    · (repeat (first | (simp only [h0, h1, Int.zero_add, qIsN_n, qNotN_n, uIsi_r, nm_home, nm_fin, home_nm, fin_nm, sne_down_up, sne_down_right, sne_down_left, sne_down_home, sne_down_end, sne_up_down, sne_up_right, sne_up_left, sne_up_home, sne_up_end, sne_right_down, sne_right_up, sne_right_left, sne_right_home, sne_right_end, sne_left_down, sne_left_up, sne_left_right, sne_left_home, sne_left_end, sne_home_down, sne_home_up, sne_home_right, sne_home_left, sne_home_end, sne_end_down, sne_end_up, sne_end_right, sne_end_left, sne_end_home, sFor_eq, mLc_eq, uAdd_i, uAdd_s, uAdd_l, uMul_i, uMul_l, uEq_ii, uEq_ss, uEq_bb, uEq_nn, uEq_ni, uEq_in, uEq_ns, uEq_sn, uEq_is, uEq_si, uEq_rr, uEq_tt, uEq_rt, uEq_tr, uEq_tn, uEq_nt, uNe_ii, uNe_ss, uNe_bb, uNe_nn, uNe_ni, uNe_in, uNe_ns, uNe_sn, uNe_is, uNe_si, uNe_rr, uNe_tt, uNe_rt, uNe_tr, uNe_tn, uNe_nt, uIn_t, uIn_r, uIx_t, uIx_r, uIx_c, uIx_s, uLen_c, uLen_r, uLen_t, uLen_s, uMin_i, uMin_r, uMax_i, uMax_r, uInt_b, uInt_i, uInt_s, uList_r, uList_t, uIsi_n, uIsi_b, uIsi_i, uIsi_s, uIsi_t, uIsi_c, uSl_c, uSl_r, uSl_s, iOf_r, iOf_c, isNon_n, isNon_i, isNon_s, isNon_b, isNon_t, isNon_r, flat_s, flat_i, flat_b, flat_n, weq_ss, weq_ii, weq_ni, weq_in, weq_nn, kb_bb, kb_bi, kb_bs, kb_bl, kb_bt, kb_ib, kb_ii, kb_is, kb_il, kb_it, kb_sb, kb_si, kb_ss, kb_sl, kb_st, kb_lb, kb_li, kb_ls, kb_ll, kb_lt, kb_tb, kb_ti, kb_ts, kb_tl, kb_tt, kb_nb, kb_ni, kb_ns, kb_nl, kb_nt, nth0, nth1, nth2, nth3, mVar, mC, mBin, mUn, mNil, mCons, mCB, mTest, mAnd, mOr, mNot, mIf, mAndV, mOrV, mNotV, mTup, mLst, mChain, mCall, mCallK, reord, mYes, sNext, sSeq, sDrop, sRet, sRetN, sIf, sNever, sBreak, sCont, sAsg, sPar, sAug, sStore, gSet, gsNil, gsCons, gTupW, gStarW, qI2, qI, qNeg, qAbs, qStrI, iLst, iRgn, iRg2, iEnu, iTpl, mDT, mBM, mBM0, mSl, oNone, oSome, sMatch, mGo, mDNew, mDisp_eq, mPairs, EndsD, EndsW.turn, Rho.put, Rho.wipe, Rho.del, rho0, sp1_iff, sp2_iff, sp3_iff, sp4_iff, win, List.filterMap_cons, List.filterMap_nil, List.cons_append, List.nil_append, List.length_cons, List.length_nil, List.all_cons, List.all_nil, List.any_cons, List.any_nil, List.getElem?_cons_zero, List.getElem?_cons_succ, List.getElem?_nil, List.set_cons_zero, List.set_cons_succ, reduceIte, reduceCtorEq, Nat.reduceEqDiff, Nat.reduceAdd, Nat.reduceSub, Nat.reduceMul, Nat.reduceLeDiff, Int.reduceToNat, Int.cast_ofNat_Int, Int.natCast_zero, Int.natCast_one, Int.reduceLE, Int.reduceLT, Int.reduceNeg, Int.reduceAdd, Int.reduceSub, Int.reducePow, Int.reduceEq, Int.reduceNe, Int.toNat_zero, Int.toNat_one, Int.ofNat_eq_natCast, Nat.reducePow, Nat.le_refl, ge_iff_le, gt_iff_lt, List.mem_cons, List.not_mem_nil, or_false, false_or, or_true, true_or, Option.some.injEq, exists_eq_left', exists_eq_left, exists_eq', exists_eq, exists_and_left, exists_and_right, and_assoc, true_and, and_true, false_and, and_false, exists_false, exists_const, not_true_eq_false, not_false_eq_true, W.int.injEq, W.bl.injEq, W.str.injEq, W.ref.injEq, W.tup.injEq, List.cons.injEq, Bool.true_eq_false, Bool.false_eq_true, decide_eq_true_eq, decide_eq_false_iff_not, Bool.not_eq_true', Bool.not_eq_false', Bool.not_true, Bool.not_false, forall_const, true_implies, false_implies, implies_true, imp_self, decide_true, decide_false, Bool.and_true, Bool.true_and, Bool.and_false, Bool.false_and, Bool.or_false, Bool.or_true, Bool.false_or, Bool.true_or, beq_self_eq_true, pw_2_61, pw_10_18, pw_10_30, pw_10_29, pw_10_28, pw_10_40, pw_10_6, pw_10_9, lg_128, eq_self_iff_true, ne_eq, Int.not_lt, Int.not_le, Nat.not_lt, Nat.not_le, BEq.rfl]) | (refine ⟨_, (by first | exact lsAt_i | assumption), ?_⟩) | (refine ⟨mty_l, ?_⟩) | (refine ⟨mty_s, ?_⟩) | (refine ⟨_, ty_l (by first | exact lsAt_i | assumption), ?_⟩)))
      refine setL_i (by decide) (by simp) ?_
      (repeat (first | (simp only [h0, h1, Int.zero_add, qIsN_n, qNotN_n, uIsi_r, nm_home, nm_fin, home_nm, fin_nm, sne_down_up, sne_down_right, sne_down_left, sne_down_home, sne_down_end, sne_up_down, sne_up_right, sne_up_left, sne_up_home, sne_up_end, sne_right_down, sne_right_up, sne_right_left, sne_right_home, sne_right_end, sne_left_down, sne_left_up, sne_left_right, sne_left_home, sne_left_end, sne_home_down, sne_home_up, sne_home_right, sne_home_left, sne_home_end, sne_end_down, sne_end_up, sne_end_right, sne_end_left, sne_end_home, sFor_eq, mLc_eq, uAdd_i, uAdd_s, uAdd_l, uMul_i, uMul_l, uEq_ii, uEq_ss, uEq_bb, uEq_nn, uEq_ni, uEq_in, uEq_ns, uEq_sn, uEq_is, uEq_si, uEq_rr, uEq_tt, uEq_rt, uEq_tr, uEq_tn, uEq_nt, uNe_ii, uNe_ss, uNe_bb, uNe_nn, uNe_ni, uNe_in, uNe_ns, uNe_sn, uNe_is, uNe_si, uNe_rr, uNe_tt, uNe_rt, uNe_tr, uNe_tn, uNe_nt, uIn_t, uIn_r, uIx_t, uIx_r, uIx_c, uIx_s, uLen_c, uLen_r, uLen_t, uLen_s, uMin_i, uMin_r, uMax_i, uMax_r, uInt_b, uInt_i, uInt_s, uList_r, uList_t, uIsi_n, uIsi_b, uIsi_i, uIsi_s, uIsi_t, uIsi_c, uSl_c, uSl_r, uSl_s, iOf_r, iOf_c, isNon_n, isNon_i, isNon_s, isNon_b, isNon_t, isNon_r, flat_s, flat_i, flat_b, flat_n, weq_ss, weq_ii, weq_ni, weq_in, weq_nn, kb_bb, kb_bi, kb_bs, kb_bl, kb_bt, kb_ib, kb_ii, kb_is, kb_il, kb_it, kb_sb, kb_si, kb_ss, kb_sl, kb_st, kb_lb, kb_li, kb_ls, kb_ll, kb_lt, kb_tb, kb_ti, kb_ts, kb_tl, kb_tt, kb_nb, kb_ni, kb_ns, kb_nl, kb_nt, nth0, nth1, nth2, nth3, mVar, mC, mBin, mUn, mNil, mCons, mCB, mTest, mAnd, mOr, mNot, mIf, mAndV, mOrV, mNotV, mTup, mLst, mChain, mCall, mCallK, reord, mYes, sNext, sSeq, sDrop, sRet, sRetN, sIf, sNever, sBreak, sCont, sAsg, sPar, sAug, sStore, gSet, gsNil, gsCons, gTupW, gStarW, qI2, qI, qNeg, qAbs, qStrI, iLst, iRgn, iRg2, iEnu, iTpl, mDT, mBM, mBM0, mSl, oNone, oSome, sMatch, mGo, mDNew, mDisp_eq, mPairs, EndsD, EndsW.turn, Rho.put, Rho.wipe, Rho.del, rho0, sp1_iff, sp2_iff, sp3_iff, sp4_iff, win, List.filterMap_cons, List.filterMap_nil, List.cons_append, List.nil_append, List.length_cons, List.length_nil, List.all_cons, List.all_nil, List.any_cons, List.any_nil, List.getElem?_cons_zero, List.getElem?_cons_succ, List.getElem?_nil, List.set_cons_zero, List.set_cons_succ, reduceIte, reduceCtorEq, Nat.reduceEqDiff, Nat.reduceAdd, Nat.reduceSub, Nat.reduceMul, Nat.reduceLeDiff, Int.reduceToNat, Int.cast_ofNat_Int, Int.natCast_zero, Int.natCast_one, Int.reduceLE, Int.reduceLT, Int.reduceNeg, Int.reduceAdd, Int.reduceSub, Int.reducePow, Int.reduceEq, Int.reduceNe, Int.toNat_zero, Int.toNat_one, Int.ofNat_eq_natCast, Nat.reducePow, Nat.le_refl, ge_iff_le, gt_iff_lt, List.mem_cons, List.not_mem_nil, or_false, false_or, or_true, true_or, Option.some.injEq, exists_eq_left', exists_eq_left, exists_eq', exists_eq, exists_and_left, exists_and_right, and_assoc, true_and, and_true, false_and, and_false, exists_false, exists_const, not_true_eq_false, not_false_eq_true, W.int.injEq, W.bl.injEq, W.str.injEq, W.ref.injEq, W.tup.injEq, List.cons.injEq, Bool.true_eq_false, Bool.false_eq_true, decide_eq_true_eq, decide_eq_false_iff_not, Bool.not_eq_true', Bool.not_eq_false', Bool.not_true, Bool.not_false, forall_const, true_implies, false_implies, implies_true, imp_self, decide_true, decide_false, Bool.and_true, Bool.true_and, Bool.and_false, Bool.false_and, Bool.or_false, Bool.or_true, Bool.false_or, Bool.true_or, beq_self_eq_true, pw_2_61, pw_10_18, pw_10_30, pw_10_29, pw_10_28, pw_10_40, pw_10_6, pw_10_9, lg_128, eq_self_iff_true, ne_eq, Int.not_lt, Int.not_le, Nat.not_lt, Nat.not_le, BEq.rfl]) | (refine ⟨_, (by first | exact lsAt_i | assumption), ?_⟩) | (refine ⟨mty_l, ?_⟩) | (refine ⟨mty_s, ?_⟩) | (refine ⟨_, ty_l (by first | exact lsAt_i | assumption), ?_⟩)))
      have hc3 : (cnt + 1 + 3).natAbs < 2 ^ 31 := by omega
      refine ⟨powA (by decide) hc3 (by decide), mul64 (by omega) (by omega), ?_⟩
      (repeat (first | (simp only [h0, h1, Int.zero_add, qIsN_n, qNotN_n, uIsi_r, nm_home, nm_fin, home_nm, fin_nm, sne_down_up, sne_down_right, sne_down_left, sne_down_home, sne_down_end, sne_up_down, sne_up_right, sne_up_left, sne_up_home, sne_up_end, sne_right_down, sne_right_up, sne_right_left, sne_right_home, sne_right_end, sne_left_down, sne_left_up, sne_left_right, sne_left_home, sne_left_end, sne_home_down, sne_home_up, sne_home_right, sne_home_left, sne_home_end, sne_end_down, sne_end_up, sne_end_right, sne_end_left, sne_end_home, sFor_eq, mLc_eq, uAdd_i, uAdd_s, uAdd_l, uMul_i, uMul_l, uEq_ii, uEq_ss, uEq_bb, uEq_nn, uEq_ni, uEq_in, uEq_ns, uEq_sn, uEq_is, uEq_si, uEq_rr, uEq_tt, uEq_rt, uEq_tr, uEq_tn, uEq_nt, uNe_ii, uNe_ss, uNe_bb, uNe_nn, uNe_ni, uNe_in, uNe_ns, uNe_sn, uNe_is, uNe_si, uNe_rr, uNe_tt, uNe_rt, uNe_tr, uNe_tn, uNe_nt, uIn_t, uIn_r, uIx_t, uIx_r, uIx_c, uIx_s, uLen_c, uLen_r, uLen_t, uLen_s, uMin_i, uMin_r, uMax_i, uMax_r, uInt_b, uInt_i, uInt_s, uList_r, uList_t, uIsi_n, uIsi_b, uIsi_i, uIsi_s, uIsi_t, uIsi_c, uSl_c, uSl_r, uSl_s, iOf_r, iOf_c, isNon_n, isNon_i, isNon_s, isNon_b, isNon_t, isNon_r, flat_s, flat_i, flat_b, flat_n, weq_ss, weq_ii, weq_ni, weq_in, weq_nn, kb_bb, kb_bi, kb_bs, kb_bl, kb_bt, kb_ib, kb_ii, kb_is, kb_il, kb_it, kb_sb, kb_si, kb_ss, kb_sl, kb_st, kb_lb, kb_li, kb_ls, kb_ll, kb_lt, kb_tb, kb_ti, kb_ts, kb_tl, kb_tt, kb_nb, kb_ni, kb_ns, kb_nl, kb_nt, nth0, nth1, nth2, nth3, mVar, mC, mBin, mUn, mNil, mCons, mCB, mTest, mAnd, mOr, mNot, mIf, mAndV, mOrV, mNotV, mTup, mLst, mChain, mCall, mCallK, reord, mYes, sNext, sSeq, sDrop, sRet, sRetN, sIf, sNever, sBreak, sCont, sAsg, sPar, sAug, sStore, gSet, gsNil, gsCons, gTupW, gStarW, qI2, qI, qNeg, qAbs, qStrI, iLst, iRgn, iRg2, iEnu, iTpl, mDT, mBM, mBM0, mSl, oNone, oSome, sMatch, mGo, mDNew, mDisp_eq, mPairs, EndsD, EndsW.turn, Rho.put, Rho.wipe, Rho.del, rho0, sp1_iff, sp2_iff, sp3_iff, sp4_iff, win, List.filterMap_cons, List.filterMap_nil, List.cons_append, List.nil_append, List.length_cons, List.length_nil, List.all_cons, List.all_nil, List.any_cons, List.any_nil, List.getElem?_cons_zero, List.getElem?_cons_succ, List.getElem?_nil, List.set_cons_zero, List.set_cons_succ, reduceIte, reduceCtorEq, Nat.reduceEqDiff, Nat.reduceAdd, Nat.reduceSub, Nat.reduceMul, Nat.reduceLeDiff, Int.reduceToNat, Int.cast_ofNat_Int, Int.natCast_zero, Int.natCast_one, Int.reduceLE, Int.reduceLT, Int.reduceNeg, Int.reduceAdd, Int.reduceSub, Int.reducePow, Int.reduceEq, Int.reduceNe, Int.toNat_zero, Int.toNat_one, Int.ofNat_eq_natCast, Nat.reducePow, Nat.le_refl, ge_iff_le, gt_iff_lt, List.mem_cons, List.not_mem_nil, or_false, false_or, or_true, true_or, Option.some.injEq, exists_eq_left', exists_eq_left, exists_eq', exists_eq, exists_and_left, exists_and_right, and_assoc, true_and, and_true, false_and, and_false, exists_false, exists_const, not_true_eq_false, not_false_eq_true, W.int.injEq, W.bl.injEq, W.str.injEq, W.ref.injEq, W.tup.injEq, List.cons.injEq, Bool.true_eq_false, Bool.false_eq_true, decide_eq_true_eq, decide_eq_false_iff_not, Bool.not_eq_true', Bool.not_eq_false', Bool.not_true, Bool.not_false, forall_const, true_implies, false_implies, implies_true, imp_self, decide_true, decide_false, Bool.and_true, Bool.true_and, Bool.and_false, Bool.false_and, Bool.or_false, Bool.or_true, Bool.false_or, Bool.true_or, beq_self_eq_true, pw_2_61, pw_10_18, pw_10_30, pw_10_29, pw_10_28, pw_10_40, pw_10_6, pw_10_9, lg_128, eq_self_iff_true, ne_eq, Int.not_lt, Int.not_le, Nat.not_lt, Nat.not_le, BEq.rfl]) | (refine ⟨_, (by first | exact lsAt_i | assumption), ?_⟩) | (refine ⟨mty_l, ?_⟩) | (refine ⟨mty_s, ?_⟩) | (refine ⟨_, ty_l (by first | exact lsAt_i | assumption), ?_⟩)))
      refine ⟨mul64 (by omega) (by omega), ?_⟩
      have hp := Int.emod_nonneg ((mix + 7) * (cnt + 1 + 3) ^ 3 + 1000081 * (cnt + 1)) (b := 2305843009213693951) (by decide)
      have hl := Int.emod_lt_of_pos ((mix + 7) * (cnt + 1 + 3) ^ 3 + 1000081 * (cnt + 1)) (b := 2305843009213693951) (by decide)
      refine ⟨powA (by decide) (n := 61) (by omega) (by decide), hm, ?_⟩
      exact ⟨_, .here, k _ ⟨p, digs, cur, mix, cnt + 1⟩ (Int.emod_nonneg _ (by omega)) (Int.emod_lt_of_pos _ hm) ⟨by show 0 ≤ cnt + 1; omega, by show cnt + 1 ≤ ((N + 1 : Nat) : Int); omega, m0, m1⟩⟩
  · rintro m ρ C ⟨⟨p, digs, cur, mix, cnt⟩, ⟨h0, h1, ok, hl, rfl⟩⟩ N2 hN2
    (repeat (first | (simp only [h0, h1, SrcS.at_, Int.zero_add, qIsN_n, qNotN_n, uIsi_r, nm_home, nm_fin, home_nm, fin_nm, sne_down_up, sne_down_right, sne_down_left, sne_down_home, sne_down_end, sne_up_down, sne_up_right, sne_up_left, sne_up_home, sne_up_end, sne_right_down, sne_right_up, sne_right_left, sne_right_home, sne_right_end, sne_left_down, sne_left_up, sne_left_right, sne_left_home, sne_left_end, sne_home_down, sne_home_up, sne_home_right, sne_home_left, sne_home_end, sne_end_down, sne_end_up, sne_end_right, sne_end_left, sne_end_home, sFor_eq, mLc_eq, uAdd_i, uAdd_s, uAdd_l, uMul_i, uMul_l, uEq_ii, uEq_ss, uEq_bb, uEq_nn, uEq_ni, uEq_in, uEq_ns, uEq_sn, uEq_is, uEq_si, uEq_rr, uEq_tt, uEq_rt, uEq_tr, uEq_tn, uEq_nt, uNe_ii, uNe_ss, uNe_bb, uNe_nn, uNe_ni, uNe_in, uNe_ns, uNe_sn, uNe_is, uNe_si, uNe_rr, uNe_tt, uNe_rt, uNe_tr, uNe_tn, uNe_nt, uIn_t, uIn_r, uIx_t, uIx_r, uIx_c, uIx_s, uLen_c, uLen_r, uLen_t, uLen_s, uMin_i, uMin_r, uMax_i, uMax_r, uInt_b, uInt_i, uInt_s, uList_r, uList_t, uIsi_n, uIsi_b, uIsi_i, uIsi_s, uIsi_t, uIsi_c, uSl_c, uSl_r, uSl_s, iOf_r, iOf_c, isNon_n, isNon_i, isNon_s, isNon_b, isNon_t, isNon_r, flat_s, flat_i, flat_b, flat_n, weq_ss, weq_ii, weq_ni, weq_in, weq_nn, kb_bb, kb_bi, kb_bs, kb_bl, kb_bt, kb_ib, kb_ii, kb_is, kb_il, kb_it, kb_sb, kb_si, kb_ss, kb_sl, kb_st, kb_lb, kb_li, kb_ls, kb_ll, kb_lt, kb_tb, kb_ti, kb_ts, kb_tl, kb_tt, kb_nb, kb_ni, kb_ns, kb_nl, kb_nt, nth0, nth1, nth2, nth3, mVar, mC, mBin, mUn, mNil, mCons, mCB, mTest, mAnd, mOr, mNot, mIf, mAndV, mOrV, mNotV, mTup, mLst, mChain, mCall, mCallK, reord, mYes, sNext, sSeq, sDrop, sRet, sRetN, sIf, sNever, sBreak, sCont, sAsg, sPar, sAug, sStore, gSet, gsNil, gsCons, gTupW, gStarW, qI2, qI, qNeg, qAbs, qStrI, iLst, iRgn, iRg2, iEnu, iTpl, mDT, mBM, mBM0, mSl, oNone, oSome, sMatch, mGo, mDNew, mDisp_eq, mPairs, EndsD, EndsW.turn, Rho.put, Rho.wipe, Rho.del, rho0, sp1_iff, sp2_iff, sp3_iff, sp4_iff, win, List.filterMap_cons, List.filterMap_nil, List.cons_append, List.nil_append, List.length_cons, List.length_nil, List.all_cons, List.all_nil, List.any_cons, List.any_nil, List.getElem?_cons_zero, List.getElem?_cons_succ, List.getElem?_nil, List.set_cons_zero, List.set_cons_succ, reduceIte, reduceCtorEq, Nat.reduceEqDiff, Nat.reduceAdd, Nat.reduceSub, Nat.reduceMul, Nat.reduceLeDiff, Int.reduceToNat, Int.cast_ofNat_Int, Int.natCast_zero, Int.natCast_one, Int.reduceLE, Int.reduceLT, Int.reduceNeg, Int.reduceAdd, Int.reduceSub, Int.reducePow, Int.reduceEq, Int.reduceNe, Int.toNat_zero, Int.toNat_one, Int.ofNat_eq_natCast, Nat.reducePow, Nat.le_refl, ge_iff_le, gt_iff_lt, List.mem_cons, List.not_mem_nil, or_false, false_or, or_true, true_or, Option.some.injEq, exists_eq_left', exists_eq_left, exists_eq', exists_eq, exists_and_left, exists_and_right, and_assoc, true_and, and_true, false_and, and_false, exists_false, exists_const, not_true_eq_false, not_false_eq_true, W.int.injEq, W.bl.injEq, W.str.injEq, W.ref.injEq, W.tup.injEq, List.cons.injEq, Bool.true_eq_false, Bool.false_eq_true, decide_eq_true_eq, decide_eq_false_iff_not, Bool.not_eq_true', Bool.not_eq_false', Bool.not_true, Bool.not_false, forall_const, true_implies, false_implies, implies_true, imp_self, decide_true, decide_false, Bool.and_true, Bool.true_and, Bool.and_false, Bool.false_and, Bool.or_false, Bool.or_true, Bool.false_or, Bool.true_or, beq_self_eq_true, pw_2_61, pw_10_18, pw_10_30, pw_10_29, pw_10_28, pw_10_40, pw_10_6, pw_10_9, lg_128, eq_self_iff_true, ne_eq, Int.not_lt, Int.not_le, Nat.not_lt, Nat.not_le, BEq.rfl]) | (refine ⟨_, (by first | exact lsAt_i | assumption), ?_⟩) | (refine ⟨mty_l, ?_⟩) | (refine ⟨mty_s, ?_⟩) | (refine ⟨_, ty_l (by first | exact lsAt_i | assumption), ?_⟩)))
    refine ⟨fun hc => ?_, fun hc => ⟨_, .here, hN2 _ _ ⟨⟨p, digs, cur, mix, cnt⟩, h0, h1, ok, Nat.le_refl _, rfl⟩⟩⟩
    (repeat (first | (simp only [h0, h1, Int.zero_add, qIsN_n, qNotN_n, uIsi_r, nm_home, nm_fin, home_nm, fin_nm, sne_down_up, sne_down_right, sne_down_left, sne_down_home, sne_down_end, sne_up_down, sne_up_right, sne_up_left, sne_up_home, sne_up_end, sne_right_down, sne_right_up, sne_right_left, sne_right_home, sne_right_end, sne_left_down, sne_left_up, sne_left_right, sne_left_home, sne_left_end, sne_home_down, sne_home_up, sne_home_right, sne_home_left, sne_home_end, sne_end_down, sne_end_up, sne_end_right, sne_end_left, sne_end_home, sFor_eq, mLc_eq, uAdd_i, uAdd_s, uAdd_l, uMul_i, uMul_l, uEq_ii, uEq_ss, uEq_bb, uEq_nn, uEq_ni, uEq_in, uEq_ns, uEq_sn, uEq_is, uEq_si, uEq_rr, uEq_tt, uEq_rt, uEq_tr, uEq_tn, uEq_nt, uNe_ii, uNe_ss, uNe_bb, uNe_nn, uNe_ni, uNe_in, uNe_ns, uNe_sn, uNe_is, uNe_si, uNe_rr, uNe_tt, uNe_rt, uNe_tr, uNe_tn, uNe_nt, uIn_t, uIn_r, uIx_t, uIx_r, uIx_c, uIx_s, uLen_c, uLen_r, uLen_t, uLen_s, uMin_i, uMin_r, uMax_i, uMax_r, uInt_b, uInt_i, uInt_s, uList_r, uList_t, uIsi_n, uIsi_b, uIsi_i, uIsi_s, uIsi_t, uIsi_c, uSl_c, uSl_r, uSl_s, iOf_r, iOf_c, isNon_n, isNon_i, isNon_s, isNon_b, isNon_t, isNon_r, flat_s, flat_i, flat_b, flat_n, weq_ss, weq_ii, weq_ni, weq_in, weq_nn, kb_bb, kb_bi, kb_bs, kb_bl, kb_bt, kb_ib, kb_ii, kb_is, kb_il, kb_it, kb_sb, kb_si, kb_ss, kb_sl, kb_st, kb_lb, kb_li, kb_ls, kb_ll, kb_lt, kb_tb, kb_ti, kb_ts, kb_tl, kb_tt, kb_nb, kb_ni, kb_ns, kb_nl, kb_nt, nth0, nth1, nth2, nth3, mVar, mC, mBin, mUn, mNil, mCons, mCB, mTest, mAnd, mOr, mNot, mIf, mAndV, mOrV, mNotV, mTup, mLst, mChain, mCall, mCallK, reord, mYes, sNext, sSeq, sDrop, sRet, sRetN, sIf, sNever, sBreak, sCont, sAsg, sPar, sAug, sStore, gSet, gsNil, gsCons, gTupW, gStarW, qI2, qI, qNeg, qAbs, qStrI, iLst, iRgn, iRg2, iEnu, iTpl, mDT, mBM, mBM0, mSl, oNone, oSome, sMatch, mGo, mDNew, mDisp_eq, mPairs, EndsD, EndsW.turn, Rho.put, Rho.wipe, Rho.del, rho0, sp1_iff, sp2_iff, sp3_iff, sp4_iff, win, List.filterMap_cons, List.filterMap_nil, List.cons_append, List.nil_append, List.length_cons, List.length_nil, List.all_cons, List.all_nil, List.any_cons, List.any_nil, List.getElem?_cons_zero, List.getElem?_cons_succ, List.getElem?_nil, List.set_cons_zero, List.set_cons_succ, reduceIte, reduceCtorEq, Nat.reduceEqDiff, Nat.reduceAdd, Nat.reduceSub, Nat.reduceMul, Nat.reduceLeDiff, Int.reduceToNat, Int.cast_ofNat_Int, Int.natCast_zero, Int.natCast_one, Int.reduceLE, Int.reduceLT, Int.reduceNeg, Int.reduceAdd, Int.reduceSub, Int.reducePow, Int.reduceEq, Int.reduceNe, Int.toNat_zero, Int.toNat_one, Int.ofNat_eq_natCast, Nat.reducePow, Nat.le_refl, ge_iff_le, gt_iff_lt, List.mem_cons, List.not_mem_nil, or_false, false_or, or_true, true_or, Option.some.injEq, exists_eq_left', exists_eq_left, exists_eq', exists_eq, exists_and_left, exists_and_right, and_assoc, true_and, and_true, false_and, and_false, exists_false, exists_const, not_true_eq_false, not_false_eq_true, W.int.injEq, W.bl.injEq, W.str.injEq, W.ref.injEq, W.tup.injEq, List.cons.injEq, Bool.true_eq_false, Bool.false_eq_true, decide_eq_true_eq, decide_eq_false_iff_not, Bool.not_eq_true', Bool.not_eq_false', Bool.not_true, Bool.not_false, forall_const, true_implies, false_implies, implies_true, imp_self, decide_true, decide_false, Bool.and_true, Bool.true_and, Bool.and_false, Bool.false_and, Bool.or_false, Bool.or_true, Bool.false_or, Bool.true_or, beq_self_eq_true, pw_2_61, pw_10_18, pw_10_30, pw_10_29, pw_10_28, pw_10_40, pw_10_6, pw_10_9, lg_128, eq_self_iff_true, ne_eq, Int.not_lt, Int.not_le, Nat.not_lt, Nat.not_le, BEq.rfl]) | (refine ⟨_, (by first | exact lsAt_i | assumption), ?_⟩) | (refine ⟨mty_l, ?_⟩) | (refine ⟨mty_s, ?_⟩) | (refine ⟨_, ty_l (by first | exact lsAt_i | assumption), ?_⟩)))
    intro p1
    (repeat (first | (simp only [h0, h1, Int.zero_add, qIsN_n, qNotN_n, uIsi_r, nm_home, nm_fin, home_nm, fin_nm, sne_down_up, sne_down_right, sne_down_left, sne_down_home, sne_down_end, sne_up_down, sne_up_right, sne_up_left, sne_up_home, sne_up_end, sne_right_down, sne_right_up, sne_right_left, sne_right_home, sne_right_end, sne_left_down, sne_left_up, sne_left_right, sne_left_home, sne_left_end, sne_home_down, sne_home_up, sne_home_right, sne_home_left, sne_home_end, sne_end_down, sne_end_up, sne_end_right, sne_end_left, sne_end_home, sFor_eq, mLc_eq, uAdd_i, uAdd_s, uAdd_l, uMul_i, uMul_l, uEq_ii, uEq_ss, uEq_bb, uEq_nn, uEq_ni, uEq_in, uEq_ns, uEq_sn, uEq_is, uEq_si, uEq_rr, uEq_tt, uEq_rt, uEq_tr, uEq_tn, uEq_nt, uNe_ii, uNe_ss, uNe_bb, uNe_nn, uNe_ni, uNe_in, uNe_ns, uNe_sn, uNe_is, uNe_si, uNe_rr, uNe_tt, uNe_rt, uNe_tr, uNe_tn, uNe_nt, uIn_t, uIn_r, uIx_t, uIx_r, uIx_c, uIx_s, uLen_c, uLen_r, uLen_t, uLen_s, uMin_i, uMin_r, uMax_i, uMax_r, uInt_b, uInt_i, uInt_s, uList_r, uList_t, uIsi_n, uIsi_b, uIsi_i, uIsi_s, uIsi_t, uIsi_c, uSl_c, uSl_r, uSl_s, iOf_r, iOf_c, isNon_n, isNon_i, isNon_s, isNon_b, isNon_t, isNon_r, flat_s, flat_i, flat_b, flat_n, weq_ss, weq_ii, weq_ni, weq_in, weq_nn, kb_bb, kb_bi, kb_bs, kb_bl, kb_bt, kb_ib, kb_ii, kb_is, kb_il, kb_it, kb_sb, kb_si, kb_ss, kb_sl, kb_st, kb_lb, kb_li, kb_ls, kb_ll, kb_lt, kb_tb, kb_ti, kb_ts, kb_tl, kb_tt, kb_nb, kb_ni, kb_ns, kb_nl, kb_nt, nth0, nth1, nth2, nth3, mVar, mC, mBin, mUn, mNil, mCons, mCB, mTest, mAnd, mOr, mNot, mIf, mAndV, mOrV, mNotV, mTup, mLst, mChain, mCall, mCallK, reord, mYes, sNext, sSeq, sDrop, sRet, sRetN, sIf, sNever, sBreak, sCont, sAsg, sPar, sAug, sStore, gSet, gsNil, gsCons, gTupW, gStarW, qI2, qI, qNeg, qAbs, qStrI, iLst, iRgn, iRg2, iEnu, iTpl, mDT, mBM, mBM0, mSl, oNone, oSome, sMatch, mGo, mDNew, mDisp_eq, mPairs, EndsD, EndsW.turn, Rho.put, Rho.wipe, Rho.del, rho0, sp1_iff, sp2_iff, sp3_iff, sp4_iff, win, List.filterMap_cons, List.filterMap_nil, List.cons_append, List.nil_append, List.length_cons, List.length_nil, List.all_cons, List.all_nil, List.any_cons, List.any_nil, List.getElem?_cons_zero, List.getElem?_cons_succ, List.getElem?_nil, List.set_cons_zero, List.set_cons_succ, reduceIte, reduceCtorEq, Nat.reduceEqDiff, Nat.reduceAdd, Nat.reduceSub, Nat.reduceMul, Nat.reduceLeDiff, Int.reduceToNat, Int.cast_ofNat_Int, Int.natCast_zero, Int.natCast_one, Int.reduceLE, Int.reduceLT, Int.reduceNeg, Int.reduceAdd, Int.reduceSub, Int.reducePow, Int.reduceEq, Int.reduceNe, Int.toNat_zero, Int.toNat_one, Int.ofNat_eq_natCast, Nat.reducePow, Nat.le_refl, ge_iff_le, gt_iff_lt, List.mem_cons, List.not_mem_nil, or_false, false_or, or_true, true_or, Option.some.injEq, exists_eq_left', exists_eq_left, exists_eq', exists_eq, exists_and_left, exists_and_right, and_assoc, true_and, and_true, false_and, and_false, exists_false, exists_const, not_true_eq_false, not_false_eq_true, W.int.injEq, W.bl.injEq, W.str.injEq, W.ref.injEq, W.tup.injEq, List.cons.injEq, Bool.true_eq_false, Bool.false_eq_true, decide_eq_true_eq, decide_eq_false_iff_not, Bool.not_eq_true', Bool.not_eq_false', Bool.not_true, Bool.not_false, forall_const, true_implies, false_implies, implies_true, imp_self, decide_true, decide_false, Bool.and_true, Bool.true_and, Bool.and_false, Bool.false_and, Bool.or_false, Bool.or_true, Bool.false_or, Bool.true_or, beq_self_eq_true, pw_2_61, pw_10_18, pw_10_30, pw_10_29, pw_10_28, pw_10_40, pw_10_6, pw_10_9, lg_128, eq_self_iff_true, ne_eq, Int.not_lt, Int.not_le, Nat.not_lt, Nat.not_le, BEq.rfl]) | (refine ⟨_, (by first | exact lsAt_i | assumption), ?_⟩) | (refine ⟨mty_l, ?_⟩) | (refine ⟨mty_s, ?_⟩) | (refine ⟨_, ty_l (by first | exact lsAt_i | assumption), ?_⟩)))
    refine neL_i (n := 0) (by decide) lsAt_i lsAt_i dok_ints (fun w hw => (nomatch hw)) fun b hb => ?_
    (repeat (first | (simp only [h0, h1, Int.zero_add, qIsN_n, qNotN_n, uIsi_r, nm_home, nm_fin, home_nm, fin_nm, sne_down_up, sne_down_right, sne_down_left, sne_down_home, sne_down_end, sne_up_down, sne_up_right, sne_up_left, sne_up_home, sne_up_end, sne_right_down, sne_right_up, sne_right_left, sne_right_home, sne_right_end, sne_left_down, sne_left_up, sne_left_right, sne_left_home, sne_left_end, sne_home_down, sne_home_up, sne_home_right, sne_home_left, sne_home_end, sne_end_down, sne_end_up, sne_end_right, sne_end_left, sne_end_home, sFor_eq, mLc_eq, uAdd_i, uAdd_s, uAdd_l, uMul_i, uMul_l, uEq_ii, uEq_ss, uEq_bb, uEq_nn, uEq_ni, uEq_in, uEq_ns, uEq_sn, uEq_is, uEq_si, uEq_rr, uEq_tt, uEq_rt, uEq_tr, uEq_tn, uEq_nt, uNe_ii, uNe_ss, uNe_bb, uNe_nn, uNe_ni, uNe_in, uNe_ns, uNe_sn, uNe_is, uNe_si, uNe_rr, uNe_tt, uNe_rt, uNe_tr, uNe_tn, uNe_nt, uIn_t, uIn_r, uIx_t, uIx_r, uIx_c, uIx_s, uLen_c, uLen_r, uLen_t, uLen_s, uMin_i, uMin_r, uMax_i, uMax_r, uInt_b, uInt_i, uInt_s, uList_r, uList_t, uIsi_n, uIsi_b, uIsi_i, uIsi_s, uIsi_t, uIsi_c, uSl_c, uSl_r, uSl_s, iOf_r, iOf_c, isNon_n, isNon_i, isNon_s, isNon_b, isNon_t, isNon_r, flat_s, flat_i, flat_b, flat_n, weq_ss, weq_ii, weq_ni, weq_in, weq_nn, kb_bb, kb_bi, kb_bs, kb_bl, kb_bt, kb_ib, kb_ii, kb_is, kb_il, kb_it, kb_sb, kb_si, kb_ss, kb_sl, kb_st, kb_lb, kb_li, kb_ls, kb_ll, kb_lt, kb_tb, kb_ti, kb_ts, kb_tl, kb_tt, kb_nb, kb_ni, kb_ns, kb_nl, kb_nt, nth0, nth1, nth2, nth3, mVar, mC, mBin, mUn, mNil, mCons, mCB, mTest, mAnd, mOr, mNot, mIf, mAndV, mOrV, mNotV, mTup, mLst, mChain, mCall, mCallK, reord, mYes, sNext, sSeq, sDrop, sRet, sRetN, sIf, sNever, sBreak, sCont, sAsg, sPar, sAug, sStore, gSet, gsNil, gsCons, gTupW, gStarW, qI2, qI, qNeg, qAbs, qStrI, iLst, iRgn, iRg2, iEnu, iTpl, mDT, mBM, mBM0, mSl, oNone, oSome, sMatch, mGo, mDNew, mDisp_eq, mPairs, EndsD, EndsW.turn, Rho.put, Rho.wipe, Rho.del, rho0, sp1_iff, sp2_iff, sp3_iff, sp4_iff, win, List.filterMap_cons, List.filterMap_nil, List.cons_append, List.nil_append, List.length_cons, List.length_nil, List.all_cons, List.all_nil, List.any_cons, List.any_nil, List.getElem?_cons_zero, List.getElem?_cons_succ, List.getElem?_nil, List.set_cons_zero, List.set_cons_succ, reduceIte, reduceCtorEq, Nat.reduceEqDiff, Nat.reduceAdd, Nat.reduceSub, Nat.reduceMul, Nat.reduceLeDiff, Int.reduceToNat, Int.cast_ofNat_Int, Int.natCast_zero, Int.natCast_one, Int.reduceLE, Int.reduceLT, Int.reduceNeg, Int.reduceAdd, Int.reduceSub, Int.reducePow, Int.reduceEq, Int.reduceNe, Int.toNat_zero, Int.toNat_one, Int.ofNat_eq_natCast, Nat.reducePow, Nat.le_refl, ge_iff_le, gt_iff_lt, List.mem_cons, List.not_mem_nil, or_false, false_or, or_true, true_or, Option.some.injEq, exists_eq_left', exists_eq_left, exists_eq', exists_eq, exists_and_left, exists_and_right, and_assoc, true_and, and_true, false_and, and_false, exists_false, exists_const, not_true_eq_false, not_false_eq_true, W.int.injEq, W.bl.injEq, W.str.injEq, W.ref.injEq, W.tup.injEq, List.cons.injEq, Bool.true_eq_false, Bool.false_eq_true, decide_eq_true_eq, decide_eq_false_iff_not, Bool.not_eq_true', Bool.not_eq_false', Bool.not_true, Bool.not_false, forall_const, true_implies, false_implies, implies_true, imp_self, decide_true, decide_false, Bool.and_true, Bool.true_and, Bool.and_false, Bool.false_and, Bool.or_false, Bool.or_true, Bool.false_or, Bool.true_or, beq_self_eq_true, pw_2_61, pw_10_18, pw_10_30, pw_10_29, pw_10_28, pw_10_40, pw_10_6, pw_10_9, lg_128, eq_self_iff_true, ne_eq, Int.not_lt, Int.not_le, Nat.not_lt, Nat.not_le, BEq.rfl]) | (refine ⟨_, (by first | exact lsAt_i | assumption), ?_⟩) | (refine ⟨mty_l, ?_⟩) | (refine ⟨mty_s, ?_⟩) | (refine ⟨_, ty_l (by first | exact lsAt_i | assumption), ?_⟩)))
    refine ⟨fun e => ?_, fun e => ?_⟩
    · cases digs with
      | nil => exact absurd rfl (hb.mp e)
      | cons d digs =>
        (repeat (first | (simp only [h0, h1, Int.zero_add, qIsN_n, qNotN_n, uIsi_r, nm_home, nm_fin, home_nm, fin_nm, sne_down_up, sne_down_right, sne_down_left, sne_down_home, sne_down_end, sne_up_down, sne_up_right, sne_up_left, sne_up_home, sne_up_end, sne_right_down, sne_right_up, sne_right_left, sne_right_home, sne_right_end, sne_left_down, sne_left_up, sne_left_right, sne_left_home, sne_left_end, sne_home_down, sne_home_up, sne_home_right, sne_home_left, sne_home_end, sne_end_down, sne_end_up, sne_end_right, sne_end_left, sne_end_home, sFor_eq, mLc_eq, uAdd_i, uAdd_s, uAdd_l, uMul_i, uMul_l, uEq_ii, uEq_ss, uEq_bb, uEq_nn, uEq_ni, uEq_in, uEq_ns, uEq_sn, uEq_is, uEq_si, uEq_rr, uEq_tt, uEq_rt, uEq_tr, uEq_tn, uEq_nt, uNe_ii, uNe_ss, uNe_bb, uNe_nn, uNe_ni, uNe_in, uNe_ns, uNe_sn, uNe_is, uNe_si, uNe_rr, uNe_tt, uNe_rt, uNe_tr, uNe_tn, uNe_nt, uIn_t, uIn_r, uIx_t, uIx_r, uIx_c, uIx_s, uLen_c, uLen_r, uLen_t, uLen_s, uMin_i, uMin_r, uMax_i, uMax_r, uInt_b, uInt_i, uInt_s, uList_r, uList_t, uIsi_n, uIsi_b, uIsi_i, uIsi_s, uIsi_t, uIsi_c, uSl_c, uSl_r, uSl_s, iOf_r, iOf_c, isNon_n, isNon_i, isNon_s, isNon_b, isNon_t, isNon_r, flat_s, flat_i, flat_b, flat_n, weq_ss, weq_ii, weq_ni, weq_in, weq_nn, kb_bb, kb_bi, kb_bs, kb_bl, kb_bt, kb_ib, kb_ii, kb_is, kb_il, kb_it, kb_sb, kb_si, kb_ss, kb_sl, kb_st, kb_lb, kb_li, kb_ls, kb_ll, kb_lt, kb_tb, kb_ti, kb_ts, kb_tl, kb_tt, kb_nb, kb_ni, kb_ns, kb_nl, kb_nt, nth0, nth1, nth2, nth3, mVar, mC, mBin, mUn, mNil, mCons, mCB, mTest, mAnd, mOr, mNot, mIf, mAndV, mOrV, mNotV, mTup, mLst, mChain, mCall, mCallK, reord, mYes, sNext, sSeq, sDrop, sRet, sRetN, sIf, sNever, sBreak, sCont, sAsg, sPar, sAug, sStore, gSet, gsNil, gsCons, gTupW, gStarW, qI2, qI, qNeg, qAbs, qStrI, iLst, iRgn, iRg2, iEnu, iTpl, mDT, mBM, mBM0, mSl, oNone, oSome, sMatch, mGo, mDNew, mDisp_eq, mPairs, EndsD, EndsW.turn, Rho.put, Rho.wipe, Rho.del, rho0, sp1_iff, sp2_iff, sp3_iff, sp4_iff, win, List.filterMap_cons, List.filterMap_nil, List.cons_append, List.nil_append, List.length_cons, List.length_nil, List.all_cons, List.all_nil, List.any_cons, List.any_nil, List.getElem?_cons_zero, List.getElem?_cons_succ, List.getElem?_nil, List.set_cons_zero, List.set_cons_succ, reduceIte, reduceCtorEq, Nat.reduceEqDiff, Nat.reduceAdd, Nat.reduceSub, Nat.reduceMul, Nat.reduceLeDiff, Int.reduceToNat, Int.cast_ofNat_Int, Int.natCast_zero, Int.natCast_one, Int.reduceLE, Int.reduceLT, Int.reduceNeg, Int.reduceAdd, Int.reduceSub, Int.reducePow, Int.reduceEq, Int.reduceNe, Int.toNat_zero, Int.toNat_one, Int.ofNat_eq_natCast, Nat.reducePow, Nat.le_refl, ge_iff_le, gt_iff_lt, List.mem_cons, List.not_mem_nil, or_false, false_or, or_true, true_or, Option.some.injEq, exists_eq_left', exists_eq_left, exists_eq', exists_eq, exists_and_left, exists_and_right, and_assoc, true_and, and_true, false_and, and_false, exists_false, exists_const, not_true_eq_false, not_false_eq_true, W.int.injEq, W.bl.injEq, W.str.injEq, W.ref.injEq, W.tup.injEq, List.cons.injEq, Bool.true_eq_false, Bool.false_eq_true, decide_eq_true_eq, decide_eq_false_iff_not, Bool.not_eq_true', Bool.not_eq_false', Bool.not_true, Bool.not_false, forall_const, true_implies, false_implies, implies_true, imp_self, decide_true, decide_false, Bool.and_true, Bool.true_and, Bool.and_false, Bool.false_and, Bool.or_false, Bool.or_true, Bool.false_or, Bool.true_or, beq_self_eq_true, pw_2_61, pw_10_18, pw_10_30, pw_10_29, pw_10_28, pw_10_40, pw_10_6, pw_10_9, lg_128, eq_self_iff_true, ne_eq, Int.not_lt, Int.not_le, Nat.not_lt, Nat.not_le, BEq.rfl]) | (refine ⟨_, (by first | exact lsAt_i | assumption), ?_⟩) | (refine ⟨mty_l, ?_⟩) | (refine ⟨mty_s, ?_⟩) | (refine ⟨_, ty_l (by first | exact lsAt_i | assumption), ?_⟩)))
        refine mutL_i (y := .int d) (us := digs.map W.int) rfl ?_
        (repeat (first | (simp only [h0, h1, Int.zero_add, qIsN_n, qNotN_n, uIsi_r, nm_home, nm_fin, home_nm, fin_nm, sne_down_up, sne_down_right, sne_down_left, sne_down_home, sne_down_end, sne_up_down, sne_up_right, sne_up_left, sne_up_home, sne_up_end, sne_right_down, sne_right_up, sne_right_left, sne_right_home, sne_right_end, sne_left_down, sne_left_up, sne_left_right, sne_left_home, sne_left_end, sne_home_down, sne_home_up, sne_home_right, sne_home_left, sne_home_end, sne_end_down, sne_end_up, sne_end_right, sne_end_left, sne_end_home, sFor_eq, mLc_eq, uAdd_i, uAdd_s, uAdd_l, uMul_i, uMul_l, uEq_ii, uEq_ss, uEq_bb, uEq_nn, uEq_ni, uEq_in, uEq_ns, uEq_sn, uEq_is, uEq_si, uEq_rr, uEq_tt, uEq_rt, uEq_tr, uEq_tn, uEq_nt, uNe_ii, uNe_ss, uNe_bb, uNe_nn, uNe_ni, uNe_in, uNe_ns, uNe_sn, uNe_is, uNe_si, uNe_rr, uNe_tt, uNe_rt, uNe_tr, uNe_tn, uNe_nt, uIn_t, uIn_r, uIx_t, uIx_r, uIx_c, uIx_s, uLen_c, uLen_r, uLen_t, uLen_s, uMin_i, uMin_r, uMax_i, uMax_r, uInt_b, uInt_i, uInt_s, uList_r, uList_t, uIsi_n, uIsi_b, uIsi_i, uIsi_s, uIsi_t, uIsi_c, uSl_c, uSl_r, uSl_s, iOf_r, iOf_c, isNon_n, isNon_i, isNon_s, isNon_b, isNon_t, isNon_r, flat_s, flat_i, flat_b, flat_n, weq_ss, weq_ii, weq_ni, weq_in, weq_nn, kb_bb, kb_bi, kb_bs, kb_bl, kb_bt, kb_ib, kb_ii, kb_is, kb_il, kb_it, kb_sb, kb_si, kb_ss, kb_sl, kb_st, kb_lb, kb_li, kb_ls, kb_ll, kb_lt, kb_tb, kb_ti, kb_ts, kb_tl, kb_tt, kb_nb, kb_ni, kb_ns, kb_nl, kb_nt, nth0, nth1, nth2, nth3, mVar, mC, mBin, mUn, mNil, mCons, mCB, mTest, mAnd, mOr, mNot, mIf, mAndV, mOrV, mNotV, mTup, mLst, mChain, mCall, mCallK, reord, mYes, sNext, sSeq, sDrop, sRet, sRetN, sIf, sNever, sBreak, sCont, sAsg, sPar, sAug, sStore, gSet, gsNil, gsCons, gTupW, gStarW, qI2, qI, qNeg, qAbs, qStrI, iLst, iRgn, iRg2, iEnu, iTpl, mDT, mBM, mBM0, mSl, oNone, oSome, sMatch, mGo, mDNew, mDisp_eq, mPairs, EndsD, EndsW.turn, Rho.put, Rho.wipe, Rho.del, rho0, sp1_iff, sp2_iff, sp3_iff, sp4_iff, win, List.filterMap_cons, List.filterMap_nil, List.cons_append, List.nil_append, List.length_cons, List.length_nil, List.all_cons, List.all_nil, List.any_cons, List.any_nil, List.getElem?_cons_zero, List.getElem?_cons_succ, List.getElem?_nil, List.set_cons_zero, List.set_cons_succ, reduceIte, reduceCtorEq, Nat.reduceEqDiff, Nat.reduceAdd, Nat.reduceSub, Nat.reduceMul, Nat.reduceLeDiff, Int.reduceToNat, Int.cast_ofNat_Int, Int.natCast_zero, Int.natCast_one, Int.reduceLE, Int.reduceLT, Int.reduceNeg, Int.reduceAdd, Int.reduceSub, Int.reducePow, Int.reduceEq, Int.reduceNe, Int.toNat_zero, Int.toNat_one, Int.ofNat_eq_natCast, Nat.reducePow, Nat.le_refl, ge_iff_le, gt_iff_lt, List.mem_cons, List.not_mem_nil, or_false, false_or, or_true, true_or, Option.some.injEq, exists_eq_left', exists_eq_left, exists_eq', exists_eq, exists_and_left, exists_and_right, and_assoc, true_and, and_true, false_and, and_false, exists_false, exists_const, not_true_eq_false, not_false_eq_true, W.int.injEq, W.bl.injEq, W.str.injEq, W.ref.injEq, W.tup.injEq, List.cons.injEq, Bool.true_eq_false, Bool.false_eq_true, decide_eq_true_eq, decide_eq_false_iff_not, Bool.not_eq_true', Bool.not_eq_false', Bool.not_true, Bool.not_false, forall_const, true_implies, false_implies, implies_true, imp_self, decide_true, decide_false, Bool.and_true, Bool.true_and, Bool.and_false, Bool.false_and, Bool.or_false, Bool.or_true, Bool.false_or, Bool.true_or, beq_self_eq_true, pw_2_61, pw_10_18, pw_10_30, pw_10_29, pw_10_28, pw_10_40, pw_10_6, pw_10_9, lg_128, eq_self_iff_true, ne_eq, Int.not_lt, Int.not_le, Nat.not_lt, Nat.not_le, BEq.rfl]) | (refine ⟨_, (by first | exact lsAt_i | assumption), ?_⟩) | (refine ⟨mty_l, ?_⟩) | (refine ⟨mty_s, ?_⟩) | (refine ⟨_, ty_l (by first | exact lsAt_i | assumption), ?_⟩)))
        refine setL_i (by decide) (by simp) ?_
        (repeat (first | (simp only [h0, h1, Int.zero_add, qIsN_n, qNotN_n, uIsi_r, nm_home, nm_fin, home_nm, fin_nm, sne_down_up, sne_down_right, sne_down_left, sne_down_home, sne_down_end, sne_up_down, sne_up_right, sne_up_left, sne_up_home, sne_up_end, sne_right_down, sne_right_up, sne_right_left, sne_right_home, sne_right_end, sne_left_down, sne_left_up, sne_left_right, sne_left_home, sne_left_end, sne_home_down, sne_home_up, sne_home_right, sne_home_left, sne_home_end, sne_end_down, sne_end_up, sne_end_right, sne_end_left, sne_end_home, sFor_eq, mLc_eq, uAdd_i, uAdd_s, uAdd_l, uMul_i, uMul_l, uEq_ii, uEq_ss, uEq_bb, uEq_nn, uEq_ni, uEq_in, uEq_ns, uEq_sn, uEq_is, uEq_si, uEq_rr, uEq_tt, uEq_rt, uEq_tr, uEq_tn, uEq_nt, uNe_ii, uNe_ss, uNe_bb, uNe_nn, uNe_ni, uNe_in, uNe_ns, uNe_sn, uNe_is, uNe_si, uNe_rr, uNe_tt, uNe_rt, uNe_tr, uNe_tn, uNe_nt, uIn_t, uIn_r, uIx_t, uIx_r, uIx_c, uIx_s, uLen_c, uLen_r, uLen_t, uLen_s, uMin_i, uMin_r, uMax_i, uMax_r, uInt_b, uInt_i, uInt_s, uList_r, uList_t, uIsi_n, uIsi_b, uIsi_i, uIsi_s, uIsi_t, uIsi_c, uSl_c, uSl_r, uSl_s, iOf_r, iOf_c, isNon_n, isNon_i, isNon_s, isNon_b, isNon_t, isNon_r, flat_s, flat_i, flat_b, flat_n, weq_ss, weq_ii, weq_ni, weq_in, weq_nn, kb_bb, kb_bi, kb_bs, kb_bl, kb_bt, kb_ib, kb_ii, kb_is, kb_il, kb_it, kb_sb, kb_si, kb_ss, kb_sl, kb_st, kb_lb, kb_li, kb_ls, kb_ll, kb_lt, kb_tb, kb_ti, kb_ts, kb_tl, kb_tt, kb_nb, kb_ni, kb_ns, kb_nl, kb_nt, nth0, nth1, nth2, nth3, mVar, mC, mBin, mUn, mNil, mCons, mCB, mTest, mAnd, mOr, mNot, mIf, mAndV, mOrV, mNotV, mTup, mLst, mChain, mCall, mCallK, reord, mYes, sNext, sSeq, sDrop, sRet, sRetN, sIf, sNever, sBreak, sCont, sAsg, sPar, sAug, sStore, gSet, gsNil, gsCons, gTupW, gStarW, qI2, qI, qNeg, qAbs, qStrI, iLst, iRgn, iRg2, iEnu, iTpl, mDT, mBM, mBM0, mSl, oNone, oSome, sMatch, mGo, mDNew, mDisp_eq, mPairs, EndsD, EndsW.turn, Rho.put, Rho.wipe, Rho.del, rho0, sp1_iff, sp2_iff, sp3_iff, sp4_iff, win, List.filterMap_cons, List.filterMap_nil, List.cons_append, List.nil_append, List.length_cons, List.length_nil, List.all_cons, List.all_nil, List.any_cons, List.any_nil, List.getElem?_cons_zero, List.getElem?_cons_succ, List.getElem?_nil, List.set_cons_zero, List.set_cons_succ, reduceIte, reduceCtorEq, Nat.reduceEqDiff, Nat.reduceAdd, Nat.reduceSub, Nat.reduceMul, Nat.reduceLeDiff, Int.reduceToNat, Int.cast_ofNat_Int, Int.natCast_zero, Int.natCast_one, Int.reduceLE, Int.reduceLT, Int.reduceNeg, Int.reduceAdd, Int.reduceSub, Int.reducePow, Int.reduceEq, Int.reduceNe, Int.toNat_zero, Int.toNat_one, Int.ofNat_eq_natCast, Nat.reducePow, Nat.le_refl, ge_iff_le, gt_iff_lt, List.mem_cons, List.not_mem_nil, or_false, false_or, or_true, true_or, Option.some.injEq, exists_eq_left', exists_eq_left, exists_eq', exists_eq, exists_and_left, exists_and_right, and_assoc, true_and, and_true, false_and, and_false, exists_false, exists_const, not_true_eq_false, not_false_eq_true, W.int.injEq, W.bl.injEq, W.str.injEq, W.ref.injEq, W.tup.injEq, List.cons.injEq, Bool.true_eq_false, Bool.false_eq_true, decide_eq_true_eq, decide_eq_false_iff_not, Bool.not_eq_true', Bool.not_eq_false', Bool.not_true, Bool.not_false, forall_const, true_implies, false_implies, implies_true, imp_self, decide_true, decide_false, Bool.and_true, Bool.true_and, Bool.and_false, Bool.false_and, Bool.or_false, Bool.or_true, Bool.false_or, Bool.true_or, beq_self_eq_true, pw_2_61, pw_10_18, pw_10_30, pw_10_29, pw_10_28, pw_10_40, pw_10_6, pw_10_9, lg_128, eq_self_iff_true, ne_eq, Int.not_lt, Int.not_le, Nat.not_lt, Nat.not_le, BEq.rfl]) | (refine ⟨_, (by first | exact lsAt_i | assumption), ?_⟩) | (refine ⟨mty_l, ?_⟩) | (refine ⟨mty_s, ?_⟩) | (refine ⟨_, ty_l (by first | exact lsAt_i | assumption), ?_⟩)))
        exact ⟨(q, .lst [.ref p, .int d, .int mix, .int cnt]) :: (p, .lst (digs.map W.int)) :: Ds, inferInstance, digs.length, Nat.lt_of_lt_of_le (Nat.lt_succ_self _) hl, ⟨p, digs, d, mix, cnt⟩, h0, h1, ⟨ok.c0, ok.c1, ok.m0, ok.m1⟩, Nat.le_refl _, rfl⟩
    · exact ⟨(q, .lst [.ref p, .int cur, .int mix, .int cnt]) :: (p, .lst (digs.map W.int)) :: Ds, inferInstance, hN2 _ _ ⟨⟨p, digs, cur, mix, cnt⟩, h0, h1, ok, Nat.le_refl _, rfl⟩⟩
/-! ### _law_same -/
abbrev sp__law_same : Nat → SpW := spSame
theorem len__law_same : ∀ n ws Cs Q E, sp__law_same n ws Cs Q E → ws.length = 2 := lenSame
structure I__law_same (Cs : Cells) (ds es : List PyData) (i : Nat) (acc : List W) (C : Cells) (L : List Int) : Prop where
  ha : acc = L.map W.int
  hl : L.length ≤ i
  hi : L = [] ↔ ∀ j, j < i → ds[j]? = es[j]?
  hc : C = Cs
theorem same_loop {n : Nat} {us vs : List W} {ds es : List PyData} {x y : W} {Cs : Cells} {Q : WK} {m : Int} (hz : es.length ≤ 90000) (hs : ∀ e, e ∈ es → Sz n e) (lu : us.length = ds.length) (lv : vs.length = es.length) (le : ds.length = es.length)
    (hu : ∀ (i : Nat) (w : W) (d : PyData), us[i]? = some w → ds[i]? = some d → Dw Cs w d) (hv : ∀ (i : Nat) (w : W) (d : PyData), vs[i]? = some w → es[i]? = some d → Dw Cs w d)
    (ix : ∀ (C : Cells), (∀ a ws, LsAt a ws Cs → LsAt a ws C) → ∀ (i : Nat) (w : W) (R : WK), us[i]? = some w → R w C → uIx x (.int i) C R)
    (iy : ∀ (C : Cells), (∀ a ws, LsAt a ws Cs → LsAt a ws C) → ∀ (i : Nat) (w : W) (R : WK), vs[i]? = some w → R w C → uIx y (.int i) C R)
    (k : ∀ b : Bool, (b = true ↔ ds = es) → Q (.bl b) Cs) (hm : m = (es.length : Nat)) :
    lcB (gSet 2) (mNot (mTest (mCall (cl (spSame (n + 1))) (mCons (mBin uIx (mVar 0) (mVar 2)) (mCons (mBin uIx (mVar 1) (mVar 2)) mNil))))) (mVar 2) [2] (rho0 [x, y])
      (fun x C1 => ∀ (p : Addr), uEq x (W.ref p) ((p, MO.lst []) :: C1) fun w C => ∃ C', Part C' C ∧ Q w C') { n := m.toNat, keep := fun x => True, it := fun i w => w = W.int i } Cs := by
  subst hm
  rw [Int.toNat_natCast]
  refine lcB_i (fun i acc C => ∃ L, I__law_same Cs ds es i acc C L) ⟨[], rfl, Nat.le_refl _, ⟨fun _ j hj => absurd hj (Nat.not_lt_zero _), fun _ => rfl⟩, rfl⟩ (fun _ _ _ _ _ => trivial) ?_ ?_
  · rintro D i w acc C hi hw ⟨L, ⟨rfl, hl, hL, rfl⟩⟩
    dsimp only at hi hw
    subst hw
    have g1 : us[i]? = some (us[i]'(by omega)) := List.getElem?_eq_getElem _
    have g2 : vs[i]? = some (vs[i]'(by omega)) := List.getElem?_eq_getElem _
    have g3 : ds[i]? = some (ds[i]'(by omega)) := List.getElem?_eq_getElem _
    have g4 : es[i]? = some (es[i]'(by omega)) := List.getElem?_eq_getElem _
    have mo : ∀ a ws, LsAt a ws C → LsAt a ws ((D, MO.lst (L.map W.int)) :: C) := fun a ws h => List.mem_cons_of_mem _ h
    (repeat (first | (simp only [Int.zero_add, qIsN_n, qNotN_n, uIsi_r, nm_home, nm_fin, home_nm, fin_nm, sne_down_up, sne_down_right, sne_down_left, sne_down_home, sne_down_end, sne_up_down, sne_up_right, sne_up_left, sne_up_home, sne_up_end, sne_right_down, sne_right_up, sne_right_left, sne_right_home, sne_right_end, sne_left_down, sne_left_up, sne_left_right, sne_left_home, sne_left_end, sne_home_down, sne_home_up, sne_home_right, sne_home_left, sne_home_end, sne_end_down, sne_end_up, sne_end_right, sne_end_left, sne_end_home, sFor_eq, mLc_eq, uAdd_i, uAdd_s, uAdd_l, uMul_i, uMul_l, uEq_ii, uEq_ss, uEq_bb, uEq_nn, uEq_ni, uEq_in, uEq_ns, uEq_sn, uEq_is, uEq_si, uEq_rr, uEq_tt, uEq_rt, uEq_tr, uEq_tn, uEq_nt, uNe_ii, uNe_ss, uNe_bb, uNe_nn, uNe_ni, uNe_in, uNe_ns, uNe_sn, uNe_is, uNe_si, uNe_rr, uNe_tt, uNe_rt, uNe_tr, uNe_tn, uNe_nt, uIn_t, uIn_r, uIx_t, uIx_r, uIx_c, uIx_s, uLen_c, uLen_r, uLen_t, uLen_s, uMin_i, uMin_r, uMax_i, uMax_r, uInt_b, uInt_i, uInt_s, uList_r, uList_t, uIsi_n, uIsi_b, uIsi_i, uIsi_s, uIsi_t, uIsi_c, uSl_c, uSl_r, uSl_s, iOf_r, iOf_c, isNon_n, isNon_i, isNon_s, isNon_b, isNon_t, isNon_r, flat_s, flat_i, flat_b, flat_n, weq_ss, weq_ii, weq_ni, weq_in, weq_nn, kb_bb, kb_bi, kb_bs, kb_bl, kb_bt, kb_ib, kb_ii, kb_is, kb_il, kb_it, kb_sb, kb_si, kb_ss, kb_sl, kb_st, kb_lb, kb_li, kb_ls, kb_ll, kb_lt, kb_tb, kb_ti, kb_ts, kb_tl, kb_tt, kb_nb, kb_ni, kb_ns, kb_nl, kb_nt, nth0, nth1, nth2, nth3, mVar, mC, mBin, mUn, mNil, mCons, mCB, mTest, mAnd, mOr, mNot, mIf, mAndV, mOrV, mNotV, mTup, mLst, mChain, mCall, mCallK, reord, mYes, sNext, sSeq, sDrop, sRet, sRetN, sIf, sNever, sBreak, sCont, sAsg, sPar, sAug, sStore, gSet, gsNil, gsCons, gTupW, gStarW, qI2, qI, qNeg, qAbs, qStrI, iLst, iRgn, iRg2, iEnu, iTpl, mDT, mBM, mBM0, mSl, oNone, oSome, sMatch, mGo, mDNew, mDisp_eq, mPairs, EndsD, EndsW.turn, Rho.put, Rho.wipe, Rho.del, rho0, sp1_iff, sp2_iff, sp3_iff, sp4_iff, win, List.filterMap_cons, List.filterMap_nil, List.cons_append, List.nil_append, List.length_cons, List.length_nil, List.all_cons, List.all_nil, List.any_cons, List.any_nil, List.getElem?_cons_zero, List.getElem?_cons_succ, List.getElem?_nil, List.set_cons_zero, List.set_cons_succ, reduceIte, reduceCtorEq, Nat.reduceEqDiff, Nat.reduceAdd, Nat.reduceSub, Nat.reduceMul, Nat.reduceLeDiff, Int.reduceToNat, Int.cast_ofNat_Int, Int.natCast_zero, Int.natCast_one, Int.reduceLE, Int.reduceLT, Int.reduceNeg, Int.reduceAdd, Int.reduceSub, Int.reducePow, Int.reduceEq, Int.reduceNe, Int.toNat_zero, Int.toNat_one, Int.ofNat_eq_natCast, Nat.reducePow, Nat.le_refl, ge_iff_le, gt_iff_lt, List.mem_cons, List.not_mem_nil, or_false, false_or, or_true, true_or, Option.some.injEq, exists_eq_left', exists_eq_left, exists_eq', exists_eq, exists_and_left, exists_and_right, and_assoc, true_and, and_true, false_and, and_false, exists_false, exists_const, not_true_eq_false, not_false_eq_true, W.int.injEq, W.bl.injEq, W.str.injEq, W.ref.injEq, W.tup.injEq, List.cons.injEq, Bool.true_eq_false, Bool.false_eq_true, decide_eq_true_eq, decide_eq_false_iff_not, Bool.not_eq_true', Bool.not_eq_false', Bool.not_true, Bool.not_false, forall_const, true_implies, false_implies, implies_true, imp_self, decide_true, decide_false, Bool.and_true, Bool.true_and, Bool.and_false, Bool.false_and, Bool.or_false, Bool.or_true, Bool.false_or, Bool.true_or, beq_self_eq_true, pw_2_61, pw_10_18, pw_10_30, pw_10_29, pw_10_28, pw_10_40, pw_10_6, pw_10_9, lg_128, eq_self_iff_true, ne_eq, Int.not_lt, Int.not_le, Nat.not_lt, Nat.not_le, BEq.rfl]) | (refine ⟨_, (by first | exact lsAt_i | assumption), ?_⟩) | (refine ⟨mty_l, ?_⟩) | (refine ⟨mty_s, ?_⟩) | (refine ⟨_, ty_l (by first | exact lsAt_i | assumption), ?_⟩)))
    refine ix _ mo i _ _ g1 (iy _ mo i _ _ g2 (same_i ((hu i _ _ g1 g3).mono mo) ((hv i _ _ g2 g4).mono mo) (hs _ (List.getElem_mem _)) fun b hb => ?_))
    (repeat (first | (simp only [Int.zero_add, qIsN_n, qNotN_n, uIsi_r, nm_home, nm_fin, home_nm, fin_nm, sne_down_up, sne_down_right, sne_down_left, sne_down_home, sne_down_end, sne_up_down, sne_up_right, sne_up_left, sne_up_home, sne_up_end, sne_right_down, sne_right_up, sne_right_left, sne_right_home, sne_right_end, sne_left_down, sne_left_up, sne_left_right, sne_left_home, sne_left_end, sne_home_down, sne_home_up, sne_home_right, sne_home_left, sne_home_end, sne_end_down, sne_end_up, sne_end_right, sne_end_left, sne_end_home, sFor_eq, mLc_eq, uAdd_i, uAdd_s, uAdd_l, uMul_i, uMul_l, uEq_ii, uEq_ss, uEq_bb, uEq_nn, uEq_ni, uEq_in, uEq_ns, uEq_sn, uEq_is, uEq_si, uEq_rr, uEq_tt, uEq_rt, uEq_tr, uEq_tn, uEq_nt, uNe_ii, uNe_ss, uNe_bb, uNe_nn, uNe_ni, uNe_in, uNe_ns, uNe_sn, uNe_is, uNe_si, uNe_rr, uNe_tt, uNe_rt, uNe_tr, uNe_tn, uNe_nt, uIn_t, uIn_r, uIx_t, uIx_r, uIx_c, uIx_s, uLen_c, uLen_r, uLen_t, uLen_s, uMin_i, uMin_r, uMax_i, uMax_r, uInt_b, uInt_i, uInt_s, uList_r, uList_t, uIsi_n, uIsi_b, uIsi_i, uIsi_s, uIsi_t, uIsi_c, uSl_c, uSl_r, uSl_s, iOf_r, iOf_c, isNon_n, isNon_i, isNon_s, isNon_b, isNon_t, isNon_r, flat_s, flat_i, flat_b, flat_n, weq_ss, weq_ii, weq_ni, weq_in, weq_nn, kb_bb, kb_bi, kb_bs, kb_bl, kb_bt, kb_ib, kb_ii, kb_is, kb_il, kb_it, kb_sb, kb_si, kb_ss, kb_sl, kb_st, kb_lb, kb_li, kb_ls, kb_ll, kb_lt, kb_tb, kb_ti, kb_ts, kb_tl, kb_tt, kb_nb, kb_ni, kb_ns, kb_nl, kb_nt, nth0, nth1, nth2, nth3, mVar, mC, mBin, mUn, mNil, mCons, mCB, mTest, mAnd, mOr, mNot, mIf, mAndV, mOrV, mNotV, mTup, mLst, mChain, mCall, mCallK, reord, mYes, sNext, sSeq, sDrop, sRet, sRetN, sIf, sNever, sBreak, sCont, sAsg, sPar, sAug, sStore, gSet, gsNil, gsCons, gTupW, gStarW, qI2, qI, qNeg, qAbs, qStrI, iLst, iRgn, iRg2, iEnu, iTpl, mDT, mBM, mBM0, mSl, oNone, oSome, sMatch, mGo, mDNew, mDisp_eq, mPairs, EndsD, EndsW.turn, Rho.put, Rho.wipe, Rho.del, rho0, sp1_iff, sp2_iff, sp3_iff, sp4_iff, win, List.filterMap_cons, List.filterMap_nil, List.cons_append, List.nil_append, List.length_cons, List.length_nil, List.all_cons, List.all_nil, List.any_cons, List.any_nil, List.getElem?_cons_zero, List.getElem?_cons_succ, List.getElem?_nil, List.set_cons_zero, List.set_cons_succ, reduceIte, reduceCtorEq, Nat.reduceEqDiff, Nat.reduceAdd, Nat.reduceSub, Nat.reduceMul, Nat.reduceLeDiff, Int.reduceToNat, Int.cast_ofNat_Int, Int.natCast_zero, Int.natCast_one, Int.reduceLE, Int.reduceLT, Int.reduceNeg, Int.reduceAdd, Int.reduceSub, Int.reducePow, Int.reduceEq, Int.reduceNe, Int.toNat_zero, Int.toNat_one, Int.ofNat_eq_natCast, Nat.reducePow, Nat.le_refl, ge_iff_le, gt_iff_lt, List.mem_cons, List.not_mem_nil, or_false, false_or, or_true, true_or, Option.some.injEq, exists_eq_left', exists_eq_left, exists_eq', exists_eq, exists_and_left, exists_and_right, and_assoc, true_and, and_true, false_and, and_false, exists_false, exists_const, not_true_eq_false, not_false_eq_true, W.int.injEq, W.bl.injEq, W.str.injEq, W.ref.injEq, W.tup.injEq, List.cons.injEq, Bool.true_eq_false, Bool.false_eq_true, decide_eq_true_eq, decide_eq_false_iff_not, Bool.not_eq_true', Bool.not_eq_false', Bool.not_true, Bool.not_false, forall_const, true_implies, false_implies, implies_true, imp_self, decide_true, decide_false, Bool.and_true, Bool.true_and, Bool.and_false, Bool.false_and, Bool.or_false, Bool.or_true, Bool.false_or, Bool.true_or, beq_self_eq_true, pw_2_61, pw_10_18, pw_10_30, pw_10_29, pw_10_28, pw_10_40, pw_10_6, pw_10_9, lg_128, eq_self_iff_true, ne_eq, Int.not_lt, Int.not_le, Nat.not_lt, Nat.not_le, BEq.rfl]) | (refine ⟨_, (by first | exact lsAt_i | assumption), ?_⟩) | (refine ⟨mty_l, ?_⟩) | (refine ⟨mty_s, ?_⟩) | (refine ⟨_, ty_l (by first | exact lsAt_i | assumption), ?_⟩)))
    have st : (∀ j, j < i + 1 → ds[j]? = es[j]?) ↔ (∀ j, j < i → ds[j]? = es[j]?) ∧ ds[i]'(by omega) = es[i]'(by omega) := by
      constructor
      · intro h
        refine ⟨fun j hj => h j (by omega), ?_⟩
        have := h i (by omega)
        rw [g3, g4] at this
        exact Option.some.inj this
      · rintro ⟨h1, h2⟩ j hj
        by_cases e : j = i
        · subst e
          rw [g3, g4, h2]
        · exact h1 j (by omega)
    refine ⟨fun e => ⟨by rw [List.length_map]; omega, C, .here, L ++ [(i : Int)], by rw [List.map_append]; rfl, by rw [List.length_append]; exact Nat.succ_le_succ hl, ?_, rfl⟩, fun e => ⟨C, .here, L, rfl, Nat.le_succ_of_le hl, ?_, rfl⟩⟩
    · rw [st]
      constructor
      · intro h; simp at h
      · intro h
        rw [hb.mpr h.2] at e
        cases e
    · rw [st, hL]
      exact ⟨fun h => ⟨h, hb.mp e⟩, fun h => h.1⟩
  · rintro D acc C ⟨L, ⟨rfl, hl, hL, rfl⟩⟩
    dsimp only at hL
    intro p
    (repeat (first | (simp only [Int.zero_add, qIsN_n, qNotN_n, uIsi_r, nm_home, nm_fin, home_nm, fin_nm, sne_down_up, sne_down_right, sne_down_left, sne_down_home, sne_down_end, sne_up_down, sne_up_right, sne_up_left, sne_up_home, sne_up_end, sne_right_down, sne_right_up, sne_right_left, sne_right_home, sne_right_end, sne_left_down, sne_left_up, sne_left_right, sne_left_home, sne_left_end, sne_home_down, sne_home_up, sne_home_right, sne_home_left, sne_home_end, sne_end_down, sne_end_up, sne_end_right, sne_end_left, sne_end_home, sFor_eq, mLc_eq, uAdd_i, uAdd_s, uAdd_l, uMul_i, uMul_l, uEq_ii, uEq_ss, uEq_bb, uEq_nn, uEq_ni, uEq_in, uEq_ns, uEq_sn, uEq_is, uEq_si, uEq_rr, uEq_tt, uEq_rt, uEq_tr, uEq_tn, uEq_nt, uNe_ii, uNe_ss, uNe_bb, uNe_nn, uNe_ni, uNe_in, uNe_ns, uNe_sn, uNe_is, uNe_si, uNe_rr, uNe_tt, uNe_rt, uNe_tr, uNe_tn, uNe_nt, uIn_t, uIn_r, uIx_t, uIx_r, uIx_c, uIx_s, uLen_c, uLen_r, uLen_t, uLen_s, uMin_i, uMin_r, uMax_i, uMax_r, uInt_b, uInt_i, uInt_s, uList_r, uList_t, uIsi_n, uIsi_b, uIsi_i, uIsi_s, uIsi_t, uIsi_c, uSl_c, uSl_r, uSl_s, iOf_r, iOf_c, isNon_n, isNon_i, isNon_s, isNon_b, isNon_t, isNon_r, flat_s, flat_i, flat_b, flat_n, weq_ss, weq_ii, weq_ni, weq_in, weq_nn, kb_bb, kb_bi, kb_bs, kb_bl, kb_bt, kb_ib, kb_ii, kb_is, kb_il, kb_it, kb_sb, kb_si, kb_ss, kb_sl, kb_st, kb_lb, kb_li, kb_ls, kb_ll, kb_lt, kb_tb, kb_ti, kb_ts, kb_tl, kb_tt, kb_nb, kb_ni, kb_ns, kb_nl, kb_nt, nth0, nth1, nth2, nth3, mVar, mC, mBin, mUn, mNil, mCons, mCB, mTest, mAnd, mOr, mNot, mIf, mAndV, mOrV, mNotV, mTup, mLst, mChain, mCall, mCallK, reord, mYes, sNext, sSeq, sDrop, sRet, sRetN, sIf, sNever, sBreak, sCont, sAsg, sPar, sAug, sStore, gSet, gsNil, gsCons, gTupW, gStarW, qI2, qI, qNeg, qAbs, qStrI, iLst, iRgn, iRg2, iEnu, iTpl, mDT, mBM, mBM0, mSl, oNone, oSome, sMatch, mGo, mDNew, mDisp_eq, mPairs, EndsD, EndsW.turn, Rho.put, Rho.wipe, Rho.del, rho0, sp1_iff, sp2_iff, sp3_iff, sp4_iff, win, List.filterMap_cons, List.filterMap_nil, List.cons_append, List.nil_append, List.length_cons, List.length_nil, List.all_cons, List.all_nil, List.any_cons, List.any_nil, List.getElem?_cons_zero, List.getElem?_cons_succ, List.getElem?_nil, List.set_cons_zero, List.set_cons_succ, reduceIte, reduceCtorEq, Nat.reduceEqDiff, Nat.reduceAdd, Nat.reduceSub, Nat.reduceMul, Nat.reduceLeDiff, Int.reduceToNat, Int.cast_ofNat_Int, Int.natCast_zero, Int.natCast_one, Int.reduceLE, Int.reduceLT, Int.reduceNeg, Int.reduceAdd, Int.reduceSub, Int.reducePow, Int.reduceEq, Int.reduceNe, Int.toNat_zero, Int.toNat_one, Int.ofNat_eq_natCast, Nat.reducePow, Nat.le_refl, ge_iff_le, gt_iff_lt, List.mem_cons, List.not_mem_nil, or_false, false_or, or_true, true_or, Option.some.injEq, exists_eq_left', exists_eq_left, exists_eq', exists_eq, exists_and_left, exists_and_right, and_assoc, true_and, and_true, false_and, and_false, exists_false, exists_const, not_true_eq_false, not_false_eq_true, W.int.injEq, W.bl.injEq, W.str.injEq, W.ref.injEq, W.tup.injEq, List.cons.injEq, Bool.true_eq_false, Bool.false_eq_true, decide_eq_true_eq, decide_eq_false_iff_not, Bool.not_eq_true', Bool.not_eq_false', Bool.not_true, Bool.not_false, forall_const, true_implies, false_implies, implies_true, imp_self, decide_true, decide_false, Bool.and_true, Bool.true_and, Bool.and_false, Bool.false_and, Bool.or_false, Bool.or_true, Bool.false_or, Bool.true_or, beq_self_eq_true, pw_2_61, pw_10_18, pw_10_30, pw_10_29, pw_10_28, pw_10_40, pw_10_6, pw_10_9, lg_128, eq_self_iff_true, ne_eq, Int.not_lt, Int.not_le, Nat.not_lt, Nat.not_le, BEq.rfl]) | (refine ⟨_, (by first | exact lsAt_i | assumption), ?_⟩) | (refine ⟨mty_l, ?_⟩) | (refine ⟨mty_s, ?_⟩) | (refine ⟨_, ty_l (by first | exact lsAt_i | assumption), ?_⟩)))
    refine eqL_i (n := 0) (by decide) lsAt_i lsAt_i dok_ints (fun w hw => (nomatch hw)) fun b hb => ⟨C, inferInstance, k b ?_⟩
    rw [hb, List.map_eq_nil_iff, hL]
    constructor
    · intro h
      refine List.ext_getElem? fun j => ?_
      by_cases hj : j < es.length
      · exact h j hj
      · rw [List.getElem?_eq_none (by omega), List.getElem?_eq_none (by omega)]
    · intro h j _
      rw [h]
def b__law_same (self : SpW) : MS := sSeq (sIf (mTest (mBin qIsN (mVar 1) (mC .non))) (sRet (mBin qIsN (mVar 0) (mC .non))) (sNext)) (sSeq (sIf (mTest (mCB uIsi (mCons (mVar 1) (mCons (mC (.ty "bool")) (mNil))))) (sRet (mAndV (mCB uIsi (mCons (mVar 0) (mCons (mC (.ty "bool")) (mNil)))) (mBin uEq (mVar 0) (mVar 1)))) (sNext)) (sSeq (sIf (mTest (mCB uIsi (mCons (mVar 1) (mCons (mC (.ty "int")) (mNil))))) (sRet (mAndV (mCB uIsi (mCons (mVar 0) (mCons (mC (.ty "int")) (mNil)))) (mAndV (mNotV (mCB uIsi (mCons (mVar 0) (mCons (mC (.ty "bool")) (mNil))))) (mBin uEq (mVar 0) (mVar 1))))) (sNext)) (sSeq (sIf (mTest (mCB uIsi (mCons (mVar 1) (mCons (mC (.ty "str")) (mNil))))) (sRet (mAndV (mCB uIsi (mCons (mVar 0) (mCons (mC (.ty "str")) (mNil)))) (mBin uEq (mVar 0) (mVar 1)))) (sNext)) (sSeq (sIf (mTest (mBin uNe (mCB uIsi (mCons (mVar 0) (mCons (mC (.ty "list")) (mNil)))) (mCB uIsi (mCons (mVar 1) (mCons (mC (.ty "list")) (mNil)))))) (sRet (mC (.bl false))) (sNext)) (sSeq (sIf (mOr (mTest (mBin uNe (mCB uIsi (mCons (mVar 0) (mCons (mC (.ty "tuple")) (mNil)))) (mCB uIsi (mCons (mVar 1) (mCons (mC (.ty "tuple")) (mNil)))))) (mTest (mBin uNe (mCB uLen (mCons (mVar 0) (mNil))) (mCB uLen (mCons (mVar 1) (mNil)))))) (sRet (mC (.bl false))) (sNext)) (sRet (mBin uEq (mLc (iRgn (mCons (mCB uLen (mCons (mVar 1) (mNil))) (mNil))) (gSet 2) (mNot (mTest (mCall self (mCons (mBin uIx (mVar 0) (mVar 2)) (mCons (mBin uIx (mVar 1) (mVar 2)) (mNil)))))) (mVar 2) [2]) (mLst (mNil)))))))))
def kb__law_same : List KSig := []
theorem pure__law_same (n : Nat) : ∀ ws Cs Q E, sp__law_same (n + 1) ws Cs Q E → b__law_same (cl (sp__law_same n)) (EndsD Q E) (rho0 ws) Cs := by
  rintro ws Cs Q E ⟨x, y, rfl, d, e, hx, hy, hs, k⟩
  have hx' := hx.kd
  have hy' := hy.kd
  unfold b__law_same
  have done : ∀ b : Bool, (b = true ↔ d = e) → ∃ C', Part C' Cs ∧ Q (.bl b) C' := fun b h => ⟨Cs, .here, k b h⟩
  cases hy' with
  | non =>
    (repeat (first | (simp only [Int.zero_add, qIsN_n, qNotN_n, uIsi_r, nm_home, nm_fin, home_nm, fin_nm, sne_down_up, sne_down_right, sne_down_left, sne_down_home, sne_down_end, sne_up_down, sne_up_right, sne_up_left, sne_up_home, sne_up_end, sne_right_down, sne_right_up, sne_right_left, sne_right_home, sne_right_end, sne_left_down, sne_left_up, sne_left_right, sne_left_home, sne_left_end, sne_home_down, sne_home_up, sne_home_right, sne_home_left, sne_home_end, sne_end_down, sne_end_up, sne_end_right, sne_end_left, sne_end_home, sFor_eq, mLc_eq, uAdd_i, uAdd_s, uAdd_l, uMul_i, uMul_l, uEq_ii, uEq_ss, uEq_bb, uEq_nn, uEq_ni, uEq_in, uEq_ns, uEq_sn, uEq_is, uEq_si, uEq_rr, uEq_tt, uEq_rt, uEq_tr, uEq_tn, uEq_nt, uNe_ii, uNe_ss, uNe_bb, uNe_nn, uNe_ni, uNe_in, uNe_ns, uNe_sn, uNe_is, uNe_si, uNe_rr, uNe_tt, uNe_rt, uNe_tr, uNe_tn, uNe_nt, uIn_t, uIn_r, uIx_t, uIx_r, uIx_c, uIx_s, uLen_c, uLen_r, uLen_t, uLen_s, uMin_i, uMin_r, uMax_i, uMax_r, uInt_b, uInt_i, uInt_s, uList_r, uList_t, uIsi_n, uIsi_b, uIsi_i, uIsi_s, uIsi_t, uIsi_c, uSl_c, uSl_r, uSl_s, iOf_r, iOf_c, isNon_n, isNon_i, isNon_s, isNon_b, isNon_t, isNon_r, flat_s, flat_i, flat_b, flat_n, weq_ss, weq_ii, weq_ni, weq_in, weq_nn, kb_bb, kb_bi, kb_bs, kb_bl, kb_bt, kb_ib, kb_ii, kb_is, kb_il, kb_it, kb_sb, kb_si, kb_ss, kb_sl, kb_st, kb_lb, kb_li, kb_ls, kb_ll, kb_lt, kb_tb, kb_ti, kb_ts, kb_tl, kb_tt, kb_nb, kb_ni, kb_ns, kb_nl, kb_nt, nth0, nth1, nth2, nth3, mVar, mC, mBin, mUn, mNil, mCons, mCB, mTest, mAnd, mOr, mNot, mIf, mAndV, mOrV, mNotV, mTup, mLst, mChain, mCall, mCallK, reord, mYes, sNext, sSeq, sDrop, sRet, sRetN, sIf, sNever, sBreak, sCont, sAsg, sPar, sAug, sStore, gSet, gsNil, gsCons, gTupW, gStarW, qI2, qI, qNeg, qAbs, qStrI, iLst, iRgn, iRg2, iEnu, iTpl, mDT, mBM, mBM0, mSl, oNone, oSome, sMatch, mGo, mDNew, mDisp_eq, mPairs, EndsD, EndsW.turn, Rho.put, Rho.wipe, Rho.del, rho0, sp1_iff, sp2_iff, sp3_iff, sp4_iff, win, List.filterMap_cons, List.filterMap_nil, List.cons_append, List.nil_append, List.length_cons, List.length_nil, List.all_cons, List.all_nil, List.any_cons, List.any_nil, List.getElem?_cons_zero, List.getElem?_cons_succ, List.getElem?_nil, List.set_cons_zero, List.set_cons_succ, reduceIte, reduceCtorEq, Nat.reduceEqDiff, Nat.reduceAdd, Nat.reduceSub, Nat.reduceMul, Nat.reduceLeDiff, Int.reduceToNat, Int.cast_ofNat_Int, Int.natCast_zero, Int.natCast_one, Int.reduceLE, Int.reduceLT, Int.reduceNeg, Int.reduceAdd, Int.reduceSub, Int.reducePow, Int.reduceEq, Int.reduceNe, Int.toNat_zero, Int.toNat_one, Int.ofNat_eq_natCast, Nat.reducePow, Nat.le_refl, ge_iff_le, gt_iff_lt, List.mem_cons, List.not_mem_nil, or_false, false_or, or_true, true_or, Option.some.injEq, exists_eq_left', exists_eq_left, exists_eq', exists_eq, exists_and_left, exists_and_right, and_assoc, true_and, and_true, false_and, and_false, exists_false, exists_const, not_true_eq_false, not_false_eq_true, W.int.injEq, W.bl.injEq, W.str.injEq, W.ref.injEq, W.tup.injEq, List.cons.injEq, Bool.true_eq_false, Bool.false_eq_true, decide_eq_true_eq, decide_eq_false_iff_not, Bool.not_eq_true', Bool.not_eq_false', Bool.not_true, Bool.not_false, forall_const, true_implies, false_implies, implies_true, imp_self, decide_true, decide_false, Bool.and_true, Bool.true_and, Bool.and_false, Bool.false_and, Bool.or_false, Bool.or_true, Bool.false_or, Bool.true_or, beq_self_eq_true, pw_2_61, pw_10_18, pw_10_30, pw_10_29, pw_10_28, pw_10_40, pw_10_6, pw_10_9, lg_128, eq_self_iff_true, ne_eq, Int.not_lt, Int.not_le, Nat.not_lt, Nat.not_le, BEq.rfl]) | (refine ⟨_, (by first | exact lsAt_i | assumption), ?_⟩) | (refine ⟨mty_l, ?_⟩) | (refine ⟨mty_s, ?_⟩) | (refine ⟨_, ty_l (by first | exact lsAt_i | assumption), ?_⟩)))
    refine done _ ?_
    cases hx' <;> simp [isNon]
  | bl b =>
    cases hx'
    all_goals (repeat (first | (simp only [Int.zero_add, qIsN_n, qNotN_n, uIsi_r, nm_home, nm_fin, home_nm, fin_nm, sne_down_up, sne_down_right, sne_down_left, sne_down_home, sne_down_end, sne_up_down, sne_up_right, sne_up_left, sne_up_home, sne_up_end, sne_right_down, sne_right_up, sne_right_left, sne_right_home, sne_right_end, sne_left_down, sne_left_up, sne_left_right, sne_left_home, sne_left_end, sne_home_down, sne_home_up, sne_home_right, sne_home_left, sne_home_end, sne_end_down, sne_end_up, sne_end_right, sne_end_left, sne_end_home, sFor_eq, mLc_eq, uAdd_i, uAdd_s, uAdd_l, uMul_i, uMul_l, uEq_ii, uEq_ss, uEq_bb, uEq_nn, uEq_ni, uEq_in, uEq_ns, uEq_sn, uEq_is, uEq_si, uEq_rr, uEq_tt, uEq_rt, uEq_tr, uEq_tn, uEq_nt, uNe_ii, uNe_ss, uNe_bb, uNe_nn, uNe_ni, uNe_in, uNe_ns, uNe_sn, uNe_is, uNe_si, uNe_rr, uNe_tt, uNe_rt, uNe_tr, uNe_tn, uNe_nt, uIn_t, uIn_r, uIx_t, uIx_r, uIx_c, uIx_s, uLen_c, uLen_r, uLen_t, uLen_s, uMin_i, uMin_r, uMax_i, uMax_r, uInt_b, uInt_i, uInt_s, uList_r, uList_t, uIsi_n, uIsi_b, uIsi_i, uIsi_s, uIsi_t, uIsi_c, uSl_c, uSl_r, uSl_s, iOf_r, iOf_c, isNon_n, isNon_i, isNon_s, isNon_b, isNon_t, isNon_r, flat_s, flat_i, flat_b, flat_n, weq_ss, weq_ii, weq_ni, weq_in, weq_nn, kb_bb, kb_bi, kb_bs, kb_bl, kb_bt, kb_ib, kb_ii, kb_is, kb_il, kb_it, kb_sb, kb_si, kb_ss, kb_sl, kb_st, kb_lb, kb_li, kb_ls, kb_ll, kb_lt, kb_tb, kb_ti, kb_ts, kb_tl, kb_tt, kb_nb, kb_ni, kb_ns, kb_nl, kb_nt, nth0, nth1, nth2, nth3, mVar, mC, mBin, mUn, mNil, mCons, mCB, mTest, mAnd, mOr, mNot, mIf, mAndV, mOrV, mNotV, mTup, mLst, mChain, mCall, mCallK, reord, mYes, sNext, sSeq, sDrop, sRet, sRetN, sIf, sNever, sBreak, sCont, sAsg, sPar, sAug, sStore, gSet, gsNil, gsCons, gTupW, gStarW, qI2, qI, qNeg, qAbs, qStrI, iLst, iRgn, iRg2, iEnu, iTpl, mDT, mBM, mBM0, mSl, oNone, oSome, sMatch, mGo, mDNew, mDisp_eq, mPairs, EndsD, EndsW.turn, Rho.put, Rho.wipe, Rho.del, rho0, sp1_iff, sp2_iff, sp3_iff, sp4_iff, win, List.filterMap_cons, List.filterMap_nil, List.cons_append, List.nil_append, List.length_cons, List.length_nil, List.all_cons, List.all_nil, List.any_cons, List.any_nil, List.getElem?_cons_zero, List.getElem?_cons_succ, List.getElem?_nil, List.set_cons_zero, List.set_cons_succ, reduceIte, reduceCtorEq, Nat.reduceEqDiff, Nat.reduceAdd, Nat.reduceSub, Nat.reduceMul, Nat.reduceLeDiff, Int.reduceToNat, Int.cast_ofNat_Int, Int.natCast_zero, Int.natCast_one, Int.reduceLE, Int.reduceLT, Int.reduceNeg, Int.reduceAdd, Int.reduceSub, Int.reducePow, Int.reduceEq, Int.reduceNe, Int.toNat_zero, Int.toNat_one, Int.ofNat_eq_natCast, Nat.reducePow, Nat.le_refl, ge_iff_le, gt_iff_lt, List.mem_cons, List.not_mem_nil, or_false, false_or, or_true, true_or, Option.some.injEq, exists_eq_left', exists_eq_left, exists_eq', exists_eq, exists_and_left, exists_and_right, and_assoc, true_and, and_true, false_and, and_false, exists_false, exists_const, not_true_eq_false, not_false_eq_true, W.int.injEq, W.bl.injEq, W.str.injEq, W.ref.injEq, W.tup.injEq, List.cons.injEq, Bool.true_eq_false, Bool.false_eq_true, decide_eq_true_eq, decide_eq_false_iff_not, Bool.not_eq_true', Bool.not_eq_false', Bool.not_true, Bool.not_false, forall_const, true_implies, false_implies, implies_true, imp_self, decide_true, decide_false, Bool.and_true, Bool.true_and, Bool.and_false, Bool.false_and, Bool.or_false, Bool.or_true, Bool.false_or, Bool.true_or, beq_self_eq_true, pw_2_61, pw_10_18, pw_10_30, pw_10_29, pw_10_28, pw_10_40, pw_10_6, pw_10_9, lg_128, eq_self_iff_true, ne_eq, Int.not_lt, Int.not_le, Nat.not_lt, Nat.not_le, BEq.rfl]) | (refine ⟨_, (by first | exact lsAt_i | assumption), ?_⟩) | (refine ⟨mty_l, ?_⟩) | (refine ⟨mty_s, ?_⟩) | (refine ⟨_, ty_l (by first | exact lsAt_i | assumption), ?_⟩)))
    all_goals exact done _ (by simp)
  | int b =>
    cases hx'
    all_goals (repeat (first | (simp only [Int.zero_add, qIsN_n, qNotN_n, uIsi_r, nm_home, nm_fin, home_nm, fin_nm, sne_down_up, sne_down_right, sne_down_left, sne_down_home, sne_down_end, sne_up_down, sne_up_right, sne_up_left, sne_up_home, sne_up_end, sne_right_down, sne_right_up, sne_right_left, sne_right_home, sne_right_end, sne_left_down, sne_left_up, sne_left_right, sne_left_home, sne_left_end, sne_home_down, sne_home_up, sne_home_right, sne_home_left, sne_home_end, sne_end_down, sne_end_up, sne_end_right, sne_end_left, sne_end_home, sFor_eq, mLc_eq, uAdd_i, uAdd_s, uAdd_l, uMul_i, uMul_l, uEq_ii, uEq_ss, uEq_bb, uEq_nn, uEq_ni, uEq_in, uEq_ns, uEq_sn, uEq_is, uEq_si, uEq_rr, uEq_tt, uEq_rt, uEq_tr, uEq_tn, uEq_nt, uNe_ii, uNe_ss, uNe_bb, uNe_nn, uNe_ni, uNe_in, uNe_ns, uNe_sn, uNe_is, uNe_si, uNe_rr, uNe_tt, uNe_rt, uNe_tr, uNe_tn, uNe_nt, uIn_t, uIn_r, uIx_t, uIx_r, uIx_c, uIx_s, uLen_c, uLen_r, uLen_t, uLen_s, uMin_i, uMin_r, uMax_i, uMax_r, uInt_b, uInt_i, uInt_s, uList_r, uList_t, uIsi_n, uIsi_b, uIsi_i, uIsi_s, uIsi_t, uIsi_c, uSl_c, uSl_r, uSl_s, iOf_r, iOf_c, isNon_n, isNon_i, isNon_s, isNon_b, isNon_t, isNon_r, flat_s, flat_i, flat_b, flat_n, weq_ss, weq_ii, weq_ni, weq_in, weq_nn, kb_bb, kb_bi, kb_bs, kb_bl, kb_bt, kb_ib, kb_ii, kb_is, kb_il, kb_it, kb_sb, kb_si, kb_ss, kb_sl, kb_st, kb_lb, kb_li, kb_ls, kb_ll, kb_lt, kb_tb, kb_ti, kb_ts, kb_tl, kb_tt, kb_nb, kb_ni, kb_ns, kb_nl, kb_nt, nth0, nth1, nth2, nth3, mVar, mC, mBin, mUn, mNil, mCons, mCB, mTest, mAnd, mOr, mNot, mIf, mAndV, mOrV, mNotV, mTup, mLst, mChain, mCall, mCallK, reord, mYes, sNext, sSeq, sDrop, sRet, sRetN, sIf, sNever, sBreak, sCont, sAsg, sPar, sAug, sStore, gSet, gsNil, gsCons, gTupW, gStarW, qI2, qI, qNeg, qAbs, qStrI, iLst, iRgn, iRg2, iEnu, iTpl, mDT, mBM, mBM0, mSl, oNone, oSome, sMatch, mGo, mDNew, mDisp_eq, mPairs, EndsD, EndsW.turn, Rho.put, Rho.wipe, Rho.del, rho0, sp1_iff, sp2_iff, sp3_iff, sp4_iff, win, List.filterMap_cons, List.filterMap_nil, List.cons_append, List.nil_append, List.length_cons, List.length_nil, List.all_cons, List.all_nil, List.any_cons, List.any_nil, List.getElem?_cons_zero, List.getElem?_cons_succ, List.getElem?_nil, List.set_cons_zero, List.set_cons_succ, reduceIte, reduceCtorEq, Nat.reduceEqDiff, Nat.reduceAdd, Nat.reduceSub, Nat.reduceMul, Nat.reduceLeDiff, Int.reduceToNat, Int.cast_ofNat_Int, Int.natCast_zero, Int.natCast_one, Int.reduceLE, Int.reduceLT, Int.reduceNeg, Int.reduceAdd, Int.reduceSub, Int.reducePow, Int.reduceEq, Int.reduceNe, Int.toNat_zero, Int.toNat_one, Int.ofNat_eq_natCast, Nat.reducePow, Nat.le_refl, ge_iff_le, gt_iff_lt, List.mem_cons, List.not_mem_nil, or_false, false_or, or_true, true_or, Option.some.injEq, exists_eq_left', exists_eq_left, exists_eq', exists_eq, exists_and_left, exists_and_right, and_assoc, true_and, and_true, false_and, and_false, exists_false, exists_const, not_true_eq_false, not_false_eq_true, W.int.injEq, W.bl.injEq, W.str.injEq, W.ref.injEq, W.tup.injEq, List.cons.injEq, Bool.true_eq_false, Bool.false_eq_true, decide_eq_true_eq, decide_eq_false_iff_not, Bool.not_eq_true', Bool.not_eq_false', Bool.not_true, Bool.not_false, forall_const, true_implies, false_implies, implies_true, imp_self, decide_true, decide_false, Bool.and_true, Bool.true_and, Bool.and_false, Bool.false_and, Bool.or_false, Bool.or_true, Bool.false_or, Bool.true_or, beq_self_eq_true, pw_2_61, pw_10_18, pw_10_30, pw_10_29, pw_10_28, pw_10_40, pw_10_6, pw_10_9, lg_128, eq_self_iff_true, ne_eq, Int.not_lt, Int.not_le, Nat.not_lt, Nat.not_le, BEq.rfl]) | (refine ⟨_, (by first | exact lsAt_i | assumption), ?_⟩) | (refine ⟨mty_l, ?_⟩) | (refine ⟨mty_s, ?_⟩) | (refine ⟨_, ty_l (by first | exact lsAt_i | assumption), ?_⟩)))
    all_goals exact done _ (by simp)
  | str b =>
    cases hx'
    all_goals (repeat (first | (simp only [Int.zero_add, qIsN_n, qNotN_n, uIsi_r, nm_home, nm_fin, home_nm, fin_nm, sne_down_up, sne_down_right, sne_down_left, sne_down_home, sne_down_end, sne_up_down, sne_up_right, sne_up_left, sne_up_home, sne_up_end, sne_right_down, sne_right_up, sne_right_left, sne_right_home, sne_right_end, sne_left_down, sne_left_up, sne_left_right, sne_left_home, sne_left_end, sne_home_down, sne_home_up, sne_home_right, sne_home_left, sne_home_end, sne_end_down, sne_end_up, sne_end_right, sne_end_left, sne_end_home, sFor_eq, mLc_eq, uAdd_i, uAdd_s, uAdd_l, uMul_i, uMul_l, uEq_ii, uEq_ss, uEq_bb, uEq_nn, uEq_ni, uEq_in, uEq_ns, uEq_sn, uEq_is, uEq_si, uEq_rr, uEq_tt, uEq_rt, uEq_tr, uEq_tn, uEq_nt, uNe_ii, uNe_ss, uNe_bb, uNe_nn, uNe_ni, uNe_in, uNe_ns, uNe_sn, uNe_is, uNe_si, uNe_rr, uNe_tt, uNe_rt, uNe_tr, uNe_tn, uNe_nt, uIn_t, uIn_r, uIx_t, uIx_r, uIx_c, uIx_s, uLen_c, uLen_r, uLen_t, uLen_s, uMin_i, uMin_r, uMax_i, uMax_r, uInt_b, uInt_i, uInt_s, uList_r, uList_t, uIsi_n, uIsi_b, uIsi_i, uIsi_s, uIsi_t, uIsi_c, uSl_c, uSl_r, uSl_s, iOf_r, iOf_c, isNon_n, isNon_i, isNon_s, isNon_b, isNon_t, isNon_r, flat_s, flat_i, flat_b, flat_n, weq_ss, weq_ii, weq_ni, weq_in, weq_nn, kb_bb, kb_bi, kb_bs, kb_bl, kb_bt, kb_ib, kb_ii, kb_is, kb_il, kb_it, kb_sb, kb_si, kb_ss, kb_sl, kb_st, kb_lb, kb_li, kb_ls, kb_ll, kb_lt, kb_tb, kb_ti, kb_ts, kb_tl, kb_tt, kb_nb, kb_ni, kb_ns, kb_nl, kb_nt, nth0, nth1, nth2, nth3, mVar, mC, mBin, mUn, mNil, mCons, mCB, mTest, mAnd, mOr, mNot, mIf, mAndV, mOrV, mNotV, mTup, mLst, mChain, mCall, mCallK, reord, mYes, sNext, sSeq, sDrop, sRet, sRetN, sIf, sNever, sBreak, sCont, sAsg, sPar, sAug, sStore, gSet, gsNil, gsCons, gTupW, gStarW, qI2, qI, qNeg, qAbs, qStrI, iLst, iRgn, iRg2, iEnu, iTpl, mDT, mBM, mBM0, mSl, oNone, oSome, sMatch, mGo, mDNew, mDisp_eq, mPairs, EndsD, EndsW.turn, Rho.put, Rho.wipe, Rho.del, rho0, sp1_iff, sp2_iff, sp3_iff, sp4_iff, win, List.filterMap_cons, List.filterMap_nil, List.cons_append, List.nil_append, List.length_cons, List.length_nil, List.all_cons, List.all_nil, List.any_cons, List.any_nil, List.getElem?_cons_zero, List.getElem?_cons_succ, List.getElem?_nil, List.set_cons_zero, List.set_cons_succ, reduceIte, reduceCtorEq, Nat.reduceEqDiff, Nat.reduceAdd, Nat.reduceSub, Nat.reduceMul, Nat.reduceLeDiff, Int.reduceToNat, Int.cast_ofNat_Int, Int.natCast_zero, Int.natCast_one, Int.reduceLE, Int.reduceLT, Int.reduceNeg, Int.reduceAdd, Int.reduceSub, Int.reducePow, Int.reduceEq, Int.reduceNe, Int.toNat_zero, Int.toNat_one, Int.ofNat_eq_natCast, Nat.reducePow, Nat.le_refl, ge_iff_le, gt_iff_lt, List.mem_cons, List.not_mem_nil, or_false, false_or, or_true, true_or, Option.some.injEq, exists_eq_left', exists_eq_left, exists_eq', exists_eq, exists_and_left, exists_and_right, and_assoc, true_and, and_true, false_and, and_false, exists_false, exists_const, not_true_eq_false, not_false_eq_true, W.int.injEq, W.bl.injEq, W.str.injEq, W.ref.injEq, W.tup.injEq, List.cons.injEq, Bool.true_eq_false, Bool.false_eq_true, decide_eq_true_eq, decide_eq_false_iff_not, Bool.not_eq_true', Bool.not_eq_false', Bool.not_true, Bool.not_false, forall_const, true_implies, false_implies, implies_true, imp_self, decide_true, decide_false, Bool.and_true, Bool.true_and, Bool.and_false, Bool.false_and, Bool.or_false, Bool.or_true, Bool.false_or, Bool.true_or, beq_self_eq_true, pw_2_61, pw_10_18, pw_10_30, pw_10_29, pw_10_28, pw_10_40, pw_10_6, pw_10_9, lg_128, eq_self_iff_true, ne_eq, Int.not_lt, Int.not_le, Nat.not_lt, Nat.not_le, BEq.rfl]) | (refine ⟨_, (by first | exact lsAt_i | assumption), ?_⟩) | (refine ⟨mty_l, ?_⟩) | (refine ⟨mty_s, ?_⟩) | (refine ⟨_, ty_l (by first | exact lsAt_i | assumption), ?_⟩)))
    all_goals exact done _ (by simp)
  | @tup vs es hl hd =>
    cases n with
    | zero => exact hs.elim
    | succ n =>
      cases hx' with
      | @tup us ds hl2 hd2 =>
        (repeat (first | (simp only [Int.zero_add, qIsN_n, qNotN_n, uIsi_r, nm_home, nm_fin, home_nm, fin_nm, sne_down_up, sne_down_right, sne_down_left, sne_down_home, sne_down_end, sne_up_down, sne_up_right, sne_up_left, sne_up_home, sne_up_end, sne_right_down, sne_right_up, sne_right_left, sne_right_home, sne_right_end, sne_left_down, sne_left_up, sne_left_right, sne_left_home, sne_left_end, sne_home_down, sne_home_up, sne_home_right, sne_home_left, sne_home_end, sne_end_down, sne_end_up, sne_end_right, sne_end_left, sne_end_home, sFor_eq, mLc_eq, uAdd_i, uAdd_s, uAdd_l, uMul_i, uMul_l, uEq_ii, uEq_ss, uEq_bb, uEq_nn, uEq_ni, uEq_in, uEq_ns, uEq_sn, uEq_is, uEq_si, uEq_rr, uEq_tt, uEq_rt, uEq_tr, uEq_tn, uEq_nt, uNe_ii, uNe_ss, uNe_bb, uNe_nn, uNe_ni, uNe_in, uNe_ns, uNe_sn, uNe_is, uNe_si, uNe_rr, uNe_tt, uNe_rt, uNe_tr, uNe_tn, uNe_nt, uIn_t, uIn_r, uIx_t, uIx_r, uIx_c, uIx_s, uLen_c, uLen_r, uLen_t, uLen_s, uMin_i, uMin_r, uMax_i, uMax_r, uInt_b, uInt_i, uInt_s, uList_r, uList_t, uIsi_n, uIsi_b, uIsi_i, uIsi_s, uIsi_t, uIsi_c, uSl_c, uSl_r, uSl_s, iOf_r, iOf_c, isNon_n, isNon_i, isNon_s, isNon_b, isNon_t, isNon_r, flat_s, flat_i, flat_b, flat_n, weq_ss, weq_ii, weq_ni, weq_in, weq_nn, kb_bb, kb_bi, kb_bs, kb_bl, kb_bt, kb_ib, kb_ii, kb_is, kb_il, kb_it, kb_sb, kb_si, kb_ss, kb_sl, kb_st, kb_lb, kb_li, kb_ls, kb_ll, kb_lt, kb_tb, kb_ti, kb_ts, kb_tl, kb_tt, kb_nb, kb_ni, kb_ns, kb_nl, kb_nt, nth0, nth1, nth2, nth3, mVar, mC, mBin, mUn, mNil, mCons, mCB, mTest, mAnd, mOr, mNot, mIf, mAndV, mOrV, mNotV, mTup, mLst, mChain, mCall, mCallK, reord, mYes, sNext, sSeq, sDrop, sRet, sRetN, sIf, sNever, sBreak, sCont, sAsg, sPar, sAug, sStore, gSet, gsNil, gsCons, gTupW, gStarW, qI2, qI, qNeg, qAbs, qStrI, iLst, iRgn, iRg2, iEnu, iTpl, mDT, mBM, mBM0, mSl, oNone, oSome, sMatch, mGo, mDNew, mDisp_eq, mPairs, EndsD, EndsW.turn, Rho.put, Rho.wipe, Rho.del, rho0, sp1_iff, sp2_iff, sp3_iff, sp4_iff, win, List.filterMap_cons, List.filterMap_nil, List.cons_append, List.nil_append, List.length_cons, List.length_nil, List.all_cons, List.all_nil, List.any_cons, List.any_nil, List.getElem?_cons_zero, List.getElem?_cons_succ, List.getElem?_nil, List.set_cons_zero, List.set_cons_succ, reduceIte, reduceCtorEq, Nat.reduceEqDiff, Nat.reduceAdd, Nat.reduceSub, Nat.reduceMul, Nat.reduceLeDiff, Int.reduceToNat, Int.cast_ofNat_Int, Int.natCast_zero, Int.natCast_one, Int.reduceLE, Int.reduceLT, Int.reduceNeg, Int.reduceAdd, Int.reduceSub, Int.reducePow, Int.reduceEq, Int.reduceNe, Int.toNat_zero, Int.toNat_one, Int.ofNat_eq_natCast, Nat.reducePow, Nat.le_refl, ge_iff_le, gt_iff_lt, List.mem_cons, List.not_mem_nil, or_false, false_or, or_true, true_or, Option.some.injEq, exists_eq_left', exists_eq_left, exists_eq', exists_eq, exists_and_left, exists_and_right, and_assoc, true_and, and_true, false_and, and_false, exists_false, exists_const, not_true_eq_false, not_false_eq_true, W.int.injEq, W.bl.injEq, W.str.injEq, W.ref.injEq, W.tup.injEq, List.cons.injEq, Bool.true_eq_false, Bool.false_eq_true, decide_eq_true_eq, decide_eq_false_iff_not, Bool.not_eq_true', Bool.not_eq_false', Bool.not_true, Bool.not_false, forall_const, true_implies, false_implies, implies_true, imp_self, decide_true, decide_false, Bool.and_true, Bool.true_and, Bool.and_false, Bool.false_and, Bool.or_false, Bool.or_true, Bool.false_or, Bool.true_or, beq_self_eq_true, pw_2_61, pw_10_18, pw_10_30, pw_10_29, pw_10_28, pw_10_40, pw_10_6, pw_10_9, lg_128, eq_self_iff_true, ne_eq, Int.not_lt, Int.not_le, Nat.not_lt, Nat.not_le, BEq.rfl]) | (refine ⟨_, (by first | exact lsAt_i | assumption), ?_⟩) | (refine ⟨mty_l, ?_⟩) | (refine ⟨mty_s, ?_⟩) | (refine ⟨_, ty_l (by first | exact lsAt_i | assumption), ?_⟩)))
        refine ⟨fun h => done _ ⟨fun z => (nomatch z), fun z => ?_⟩, fun h => ?_⟩
        · refine absurd ?_ h
          injection z with z
          rw [hl2, hl, z]
        · refine ⟨by omega, by have := hs.1; omega, ?_⟩
          have hz := hs.1
          exact same_loop hs.1 hs.2 hl2 hl (by omega) hd2 hd (fun C _ i w R e r => ⟨w, by rw [nth_get]; exact e, r⟩) (fun C _ i w R e r => ⟨w, by rw [nth_get]; exact e, r⟩) (fun b hb => k b (by rw [hb]; exact ⟨fun z => by rw [z], fun z => by injection z⟩)) (by rw [hl])
      | _ =>
        (repeat (first | (simp only [Int.zero_add, qIsN_n, qNotN_n, uIsi_r, nm_home, nm_fin, home_nm, fin_nm, sne_down_up, sne_down_right, sne_down_left, sne_down_home, sne_down_end, sne_up_down, sne_up_right, sne_up_left, sne_up_home, sne_up_end, sne_right_down, sne_right_up, sne_right_left, sne_right_home, sne_right_end, sne_left_down, sne_left_up, sne_left_right, sne_left_home, sne_left_end, sne_home_down, sne_home_up, sne_home_right, sne_home_left, sne_home_end, sne_end_down, sne_end_up, sne_end_right, sne_end_left, sne_end_home, sFor_eq, mLc_eq, uAdd_i, uAdd_s, uAdd_l, uMul_i, uMul_l, uEq_ii, uEq_ss, uEq_bb, uEq_nn, uEq_ni, uEq_in, uEq_ns, uEq_sn, uEq_is, uEq_si, uEq_rr, uEq_tt, uEq_rt, uEq_tr, uEq_tn, uEq_nt, uNe_ii, uNe_ss, uNe_bb, uNe_nn, uNe_ni, uNe_in, uNe_ns, uNe_sn, uNe_is, uNe_si, uNe_rr, uNe_tt, uNe_rt, uNe_tr, uNe_tn, uNe_nt, uIn_t, uIn_r, uIx_t, uIx_r, uIx_c, uIx_s, uLen_c, uLen_r, uLen_t, uLen_s, uMin_i, uMin_r, uMax_i, uMax_r, uInt_b, uInt_i, uInt_s, uList_r, uList_t, uIsi_n, uIsi_b, uIsi_i, uIsi_s, uIsi_t, uIsi_c, uSl_c, uSl_r, uSl_s, iOf_r, iOf_c, isNon_n, isNon_i, isNon_s, isNon_b, isNon_t, isNon_r, flat_s, flat_i, flat_b, flat_n, weq_ss, weq_ii, weq_ni, weq_in, weq_nn, kb_bb, kb_bi, kb_bs, kb_bl, kb_bt, kb_ib, kb_ii, kb_is, kb_il, kb_it, kb_sb, kb_si, kb_ss, kb_sl, kb_st, kb_lb, kb_li, kb_ls, kb_ll, kb_lt, kb_tb, kb_ti, kb_ts, kb_tl, kb_tt, kb_nb, kb_ni, kb_ns, kb_nl, kb_nt, nth0, nth1, nth2, nth3, mVar, mC, mBin, mUn, mNil, mCons, mCB, mTest, mAnd, mOr, mNot, mIf, mAndV, mOrV, mNotV, mTup, mLst, mChain, mCall, mCallK, reord, mYes, sNext, sSeq, sDrop, sRet, sRetN, sIf, sNever, sBreak, sCont, sAsg, sPar, sAug, sStore, gSet, gsNil, gsCons, gTupW, gStarW, qI2, qI, qNeg, qAbs, qStrI, iLst, iRgn, iRg2, iEnu, iTpl, mDT, mBM, mBM0, mSl, oNone, oSome, sMatch, mGo, mDNew, mDisp_eq, mPairs, EndsD, EndsW.turn, Rho.put, Rho.wipe, Rho.del, rho0, sp1_iff, sp2_iff, sp3_iff, sp4_iff, win, List.filterMap_cons, List.filterMap_nil, List.cons_append, List.nil_append, List.length_cons, List.length_nil, List.all_cons, List.all_nil, List.any_cons, List.any_nil, List.getElem?_cons_zero, List.getElem?_cons_succ, List.getElem?_nil, List.set_cons_zero, List.set_cons_succ, reduceIte, reduceCtorEq, Nat.reduceEqDiff, Nat.reduceAdd, Nat.reduceSub, Nat.reduceMul, Nat.reduceLeDiff, Int.reduceToNat, Int.cast_ofNat_Int, Int.natCast_zero, Int.natCast_one, Int.reduceLE, Int.reduceLT, Int.reduceNeg, Int.reduceAdd, Int.reduceSub, Int.reducePow, Int.reduceEq, Int.reduceNe, Int.toNat_zero, Int.toNat_one, Int.ofNat_eq_natCast, Nat.reducePow, Nat.le_refl, ge_iff_le, gt_iff_lt, List.mem_cons, List.not_mem_nil, or_false, false_or, or_true, true_or, Option.some.injEq, exists_eq_left', exists_eq_left, exists_eq', exists_eq, exists_and_left, exists_and_right, and_assoc, true_and, and_true, false_and, and_false, exists_false, exists_const, not_true_eq_false, not_false_eq_true, W.int.injEq, W.bl.injEq, W.str.injEq, W.ref.injEq, W.tup.injEq, List.cons.injEq, Bool.true_eq_false, Bool.false_eq_true, decide_eq_true_eq, decide_eq_false_iff_not, Bool.not_eq_true', Bool.not_eq_false', Bool.not_true, Bool.not_false, forall_const, true_implies, false_implies, implies_true, imp_self, decide_true, decide_false, Bool.and_true, Bool.true_and, Bool.and_false, Bool.false_and, Bool.or_false, Bool.or_true, Bool.false_or, Bool.true_or, beq_self_eq_true, pw_2_61, pw_10_18, pw_10_30, pw_10_29, pw_10_28, pw_10_40, pw_10_6, pw_10_9, lg_128, eq_self_iff_true, ne_eq, Int.not_lt, Int.not_le, Nat.not_lt, Nat.not_le, BEq.rfl]) | (refine ⟨_, (by first | exact lsAt_i | assumption), ?_⟩) | (refine ⟨mty_l, ?_⟩) | (refine ⟨mty_s, ?_⟩) | (refine ⟨_, ty_l (by first | exact lsAt_i | assumption), ?_⟩)))
        exact done _ (by simp)
  | @lst a vs es h hl hd =>
    cases n with
    | zero => exact hs.elim
    | succ n =>
      cases hx' with
      | @lst a2 us ds h2 hl2 hd2 =>
        (repeat (first | (simp only [Int.zero_add, qIsN_n, qNotN_n, uIsi_r, nm_home, nm_fin, home_nm, fin_nm, sne_down_up, sne_down_right, sne_down_left, sne_down_home, sne_down_end, sne_up_down, sne_up_right, sne_up_left, sne_up_home, sne_up_end, sne_right_down, sne_right_up, sne_right_left, sne_right_home, sne_right_end, sne_left_down, sne_left_up, sne_left_right, sne_left_home, sne_left_end, sne_home_down, sne_home_up, sne_home_right, sne_home_left, sne_home_end, sne_end_down, sne_end_up, sne_end_right, sne_end_left, sne_end_home, sFor_eq, mLc_eq, uAdd_i, uAdd_s, uAdd_l, uMul_i, uMul_l, uEq_ii, uEq_ss, uEq_bb, uEq_nn, uEq_ni, uEq_in, uEq_ns, uEq_sn, uEq_is, uEq_si, uEq_rr, uEq_tt, uEq_rt, uEq_tr, uEq_tn, uEq_nt, uNe_ii, uNe_ss, uNe_bb, uNe_nn, uNe_ni, uNe_in, uNe_ns, uNe_sn, uNe_is, uNe_si, uNe_rr, uNe_tt, uNe_rt, uNe_tr, uNe_tn, uNe_nt, uIn_t, uIn_r, uIx_t, uIx_r, uIx_c, uIx_s, uLen_c, uLen_r, uLen_t, uLen_s, uMin_i, uMin_r, uMax_i, uMax_r, uInt_b, uInt_i, uInt_s, uList_r, uList_t, uIsi_n, uIsi_b, uIsi_i, uIsi_s, uIsi_t, uIsi_c, uSl_c, uSl_r, uSl_s, iOf_r, iOf_c, isNon_n, isNon_i, isNon_s, isNon_b, isNon_t, isNon_r, flat_s, flat_i, flat_b, flat_n, weq_ss, weq_ii, weq_ni, weq_in, weq_nn, kb_bb, kb_bi, kb_bs, kb_bl, kb_bt, kb_ib, kb_ii, kb_is, kb_il, kb_it, kb_sb, kb_si, kb_ss, kb_sl, kb_st, kb_lb, kb_li, kb_ls, kb_ll, kb_lt, kb_tb, kb_ti, kb_ts, kb_tl, kb_tt, kb_nb, kb_ni, kb_ns, kb_nl, kb_nt, nth0, nth1, nth2, nth3, mVar, mC, mBin, mUn, mNil, mCons, mCB, mTest, mAnd, mOr, mNot, mIf, mAndV, mOrV, mNotV, mTup, mLst, mChain, mCall, mCallK, reord, mYes, sNext, sSeq, sDrop, sRet, sRetN, sIf, sNever, sBreak, sCont, sAsg, sPar, sAug, sStore, gSet, gsNil, gsCons, gTupW, gStarW, qI2, qI, qNeg, qAbs, qStrI, iLst, iRgn, iRg2, iEnu, iTpl, mDT, mBM, mBM0, mSl, oNone, oSome, sMatch, mGo, mDNew, mDisp_eq, mPairs, EndsD, EndsW.turn, Rho.put, Rho.wipe, Rho.del, rho0, sp1_iff, sp2_iff, sp3_iff, sp4_iff, win, List.filterMap_cons, List.filterMap_nil, List.cons_append, List.nil_append, List.length_cons, List.length_nil, List.all_cons, List.all_nil, List.any_cons, List.any_nil, List.getElem?_cons_zero, List.getElem?_cons_succ, List.getElem?_nil, List.set_cons_zero, List.set_cons_succ, reduceIte, reduceCtorEq, Nat.reduceEqDiff, Nat.reduceAdd, Nat.reduceSub, Nat.reduceMul, Nat.reduceLeDiff, Int.reduceToNat, Int.cast_ofNat_Int, Int.natCast_zero, Int.natCast_one, Int.reduceLE, Int.reduceLT, Int.reduceNeg, Int.reduceAdd, Int.reduceSub, Int.reducePow, Int.reduceEq, Int.reduceNe, Int.toNat_zero, Int.toNat_one, Int.ofNat_eq_natCast, Nat.reducePow, Nat.le_refl, ge_iff_le, gt_iff_lt, List.mem_cons, List.not_mem_nil, or_false, false_or, or_true, true_or, Option.some.injEq, exists_eq_left', exists_eq_left, exists_eq', exists_eq, exists_and_left, exists_and_right, and_assoc, true_and, and_true, false_and, and_false, exists_false, exists_const, not_true_eq_false, not_false_eq_true, W.int.injEq, W.bl.injEq, W.str.injEq, W.ref.injEq, W.tup.injEq, List.cons.injEq, Bool.true_eq_false, Bool.false_eq_true, decide_eq_true_eq, decide_eq_false_iff_not, Bool.not_eq_true', Bool.not_eq_false', Bool.not_true, Bool.not_false, forall_const, true_implies, false_implies, implies_true, imp_self, decide_true, decide_false, Bool.and_true, Bool.true_and, Bool.and_false, Bool.false_and, Bool.or_false, Bool.or_true, Bool.false_or, Bool.true_or, beq_self_eq_true, pw_2_61, pw_10_18, pw_10_30, pw_10_29, pw_10_28, pw_10_40, pw_10_6, pw_10_9, lg_128, eq_self_iff_true, ne_eq, Int.not_lt, Int.not_le, Nat.not_lt, Nat.not_le, BEq.rfl]) | (refine ⟨_, (by first | exact lsAt_i | assumption), ?_⟩) | (refine ⟨mty_l, ?_⟩) | (refine ⟨mty_s, ?_⟩) | (refine ⟨_, ty_l (by first | exact lsAt_i | assumption), ?_⟩)))
        refine ⟨fun h3 => done _ ⟨fun z => (nomatch z), fun z => ?_⟩, fun h3 => ?_⟩
        · refine absurd ?_ h3
          injection z with z
          rw [hl2, hl, z]
        · refine ⟨vs, h, by omega, by have := hs.1; omega, ?_⟩
          exact same_loop hs.1 hs.2 hl2 hl (by omega) hd2 hd (fun C mo i w R e r => ⟨us, w, mo _ _ h2, by rw [nth_get]; exact e, r⟩) (fun C mo i w R e r => ⟨vs, w, mo _ _ h, by rw [nth_get]; exact e, r⟩) (fun b hb => k b (by rw [hb]; exact ⟨fun z => by rw [z], fun z => by injection z⟩)) (by rw [hl])
      | _ =>
        (repeat (first | (simp only [Int.zero_add, qIsN_n, qNotN_n, uIsi_r, nm_home, nm_fin, home_nm, fin_nm, sne_down_up, sne_down_right, sne_down_left, sne_down_home, sne_down_end, sne_up_down, sne_up_right, sne_up_left, sne_up_home, sne_up_end, sne_right_down, sne_right_up, sne_right_left, sne_right_home, sne_right_end, sne_left_down, sne_left_up, sne_left_right, sne_left_home, sne_left_end, sne_home_down, sne_home_up, sne_home_right, sne_home_left, sne_home_end, sne_end_down, sne_end_up, sne_end_right, sne_end_left, sne_end_home, sFor_eq, mLc_eq, uAdd_i, uAdd_s, uAdd_l, uMul_i, uMul_l, uEq_ii, uEq_ss, uEq_bb, uEq_nn, uEq_ni, uEq_in, uEq_ns, uEq_sn, uEq_is, uEq_si, uEq_rr, uEq_tt, uEq_rt, uEq_tr, uEq_tn, uEq_nt, uNe_ii, uNe_ss, uNe_bb, uNe_nn, uNe_ni, uNe_in, uNe_ns, uNe_sn, uNe_is, uNe_si, uNe_rr, uNe_tt, uNe_rt, uNe_tr, uNe_tn, uNe_nt, uIn_t, uIn_r, uIx_t, uIx_r, uIx_c, uIx_s, uLen_c, uLen_r, uLen_t, uLen_s, uMin_i, uMin_r, uMax_i, uMax_r, uInt_b, uInt_i, uInt_s, uList_r, uList_t, uIsi_n, uIsi_b, uIsi_i, uIsi_s, uIsi_t, uIsi_c, uSl_c, uSl_r, uSl_s, iOf_r, iOf_c, isNon_n, isNon_i, isNon_s, isNon_b, isNon_t, isNon_r, flat_s, flat_i, flat_b, flat_n, weq_ss, weq_ii, weq_ni, weq_in, weq_nn, kb_bb, kb_bi, kb_bs, kb_bl, kb_bt, kb_ib, kb_ii, kb_is, kb_il, kb_it, kb_sb, kb_si, kb_ss, kb_sl, kb_st, kb_lb, kb_li, kb_ls, kb_ll, kb_lt, kb_tb, kb_ti, kb_ts, kb_tl, kb_tt, kb_nb, kb_ni, kb_ns, kb_nl, kb_nt, nth0, nth1, nth2, nth3, mVar, mC, mBin, mUn, mNil, mCons, mCB, mTest, mAnd, mOr, mNot, mIf, mAndV, mOrV, mNotV, mTup, mLst, mChain, mCall, mCallK, reord, mYes, sNext, sSeq, sDrop, sRet, sRetN, sIf, sNever, sBreak, sCont, sAsg, sPar, sAug, sStore, gSet, gsNil, gsCons, gTupW, gStarW, qI2, qI, qNeg, qAbs, qStrI, iLst, iRgn, iRg2, iEnu, iTpl, mDT, mBM, mBM0, mSl, oNone, oSome, sMatch, mGo, mDNew, mDisp_eq, mPairs, EndsD, EndsW.turn, Rho.put, Rho.wipe, Rho.del, rho0, sp1_iff, sp2_iff, sp3_iff, sp4_iff, win, List.filterMap_cons, List.filterMap_nil, List.cons_append, List.nil_append, List.length_cons, List.length_nil, List.all_cons, List.all_nil, List.any_cons, List.any_nil, List.getElem?_cons_zero, List.getElem?_cons_succ, List.getElem?_nil, List.set_cons_zero, List.set_cons_succ, reduceIte, reduceCtorEq, Nat.reduceEqDiff, Nat.reduceAdd, Nat.reduceSub, Nat.reduceMul, Nat.reduceLeDiff, Int.reduceToNat, Int.cast_ofNat_Int, Int.natCast_zero, Int.natCast_one, Int.reduceLE, Int.reduceLT, Int.reduceNeg, Int.reduceAdd, Int.reduceSub, Int.reducePow, Int.reduceEq, Int.reduceNe, Int.toNat_zero, Int.toNat_one, Int.ofNat_eq_natCast, Nat.reducePow, Nat.le_refl, ge_iff_le, gt_iff_lt, List.mem_cons, List.not_mem_nil, or_false, false_or, or_true, true_or, Option.some.injEq, exists_eq_left', exists_eq_left, exists_eq', exists_eq, exists_and_left, exists_and_right, and_assoc, true_and, and_true, false_and, and_false, exists_false, exists_const, not_true_eq_false, not_false_eq_true, W.int.injEq, W.bl.injEq, W.str.injEq, W.ref.injEq, W.tup.injEq, List.cons.injEq, Bool.true_eq_false, Bool.false_eq_true, decide_eq_true_eq, decide_eq_false_iff_not, Bool.not_eq_true', Bool.not_eq_false', Bool.not_true, Bool.not_false, forall_const, true_implies, false_implies, implies_true, imp_self, decide_true, decide_false, Bool.and_true, Bool.true_and, Bool.and_false, Bool.false_and, Bool.or_false, Bool.or_true, Bool.false_or, Bool.true_or, beq_self_eq_true, pw_2_61, pw_10_18, pw_10_30, pw_10_29, pw_10_28, pw_10_40, pw_10_6, pw_10_9, lg_128, eq_self_iff_true, ne_eq, Int.not_lt, Int.not_le, Nat.not_lt, Nat.not_le, BEq.rfl]) | (refine ⟨_, (by first | exact lsAt_i | assumption), ?_⟩) | (refine ⟨mty_l, ?_⟩) | (refine ⟨mty_s, ?_⟩) | (refine ⟨_, ty_l (by first | exact lsAt_i | assumption), ?_⟩)))
        exact done _ (by simp)
/-! ### _law_number -/
abbrev sp__law_number : SpW := spS1 2 fun w => ∃ r : Int, w = .int r ∧ 1 ≤ r ∧ r ≤ 999999999999999999999999999999
theorem len__law_number : ∀ ws Cs Q E, sp__law_number ws Cs Q E → ws.length = 1 := len1
def b__law_number : MS := sRet (mBin uAdd (mC (.int 1)) (mCall (cl sp__law_draw) (mCons (mVar 0) (mCons (mBin uIx (mLst (mCons (mC (.int 3)) (mCons (mC (.int 6)) (mCons (mC (.int 12)) (mCons (mC (.int 300)) (mCons (mBin qSub (mBin qPow (mC (.int 10)) (mC (.int 30))) (mC (.int 1))) (mNil))))))) (mCall (cl sp__law_draw) (mCons (mVar 0) (mCons (mC (.int 5)) (mNil))))) (mNil)))))
def kb__law_number : List KSig := []
theorem pure__law_number : ∀ ws Cs Q E, sp__law_number ws Cs Q E → b__law_number (EndsD Q E) (rho0 ws) Cs := by
  rintro ws Cs Q E ⟨x, rfl, q, S, Ds, N, rfl, rfl, ok, hN, k⟩
  (repeat (first | (simp only [b__law_number, Int.zero_add, qIsN_n, qNotN_n, uIsi_r, nm_home, nm_fin, home_nm, fin_nm, sne_down_up, sne_down_right, sne_down_left, sne_down_home, sne_down_end, sne_up_down, sne_up_right, sne_up_left, sne_up_home, sne_up_end, sne_right_down, sne_right_up, sne_right_left, sne_right_home, sne_right_end, sne_left_down, sne_left_up, sne_left_right, sne_left_home, sne_left_end, sne_home_down, sne_home_up, sne_home_right, sne_home_left, sne_home_end, sne_end_down, sne_end_up, sne_end_right, sne_end_left, sne_end_home, sFor_eq, mLc_eq, uAdd_i, uAdd_s, uAdd_l, uMul_i, uMul_l, uEq_ii, uEq_ss, uEq_bb, uEq_nn, uEq_ni, uEq_in, uEq_ns, uEq_sn, uEq_is, uEq_si, uEq_rr, uEq_tt, uEq_rt, uEq_tr, uEq_tn, uEq_nt, uNe_ii, uNe_ss, uNe_bb, uNe_nn, uNe_ni, uNe_in, uNe_ns, uNe_sn, uNe_is, uNe_si, uNe_rr, uNe_tt, uNe_rt, uNe_tr, uNe_tn, uNe_nt, uIn_t, uIn_r, uIx_t, uIx_r, uIx_c, uIx_s, uLen_c, uLen_r, uLen_t, uLen_s, uMin_i, uMin_r, uMax_i, uMax_r, uInt_b, uInt_i, uInt_s, uList_r, uList_t, uIsi_n, uIsi_b, uIsi_i, uIsi_s, uIsi_t, uIsi_c, uSl_c, uSl_r, uSl_s, iOf_r, iOf_c, isNon_n, isNon_i, isNon_s, isNon_b, isNon_t, isNon_r, flat_s, flat_i, flat_b, flat_n, weq_ss, weq_ii, weq_ni, weq_in, weq_nn, kb_bb, kb_bi, kb_bs, kb_bl, kb_bt, kb_ib, kb_ii, kb_is, kb_il, kb_it, kb_sb, kb_si, kb_ss, kb_sl, kb_st, kb_lb, kb_li, kb_ls, kb_ll, kb_lt, kb_tb, kb_ti, kb_ts, kb_tl, kb_tt, kb_nb, kb_ni, kb_ns, kb_nl, kb_nt, nth0, nth1, nth2, nth3, mVar, mC, mBin, mUn, mNil, mCons, mCB, mTest, mAnd, mOr, mNot, mIf, mAndV, mOrV, mNotV, mTup, mLst, mChain, mCall, mCallK, reord, mYes, sNext, sSeq, sDrop, sRet, sRetN, sIf, sNever, sBreak, sCont, sAsg, sPar, sAug, sStore, gSet, gsNil, gsCons, gTupW, gStarW, qI2, qI, qNeg, qAbs, qStrI, iLst, iRgn, iRg2, iEnu, iTpl, mDT, mBM, mBM0, mSl, oNone, oSome, sMatch, mGo, mDNew, mDisp_eq, mPairs, EndsD, EndsW.turn, Rho.put, Rho.wipe, Rho.del, rho0, sp1_iff, sp2_iff, sp3_iff, sp4_iff, win, List.filterMap_cons, List.filterMap_nil, List.cons_append, List.nil_append, List.length_cons, List.length_nil, List.all_cons, List.all_nil, List.any_cons, List.any_nil, List.getElem?_cons_zero, List.getElem?_cons_succ, List.getElem?_nil, List.set_cons_zero, List.set_cons_succ, reduceIte, reduceCtorEq, Nat.reduceEqDiff, Nat.reduceAdd, Nat.reduceSub, Nat.reduceMul, Nat.reduceLeDiff, Int.reduceToNat, Int.cast_ofNat_Int, Int.natCast_zero, Int.natCast_one, Int.reduceLE, Int.reduceLT, Int.reduceNeg, Int.reduceAdd, Int.reduceSub, Int.reducePow, Int.reduceEq, Int.reduceNe, Int.toNat_zero, Int.toNat_one, Int.ofNat_eq_natCast, Nat.reducePow, Nat.le_refl, ge_iff_le, gt_iff_lt, List.mem_cons, List.not_mem_nil, or_false, false_or, or_true, true_or, Option.some.injEq, exists_eq_left', exists_eq_left, exists_eq', exists_eq, exists_and_left, exists_and_right, and_assoc, true_and, and_true, false_and, and_false, exists_false, exists_const, not_true_eq_false, not_false_eq_true, W.int.injEq, W.bl.injEq, W.str.injEq, W.ref.injEq, W.tup.injEq, List.cons.injEq, Bool.true_eq_false, Bool.false_eq_true, decide_eq_true_eq, decide_eq_false_iff_not, Bool.not_eq_true', Bool.not_eq_false', Bool.not_true, Bool.not_false, forall_const, true_implies, false_implies, implies_true, imp_self, decide_true, decide_false, Bool.and_true, Bool.true_and, Bool.and_false, Bool.false_and, Bool.or_false, Bool.or_true, Bool.false_or, Bool.true_or, beq_self_eq_true, pw_2_61, pw_10_18, pw_10_30, pw_10_29, pw_10_28, pw_10_40, pw_10_6, pw_10_9, lg_128, eq_self_iff_true, ne_eq, Int.not_lt, Int.not_le, Nat.not_lt, Nat.not_le, BEq.rfl]) | (refine ⟨_, (by first | exact lsAt_i | assumption), ?_⟩) | (refine ⟨mty_l, ?_⟩) | (refine ⟨mty_s, ?_⟩) | (refine ⟨_, ty_l (by first | exact lsAt_i | assumption), ?_⟩)))
  intro p
  (repeat (first | (simp only [Int.zero_add, qIsN_n, qNotN_n, uIsi_r, nm_home, nm_fin, home_nm, fin_nm, sne_down_up, sne_down_right, sne_down_left, sne_down_home, sne_down_end, sne_up_down, sne_up_right, sne_up_left, sne_up_home, sne_up_end, sne_right_down, sne_right_up, sne_right_left, sne_right_home, sne_right_end, sne_left_down, sne_left_up, sne_left_right, sne_left_home, sne_left_end, sne_home_down, sne_home_up, sne_home_right, sne_home_left, sne_home_end, sne_end_down, sne_end_up, sne_end_right, sne_end_left, sne_end_home, sFor_eq, mLc_eq, uAdd_i, uAdd_s, uAdd_l, uMul_i, uMul_l, uEq_ii, uEq_ss, uEq_bb, uEq_nn, uEq_ni, uEq_in, uEq_ns, uEq_sn, uEq_is, uEq_si, uEq_rr, uEq_tt, uEq_rt, uEq_tr, uEq_tn, uEq_nt, uNe_ii, uNe_ss, uNe_bb, uNe_nn, uNe_ni, uNe_in, uNe_ns, uNe_sn, uNe_is, uNe_si, uNe_rr, uNe_tt, uNe_rt, uNe_tr, uNe_tn, uNe_nt, uIn_t, uIn_r, uIx_t, uIx_r, uIx_c, uIx_s, uLen_c, uLen_r, uLen_t, uLen_s, uMin_i, uMin_r, uMax_i, uMax_r, uInt_b, uInt_i, uInt_s, uList_r, uList_t, uIsi_n, uIsi_b, uIsi_i, uIsi_s, uIsi_t, uIsi_c, uSl_c, uSl_r, uSl_s, iOf_r, iOf_c, isNon_n, isNon_i, isNon_s, isNon_b, isNon_t, isNon_r, flat_s, flat_i, flat_b, flat_n, weq_ss, weq_ii, weq_ni, weq_in, weq_nn, kb_bb, kb_bi, kb_bs, kb_bl, kb_bt, kb_ib, kb_ii, kb_is, kb_il, kb_it, kb_sb, kb_si, kb_ss, kb_sl, kb_st, kb_lb, kb_li, kb_ls, kb_ll, kb_lt, kb_tb, kb_ti, kb_ts, kb_tl, kb_tt, kb_nb, kb_ni, kb_ns, kb_nl, kb_nt, nth0, nth1, nth2, nth3, mVar, mC, mBin, mUn, mNil, mCons, mCB, mTest, mAnd, mOr, mNot, mIf, mAndV, mOrV, mNotV, mTup, mLst, mChain, mCall, mCallK, reord, mYes, sNext, sSeq, sDrop, sRet, sRetN, sIf, sNever, sBreak, sCont, sAsg, sPar, sAug, sStore, gSet, gsNil, gsCons, gTupW, gStarW, qI2, qI, qNeg, qAbs, qStrI, iLst, iRgn, iRg2, iEnu, iTpl, mDT, mBM, mBM0, mSl, oNone, oSome, sMatch, mGo, mDNew, mDisp_eq, mPairs, EndsD, EndsW.turn, Rho.put, Rho.wipe, Rho.del, rho0, sp1_iff, sp2_iff, sp3_iff, sp4_iff, win, List.filterMap_cons, List.filterMap_nil, List.cons_append, List.nil_append, List.length_cons, List.length_nil, List.all_cons, List.all_nil, List.any_cons, List.any_nil, List.getElem?_cons_zero, List.getElem?_cons_succ, List.getElem?_nil, List.set_cons_zero, List.set_cons_succ, reduceIte, reduceCtorEq, Nat.reduceEqDiff, Nat.reduceAdd, Nat.reduceSub, Nat.reduceMul, Nat.reduceLeDiff, Int.reduceToNat, Int.cast_ofNat_Int, Int.natCast_zero, Int.natCast_one, Int.reduceLE, Int.reduceLT, Int.reduceNeg, Int.reduceAdd, Int.reduceSub, Int.reducePow, Int.reduceEq, Int.reduceNe, Int.toNat_zero, Int.toNat_one, Int.ofNat_eq_natCast, Nat.reducePow, Nat.le_refl, ge_iff_le, gt_iff_lt, List.mem_cons, List.not_mem_nil, or_false, false_or, or_true, true_or, Option.some.injEq, exists_eq_left', exists_eq_left, exists_eq', exists_eq, exists_and_left, exists_and_right, and_assoc, true_and, and_true, false_and, and_false, exists_false, exists_const, not_true_eq_false, not_false_eq_true, W.int.injEq, W.bl.injEq, W.str.injEq, W.ref.injEq, W.tup.injEq, List.cons.injEq, Bool.true_eq_false, Bool.false_eq_true, decide_eq_true_eq, decide_eq_false_iff_not, Bool.not_eq_true', Bool.not_eq_false', Bool.not_true, Bool.not_false, forall_const, true_implies, false_implies, implies_true, imp_self, decide_true, decide_false, Bool.and_true, Bool.true_and, Bool.and_false, Bool.false_and, Bool.or_false, Bool.or_true, Bool.false_or, Bool.true_or, beq_self_eq_true, pw_2_61, pw_10_18, pw_10_30, pw_10_29, pw_10_28, pw_10_40, pw_10_6, pw_10_9, lg_128, eq_self_iff_true, ne_eq, Int.not_lt, Int.not_le, Nat.not_lt, Nat.not_le, BEq.rfl]) | (refine ⟨_, (by first | exact lsAt_i | assumption), ?_⟩) | (refine ⟨mty_l, ?_⟩) | (refine ⟨mty_s, ?_⟩) | (refine ⟨_, ty_l (by first | exact lsAt_i | assumption), ?_⟩)))
  refine draw_i (by decide) (by decide) ok (by omega) fun r S1 h0 h1 ok1 => ?_
  (repeat (first | (simp only [Int.zero_add, qIsN_n, qNotN_n, uIsi_r, nm_home, nm_fin, home_nm, fin_nm, sne_down_up, sne_down_right, sne_down_left, sne_down_home, sne_down_end, sne_up_down, sne_up_right, sne_up_left, sne_up_home, sne_up_end, sne_right_down, sne_right_up, sne_right_left, sne_right_home, sne_right_end, sne_left_down, sne_left_up, sne_left_right, sne_left_home, sne_left_end, sne_home_down, sne_home_up, sne_home_right, sne_home_left, sne_home_end, sne_end_down, sne_end_up, sne_end_right, sne_end_left, sne_end_home, sFor_eq, mLc_eq, uAdd_i, uAdd_s, uAdd_l, uMul_i, uMul_l, uEq_ii, uEq_ss, uEq_bb, uEq_nn, uEq_ni, uEq_in, uEq_ns, uEq_sn, uEq_is, uEq_si, uEq_rr, uEq_tt, uEq_rt, uEq_tr, uEq_tn, uEq_nt, uNe_ii, uNe_ss, uNe_bb, uNe_nn, uNe_ni, uNe_in, uNe_ns, uNe_sn, uNe_is, uNe_si, uNe_rr, uNe_tt, uNe_rt, uNe_tr, uNe_tn, uNe_nt, uIn_t, uIn_r, uIx_t, uIx_r, uIx_c, uIx_s, uLen_c, uLen_r, uLen_t, uLen_s, uMin_i, uMin_r, uMax_i, uMax_r, uInt_b, uInt_i, uInt_s, uList_r, uList_t, uIsi_n, uIsi_b, uIsi_i, uIsi_s, uIsi_t, uIsi_c, uSl_c, uSl_r, uSl_s, iOf_r, iOf_c, isNon_n, isNon_i, isNon_s, isNon_b, isNon_t, isNon_r, flat_s, flat_i, flat_b, flat_n, weq_ss, weq_ii, weq_ni, weq_in, weq_nn, kb_bb, kb_bi, kb_bs, kb_bl, kb_bt, kb_ib, kb_ii, kb_is, kb_il, kb_it, kb_sb, kb_si, kb_ss, kb_sl, kb_st, kb_lb, kb_li, kb_ls, kb_ll, kb_lt, kb_tb, kb_ti, kb_ts, kb_tl, kb_tt, kb_nb, kb_ni, kb_ns, kb_nl, kb_nt, nth0, nth1, nth2, nth3, mVar, mC, mBin, mUn, mNil, mCons, mCB, mTest, mAnd, mOr, mNot, mIf, mAndV, mOrV, mNotV, mTup, mLst, mChain, mCall, mCallK, reord, mYes, sNext, sSeq, sDrop, sRet, sRetN, sIf, sNever, sBreak, sCont, sAsg, sPar, sAug, sStore, gSet, gsNil, gsCons, gTupW, gStarW, qI2, qI, qNeg, qAbs, qStrI, iLst, iRgn, iRg2, iEnu, iTpl, mDT, mBM, mBM0, mSl, oNone, oSome, sMatch, mGo, mDNew, mDisp_eq, mPairs, EndsD, EndsW.turn, Rho.put, Rho.wipe, Rho.del, rho0, sp1_iff, sp2_iff, sp3_iff, sp4_iff, win, List.filterMap_cons, List.filterMap_nil, List.cons_append, List.nil_append, List.length_cons, List.length_nil, List.all_cons, List.all_nil, List.any_cons, List.any_nil, List.getElem?_cons_zero, List.getElem?_cons_succ, List.getElem?_nil, List.set_cons_zero, List.set_cons_succ, reduceIte, reduceCtorEq, Nat.reduceEqDiff, Nat.reduceAdd, Nat.reduceSub, Nat.reduceMul, Nat.reduceLeDiff, Int.reduceToNat, Int.cast_ofNat_Int, Int.natCast_zero, Int.natCast_one, Int.reduceLE, Int.reduceLT, Int.reduceNeg, Int.reduceAdd, Int.reduceSub, Int.reducePow, Int.reduceEq, Int.reduceNe, Int.toNat_zero, Int.toNat_one, Int.ofNat_eq_natCast, Nat.reducePow, Nat.le_refl, ge_iff_le, gt_iff_lt, List.mem_cons, List.not_mem_nil, or_false, false_or, or_true, true_or, Option.some.injEq, exists_eq_left', exists_eq_left, exists_eq', exists_eq, exists_and_left, exists_and_right, and_assoc, true_and, and_true, false_and, and_false, exists_false, exists_const, not_true_eq_false, not_false_eq_true, W.int.injEq, W.bl.injEq, W.str.injEq, W.ref.injEq, W.tup.injEq, List.cons.injEq, Bool.true_eq_false, Bool.false_eq_true, decide_eq_true_eq, decide_eq_false_iff_not, Bool.not_eq_true', Bool.not_eq_false', Bool.not_true, Bool.not_false, forall_const, true_implies, false_implies, implies_true, imp_self, decide_true, decide_false, Bool.and_true, Bool.true_and, Bool.and_false, Bool.false_and, Bool.or_false, Bool.or_true, Bool.false_or, Bool.true_or, beq_self_eq_true, pw_2_61, pw_10_18, pw_10_30, pw_10_29, pw_10_28, pw_10_40, pw_10_6, pw_10_9, lg_128, eq_self_iff_true, ne_eq, Int.not_lt, Int.not_le, Nat.not_lt, Nat.not_le, BEq.rfl]) | (refine ⟨_, (by first | exact lsAt_i | assumption), ?_⟩) | (refine ⟨mty_l, ?_⟩) | (refine ⟨mty_s, ?_⟩) | (refine ⟨_, ty_l (by first | exact lsAt_i | assumption), ?_⟩)))
  refine nth_i h0 h1 fun w hw => ?_
  obtain ⟨m, rfl, hm, hM⟩ : ∃ m : Int, w = .int m ∧ 0 < m ∧ m ≤ 999999999999999999999999999999 := by
    simp only [List.mem_cons, List.not_mem_nil, or_false] at hw
    rcases hw with rfl | rfl | rfl | rfl | rfl <;> exact ⟨_, rfl, by decide, by decide⟩
  refine draw_i hm (by omega) ok1 (by omega) fun r2 S2 h2 h3 ok2 => ?_
  (repeat (first | (simp only [Int.zero_add, qIsN_n, qNotN_n, uIsi_r, nm_home, nm_fin, home_nm, fin_nm, sne_down_up, sne_down_right, sne_down_left, sne_down_home, sne_down_end, sne_up_down, sne_up_right, sne_up_left, sne_up_home, sne_up_end, sne_right_down, sne_right_up, sne_right_left, sne_right_home, sne_right_end, sne_left_down, sne_left_up, sne_left_right, sne_left_home, sne_left_end, sne_home_down, sne_home_up, sne_home_right, sne_home_left, sne_home_end, sne_end_down, sne_end_up, sne_end_right, sne_end_left, sne_end_home, sFor_eq, mLc_eq, uAdd_i, uAdd_s, uAdd_l, uMul_i, uMul_l, uEq_ii, uEq_ss, uEq_bb, uEq_nn, uEq_ni, uEq_in, uEq_ns, uEq_sn, uEq_is, uEq_si, uEq_rr, uEq_tt, uEq_rt, uEq_tr, uEq_tn, uEq_nt, uNe_ii, uNe_ss, uNe_bb, uNe_nn, uNe_ni, uNe_in, uNe_ns, uNe_sn, uNe_is, uNe_si, uNe_rr, uNe_tt, uNe_rt, uNe_tr, uNe_tn, uNe_nt, uIn_t, uIn_r, uIx_t, uIx_r, uIx_c, uIx_s, uLen_c, uLen_r, uLen_t, uLen_s, uMin_i, uMin_r, uMax_i, uMax_r, uInt_b, uInt_i, uInt_s, uList_r, uList_t, uIsi_n, uIsi_b, uIsi_i, uIsi_s, uIsi_t, uIsi_c, uSl_c, uSl_r, uSl_s, iOf_r, iOf_c, isNon_n, isNon_i, isNon_s, isNon_b, isNon_t, isNon_r, flat_s, flat_i, flat_b, flat_n, weq_ss, weq_ii, weq_ni, weq_in, weq_nn, kb_bb, kb_bi, kb_bs, kb_bl, kb_bt, kb_ib, kb_ii, kb_is, kb_il, kb_it, kb_sb, kb_si, kb_ss, kb_sl, kb_st, kb_lb, kb_li, kb_ls, kb_ll, kb_lt, kb_tb, kb_ti, kb_ts, kb_tl, kb_tt, kb_nb, kb_ni, kb_ns, kb_nl, kb_nt, nth0, nth1, nth2, nth3, mVar, mC, mBin, mUn, mNil, mCons, mCB, mTest, mAnd, mOr, mNot, mIf, mAndV, mOrV, mNotV, mTup, mLst, mChain, mCall, mCallK, reord, mYes, sNext, sSeq, sDrop, sRet, sRetN, sIf, sNever, sBreak, sCont, sAsg, sPar, sAug, sStore, gSet, gsNil, gsCons, gTupW, gStarW, qI2, qI, qNeg, qAbs, qStrI, iLst, iRgn, iRg2, iEnu, iTpl, mDT, mBM, mBM0, mSl, oNone, oSome, sMatch, mGo, mDNew, mDisp_eq, mPairs, EndsD, EndsW.turn, Rho.put, Rho.wipe, Rho.del, rho0, sp1_iff, sp2_iff, sp3_iff, sp4_iff, win, List.filterMap_cons, List.filterMap_nil, List.cons_append, List.nil_append, List.length_cons, List.length_nil, List.all_cons, List.all_nil, List.any_cons, List.any_nil, List.getElem?_cons_zero, List.getElem?_cons_succ, List.getElem?_nil, List.set_cons_zero, List.set_cons_succ, reduceIte, reduceCtorEq, Nat.reduceEqDiff, Nat.reduceAdd, Nat.reduceSub, Nat.reduceMul, Nat.reduceLeDiff, Int.reduceToNat, Int.cast_ofNat_Int, Int.natCast_zero, Int.natCast_one, Int.reduceLE, Int.reduceLT, Int.reduceNeg, Int.reduceAdd, Int.reduceSub, Int.reducePow, Int.reduceEq, Int.reduceNe, Int.toNat_zero, Int.toNat_one, Int.ofNat_eq_natCast, Nat.reducePow, Nat.le_refl, ge_iff_le, gt_iff_lt, List.mem_cons, List.not_mem_nil, or_false, false_or, or_true, true_or, Option.some.injEq, exists_eq_left', exists_eq_left, exists_eq', exists_eq, exists_and_left, exists_and_right, and_assoc, true_and, and_true, false_and, and_false, exists_false, exists_const, not_true_eq_false, not_false_eq_true, W.int.injEq, W.bl.injEq, W.str.injEq, W.ref.injEq, W.tup.injEq, List.cons.injEq, Bool.true_eq_false, Bool.false_eq_true, decide_eq_true_eq, decide_eq_false_iff_not, Bool.not_eq_true', Bool.not_eq_false', Bool.not_true, Bool.not_false, forall_const, true_implies, false_implies, implies_true, imp_self, decide_true, decide_false, Bool.and_true, Bool.true_and, Bool.and_false, Bool.false_and, Bool.or_false, Bool.or_true, Bool.false_or, Bool.true_or, beq_self_eq_true, pw_2_61, pw_10_18, pw_10_30, pw_10_29, pw_10_28, pw_10_40, pw_10_6, pw_10_9, lg_128, eq_self_iff_true, ne_eq, Int.not_lt, Int.not_le, Nat.not_lt, Nat.not_le, BEq.rfl]) | (refine ⟨_, (by first | exact lsAt_i | assumption), ?_⟩) | (refine ⟨mty_l, ?_⟩) | (refine ⟨mty_s, ?_⟩) | (refine ⟨_, ty_l (by first | exact lsAt_i | assumption), ?_⟩)))
  exact ⟨_, inferInstance, k _ S2 ⟨_, rfl, by omega, by omega⟩ ok2⟩
/-! ### _law_command -/
abbrev sp__law_command : SpW := spS1 5 fun w => ∃ c : Cmd, w = c.w ∧ c.ok 999999999999999999999999999999
theorem len__law_command : ∀ ws Cs Q E, sp__law_command ws Cs Q E → ws.length = 1 := len1
def b__law_command : MS := sSeq (sAsg (mBin uIx (mLst (mCons (mC (.str "down")) (mCons (mC (.str "up")) (mCons (mC (.str "right")) (mCons (mC (.str "left")) (mCons (mC (.str "right")) (mCons (mC (.str "left")) (mCons (mC (.str "home")) (mCons (mC (.str "end")) (mNil)))))))))) (mCall (cl sp__law_draw) (mCons (mVar 0) (mCons (mC (.int 8)) (mNil))))) (gSet 1)) (sSeq (sIf (mTest (mBin (uIn false) (mVar 1) (mTup (mCons (mC (.str "home")) (mCons (mC (.str "end")) (mNil)))))) (sRet (mTup (mCons (mVar 1) (mNil)))) (sNext)) (sRet (mTup (mCons (mVar 1) (mCons (mBin uIx (mLst (mCons (mC (.int 1)) (mCons (mBin uAdd (mC (.int 1)) (mCall (cl sp__law_draw) (mCons (mVar 0) (mCons (mC (.int 4)) (mNil))))) (mCons (mCall (cl sp__law_number) (mCons (mVar 0) (mNil))) (mNil))))) (mCall (cl sp__law_draw) (mCons (mVar 0) (mCons (mC (.int 3)) (mNil))))) (mNil))))))
def kb__law_command : List KSig := []
theorem pure__law_command : ∀ ws Cs Q E, sp__law_command ws Cs Q E → b__law_command (EndsD Q E) (rho0 ws) Cs := by
  rintro ws Cs Q E ⟨x, rfl, q, S, Ds, N, rfl, rfl, ok, hN, k⟩
  (repeat (first | (simp only [b__law_command, Int.zero_add, qIsN_n, qNotN_n, uIsi_r, nm_home, nm_fin, home_nm, fin_nm, sne_down_up, sne_down_right, sne_down_left, sne_down_home, sne_down_end, sne_up_down, sne_up_right, sne_up_left, sne_up_home, sne_up_end, sne_right_down, sne_right_up, sne_right_left, sne_right_home, sne_right_end, sne_left_down, sne_left_up, sne_left_right, sne_left_home, sne_left_end, sne_home_down, sne_home_up, sne_home_right, sne_home_left, sne_home_end, sne_end_down, sne_end_up, sne_end_right, sne_end_left, sne_end_home, sFor_eq, mLc_eq, uAdd_i, uAdd_s, uAdd_l, uMul_i, uMul_l, uEq_ii, uEq_ss, uEq_bb, uEq_nn, uEq_ni, uEq_in, uEq_ns, uEq_sn, uEq_is, uEq_si, uEq_rr, uEq_tt, uEq_rt, uEq_tr, uEq_tn, uEq_nt, uNe_ii, uNe_ss, uNe_bb, uNe_nn, uNe_ni, uNe_in, uNe_ns, uNe_sn, uNe_is, uNe_si, uNe_rr, uNe_tt, uNe_rt, uNe_tr, uNe_tn, uNe_nt, uIn_t, uIn_r, uIx_t, uIx_r, uIx_c, uIx_s, uLen_c, uLen_r, uLen_t, uLen_s, uMin_i, uMin_r, uMax_i, uMax_r, uInt_b, uInt_i, uInt_s, uList_r, uList_t, uIsi_n, uIsi_b, uIsi_i, uIsi_s, uIsi_t, uIsi_c, uSl_c, uSl_r, uSl_s, iOf_r, iOf_c, isNon_n, isNon_i, isNon_s, isNon_b, isNon_t, isNon_r, flat_s, flat_i, flat_b, flat_n, weq_ss, weq_ii, weq_ni, weq_in, weq_nn, kb_bb, kb_bi, kb_bs, kb_bl, kb_bt, kb_ib, kb_ii, kb_is, kb_il, kb_it, kb_sb, kb_si, kb_ss, kb_sl, kb_st, kb_lb, kb_li, kb_ls, kb_ll, kb_lt, kb_tb, kb_ti, kb_ts, kb_tl, kb_tt, kb_nb, kb_ni, kb_ns, kb_nl, kb_nt, nth0, nth1, nth2, nth3, mVar, mC, mBin, mUn, mNil, mCons, mCB, mTest, mAnd, mOr, mNot, mIf, mAndV, mOrV, mNotV, mTup, mLst, mChain, mCall, mCallK, reord, mYes, sNext, sSeq, sDrop, sRet, sRetN, sIf, sNever, sBreak, sCont, sAsg, sPar, sAug, sStore, gSet, gsNil, gsCons, gTupW, gStarW, qI2, qI, qNeg, qAbs, qStrI, iLst, iRgn, iRg2, iEnu, iTpl, mDT, mBM, mBM0, mSl, oNone, oSome, sMatch, mGo, mDNew, mDisp_eq, mPairs, EndsD, EndsW.turn, Rho.put, Rho.wipe, Rho.del, rho0, sp1_iff, sp2_iff, sp3_iff, sp4_iff, win, List.filterMap_cons, List.filterMap_nil, List.cons_append, List.nil_append, List.length_cons, List.length_nil, List.all_cons, List.all_nil, List.any_cons, List.any_nil, List.getElem?_cons_zero, List.getElem?_cons_succ, List.getElem?_nil, List.set_cons_zero, List.set_cons_succ, reduceIte, reduceCtorEq, Nat.reduceEqDiff, Nat.reduceAdd, Nat.reduceSub, Nat.reduceMul, Nat.reduceLeDiff, Int.reduceToNat, Int.cast_ofNat_Int, Int.natCast_zero, Int.natCast_one, Int.reduceLE, Int.reduceLT, Int.reduceNeg, Int.reduceAdd, Int.reduceSub, Int.reducePow, Int.reduceEq, Int.reduceNe, Int.toNat_zero, Int.toNat_one, Int.ofNat_eq_natCast, Nat.reducePow, Nat.le_refl, ge_iff_le, gt_iff_lt, List.mem_cons, List.not_mem_nil, or_false, false_or, or_true, true_or, Option.some.injEq, exists_eq_left', exists_eq_left, exists_eq', exists_eq, exists_and_left, exists_and_right, and_assoc, true_and, and_true, false_and, and_false, exists_false, exists_const, not_true_eq_false, not_false_eq_true, W.int.injEq, W.bl.injEq, W.str.injEq, W.ref.injEq, W.tup.injEq, List.cons.injEq, Bool.true_eq_false, Bool.false_eq_true, decide_eq_true_eq, decide_eq_false_iff_not, Bool.not_eq_true', Bool.not_eq_false', Bool.not_true, Bool.not_false, forall_const, true_implies, false_implies, implies_true, imp_self, decide_true, decide_false, Bool.and_true, Bool.true_and, Bool.and_false, Bool.false_and, Bool.or_false, Bool.or_true, Bool.false_or, Bool.true_or, beq_self_eq_true, pw_2_61, pw_10_18, pw_10_30, pw_10_29, pw_10_28, pw_10_40, pw_10_6, pw_10_9, lg_128, eq_self_iff_true, ne_eq, Int.not_lt, Int.not_le, Nat.not_lt, Nat.not_le, BEq.rfl]) | (refine ⟨_, (by first | exact lsAt_i | assumption), ?_⟩) | (refine ⟨mty_l, ?_⟩) | (refine ⟨mty_s, ?_⟩) | (refine ⟨_, ty_l (by first | exact lsAt_i | assumption), ?_⟩)))
  intro p
  (repeat (first | (simp only [Int.zero_add, qIsN_n, qNotN_n, uIsi_r, nm_home, nm_fin, home_nm, fin_nm, sne_down_up, sne_down_right, sne_down_left, sne_down_home, sne_down_end, sne_up_down, sne_up_right, sne_up_left, sne_up_home, sne_up_end, sne_right_down, sne_right_up, sne_right_left, sne_right_home, sne_right_end, sne_left_down, sne_left_up, sne_left_right, sne_left_home, sne_left_end, sne_home_down, sne_home_up, sne_home_right, sne_home_left, sne_home_end, sne_end_down, sne_end_up, sne_end_right, sne_end_left, sne_end_home, sFor_eq, mLc_eq, uAdd_i, uAdd_s, uAdd_l, uMul_i, uMul_l, uEq_ii, uEq_ss, uEq_bb, uEq_nn, uEq_ni, uEq_in, uEq_ns, uEq_sn, uEq_is, uEq_si, uEq_rr, uEq_tt, uEq_rt, uEq_tr, uEq_tn, uEq_nt, uNe_ii, uNe_ss, uNe_bb, uNe_nn, uNe_ni, uNe_in, uNe_ns, uNe_sn, uNe_is, uNe_si, uNe_rr, uNe_tt, uNe_rt, uNe_tr, uNe_tn, uNe_nt, uIn_t, uIn_r, uIx_t, uIx_r, uIx_c, uIx_s, uLen_c, uLen_r, uLen_t, uLen_s, uMin_i, uMin_r, uMax_i, uMax_r, uInt_b, uInt_i, uInt_s, uList_r, uList_t, uIsi_n, uIsi_b, uIsi_i, uIsi_s, uIsi_t, uIsi_c, uSl_c, uSl_r, uSl_s, iOf_r, iOf_c, isNon_n, isNon_i, isNon_s, isNon_b, isNon_t, isNon_r, flat_s, flat_i, flat_b, flat_n, weq_ss, weq_ii, weq_ni, weq_in, weq_nn, kb_bb, kb_bi, kb_bs, kb_bl, kb_bt, kb_ib, kb_ii, kb_is, kb_il, kb_it, kb_sb, kb_si, kb_ss, kb_sl, kb_st, kb_lb, kb_li, kb_ls, kb_ll, kb_lt, kb_tb, kb_ti, kb_ts, kb_tl, kb_tt, kb_nb, kb_ni, kb_ns, kb_nl, kb_nt, nth0, nth1, nth2, nth3, mVar, mC, mBin, mUn, mNil, mCons, mCB, mTest, mAnd, mOr, mNot, mIf, mAndV, mOrV, mNotV, mTup, mLst, mChain, mCall, mCallK, reord, mYes, sNext, sSeq, sDrop, sRet, sRetN, sIf, sNever, sBreak, sCont, sAsg, sPar, sAug, sStore, gSet, gsNil, gsCons, gTupW, gStarW, qI2, qI, qNeg, qAbs, qStrI, iLst, iRgn, iRg2, iEnu, iTpl, mDT, mBM, mBM0, mSl, oNone, oSome, sMatch, mGo, mDNew, mDisp_eq, mPairs, EndsD, EndsW.turn, Rho.put, Rho.wipe, Rho.del, rho0, sp1_iff, sp2_iff, sp3_iff, sp4_iff, win, List.filterMap_cons, List.filterMap_nil, List.cons_append, List.nil_append, List.length_cons, List.length_nil, List.all_cons, List.all_nil, List.any_cons, List.any_nil, List.getElem?_cons_zero, List.getElem?_cons_succ, List.getElem?_nil, List.set_cons_zero, List.set_cons_succ, reduceIte, reduceCtorEq, Nat.reduceEqDiff, Nat.reduceAdd, Nat.reduceSub, Nat.reduceMul, Nat.reduceLeDiff, Int.reduceToNat, Int.cast_ofNat_Int, Int.natCast_zero, Int.natCast_one, Int.reduceLE, Int.reduceLT, Int.reduceNeg, Int.reduceAdd, Int.reduceSub, Int.reducePow, Int.reduceEq, Int.reduceNe, Int.toNat_zero, Int.toNat_one, Int.ofNat_eq_natCast, Nat.reducePow, Nat.le_refl, ge_iff_le, gt_iff_lt, List.mem_cons, List.not_mem_nil, or_false, false_or, or_true, true_or, Option.some.injEq, exists_eq_left', exists_eq_left, exists_eq', exists_eq, exists_and_left, exists_and_right, and_assoc, true_and, and_true, false_and, and_false, exists_false, exists_const, not_true_eq_false, not_false_eq_true, W.int.injEq, W.bl.injEq, W.str.injEq, W.ref.injEq, W.tup.injEq, List.cons.injEq, Bool.true_eq_false, Bool.false_eq_true, decide_eq_true_eq, decide_eq_false_iff_not, Bool.not_eq_true', Bool.not_eq_false', Bool.not_true, Bool.not_false, forall_const, true_implies, false_implies, implies_true, imp_self, decide_true, decide_false, Bool.and_true, Bool.true_and, Bool.and_false, Bool.false_and, Bool.or_false, Bool.or_true, Bool.false_or, Bool.true_or, beq_self_eq_true, pw_2_61, pw_10_18, pw_10_30, pw_10_29, pw_10_28, pw_10_40, pw_10_6, pw_10_9, lg_128, eq_self_iff_true, ne_eq, Int.not_lt, Int.not_le, Nat.not_lt, Nat.not_le, BEq.rfl]) | (refine ⟨_, (by first | exact lsAt_i | assumption), ?_⟩) | (refine ⟨mty_l, ?_⟩) | (refine ⟨mty_s, ?_⟩) | (refine ⟨_, ty_l (by first | exact lsAt_i | assumption), ?_⟩)))
  refine draw_i (by decide) (by decide) ok (by omega) fun r S1 h0 h1 ok1 => ?_
  (repeat (first | (simp only [Int.zero_add, qIsN_n, qNotN_n, uIsi_r, nm_home, nm_fin, home_nm, fin_nm, sne_down_up, sne_down_right, sne_down_left, sne_down_home, sne_down_end, sne_up_down, sne_up_right, sne_up_left, sne_up_home, sne_up_end, sne_right_down, sne_right_up, sne_right_left, sne_right_home, sne_right_end, sne_left_down, sne_left_up, sne_left_right, sne_left_home, sne_left_end, sne_home_down, sne_home_up, sne_home_right, sne_home_left, sne_home_end, sne_end_down, sne_end_up, sne_end_right, sne_end_left, sne_end_home, sFor_eq, mLc_eq, uAdd_i, uAdd_s, uAdd_l, uMul_i, uMul_l, uEq_ii, uEq_ss, uEq_bb, uEq_nn, uEq_ni, uEq_in, uEq_ns, uEq_sn, uEq_is, uEq_si, uEq_rr, uEq_tt, uEq_rt, uEq_tr, uEq_tn, uEq_nt, uNe_ii, uNe_ss, uNe_bb, uNe_nn, uNe_ni, uNe_in, uNe_ns, uNe_sn, uNe_is, uNe_si, uNe_rr, uNe_tt, uNe_rt, uNe_tr, uNe_tn, uNe_nt, uIn_t, uIn_r, uIx_t, uIx_r, uIx_c, uIx_s, uLen_c, uLen_r, uLen_t, uLen_s, uMin_i, uMin_r, uMax_i, uMax_r, uInt_b, uInt_i, uInt_s, uList_r, uList_t, uIsi_n, uIsi_b, uIsi_i, uIsi_s, uIsi_t, uIsi_c, uSl_c, uSl_r, uSl_s, iOf_r, iOf_c, isNon_n, isNon_i, isNon_s, isNon_b, isNon_t, isNon_r, flat_s, flat_i, flat_b, flat_n, weq_ss, weq_ii, weq_ni, weq_in, weq_nn, kb_bb, kb_bi, kb_bs, kb_bl, kb_bt, kb_ib, kb_ii, kb_is, kb_il, kb_it, kb_sb, kb_si, kb_ss, kb_sl, kb_st, kb_lb, kb_li, kb_ls, kb_ll, kb_lt, kb_tb, kb_ti, kb_ts, kb_tl, kb_tt, kb_nb, kb_ni, kb_ns, kb_nl, kb_nt, nth0, nth1, nth2, nth3, mVar, mC, mBin, mUn, mNil, mCons, mCB, mTest, mAnd, mOr, mNot, mIf, mAndV, mOrV, mNotV, mTup, mLst, mChain, mCall, mCallK, reord, mYes, sNext, sSeq, sDrop, sRet, sRetN, sIf, sNever, sBreak, sCont, sAsg, sPar, sAug, sStore, gSet, gsNil, gsCons, gTupW, gStarW, qI2, qI, qNeg, qAbs, qStrI, iLst, iRgn, iRg2, iEnu, iTpl, mDT, mBM, mBM0, mSl, oNone, oSome, sMatch, mGo, mDNew, mDisp_eq, mPairs, EndsD, EndsW.turn, Rho.put, Rho.wipe, Rho.del, rho0, sp1_iff, sp2_iff, sp3_iff, sp4_iff, win, List.filterMap_cons, List.filterMap_nil, List.cons_append, List.nil_append, List.length_cons, List.length_nil, List.all_cons, List.all_nil, List.any_cons, List.any_nil, List.getElem?_cons_zero, List.getElem?_cons_succ, List.getElem?_nil, List.set_cons_zero, List.set_cons_succ, reduceIte, reduceCtorEq, Nat.reduceEqDiff, Nat.reduceAdd, Nat.reduceSub, Nat.reduceMul, Nat.reduceLeDiff, Int.reduceToNat, Int.cast_ofNat_Int, Int.natCast_zero, Int.natCast_one, Int.reduceLE, Int.reduceLT, Int.reduceNeg, Int.reduceAdd, Int.reduceSub, Int.reducePow, Int.reduceEq, Int.reduceNe, Int.toNat_zero, Int.toNat_one, Int.ofNat_eq_natCast, Nat.reducePow, Nat.le_refl, ge_iff_le, gt_iff_lt, List.mem_cons, List.not_mem_nil, or_false, false_or, or_true, true_or, Option.some.injEq, exists_eq_left', exists_eq_left, exists_eq', exists_eq, exists_and_left, exists_and_right, and_assoc, true_and, and_true, false_and, and_false, exists_false, exists_const, not_true_eq_false, not_false_eq_true, W.int.injEq, W.bl.injEq, W.str.injEq, W.ref.injEq, W.tup.injEq, List.cons.injEq, Bool.true_eq_false, Bool.false_eq_true, decide_eq_true_eq, decide_eq_false_iff_not, Bool.not_eq_true', Bool.not_eq_false', Bool.not_true, Bool.not_false, forall_const, true_implies, false_implies, implies_true, imp_self, decide_true, decide_false, Bool.and_true, Bool.true_and, Bool.and_false, Bool.false_and, Bool.or_false, Bool.or_true, Bool.false_or, Bool.true_or, beq_self_eq_true, pw_2_61, pw_10_18, pw_10_30, pw_10_29, pw_10_28, pw_10_40, pw_10_6, pw_10_9, lg_128, eq_self_iff_true, ne_eq, Int.not_lt, Int.not_le, Nat.not_lt, Nat.not_le, BEq.rfl]) | (refine ⟨_, (by first | exact lsAt_i | assumption), ?_⟩) | (refine ⟨mty_l, ?_⟩) | (refine ⟨mty_s, ?_⟩) | (refine ⟨_, ty_l (by first | exact lsAt_i | assumption), ?_⟩)))
  refine nth_i h0 h1 fun w hw => ?_
  have hw' : (∃ d : Dir, w = .str d.nm) ∨ w = .str "home" ∨ w = .str "end" := by
    simp only [List.mem_cons, List.not_mem_nil, or_false] at hw
    rcases hw with rfl | rfl | rfl | rfl | rfl | rfl | rfl | rfl
    · exact .inl ⟨.down, rfl⟩
    · exact .inl ⟨.up, rfl⟩
    · exact .inl ⟨.right, rfl⟩
    · exact .inl ⟨.left, rfl⟩
    · exact .inl ⟨.right, rfl⟩
    · exact .inl ⟨.left, rfl⟩
    · exact .inr (.inl rfl)
    · exact .inr (.inr rfl)
  rcases hw' with ⟨d, rfl⟩ | rfl | rfl
  · (repeat (first | (simp only [Int.zero_add, qIsN_n, qNotN_n, uIsi_r, nm_home, nm_fin, home_nm, fin_nm, sne_down_up, sne_down_right, sne_down_left, sne_down_home, sne_down_end, sne_up_down, sne_up_right, sne_up_left, sne_up_home, sne_up_end, sne_right_down, sne_right_up, sne_right_left, sne_right_home, sne_right_end, sne_left_down, sne_left_up, sne_left_right, sne_left_home, sne_left_end, sne_home_down, sne_home_up, sne_home_right, sne_home_left, sne_home_end, sne_end_down, sne_end_up, sne_end_right, sne_end_left, sne_end_home, sFor_eq, mLc_eq, uAdd_i, uAdd_s, uAdd_l, uMul_i, uMul_l, uEq_ii, uEq_ss, uEq_bb, uEq_nn, uEq_ni, uEq_in, uEq_ns, uEq_sn, uEq_is, uEq_si, uEq_rr, uEq_tt, uEq_rt, uEq_tr, uEq_tn, uEq_nt, uNe_ii, uNe_ss, uNe_bb, uNe_nn, uNe_ni, uNe_in, uNe_ns, uNe_sn, uNe_is, uNe_si, uNe_rr, uNe_tt, uNe_rt, uNe_tr, uNe_tn, uNe_nt, uIn_t, uIn_r, uIx_t, uIx_r, uIx_c, uIx_s, uLen_c, uLen_r, uLen_t, uLen_s, uMin_i, uMin_r, uMax_i, uMax_r, uInt_b, uInt_i, uInt_s, uList_r, uList_t, uIsi_n, uIsi_b, uIsi_i, uIsi_s, uIsi_t, uIsi_c, uSl_c, uSl_r, uSl_s, iOf_r, iOf_c, isNon_n, isNon_i, isNon_s, isNon_b, isNon_t, isNon_r, flat_s, flat_i, flat_b, flat_n, weq_ss, weq_ii, weq_ni, weq_in, weq_nn, kb_bb, kb_bi, kb_bs, kb_bl, kb_bt, kb_ib, kb_ii, kb_is, kb_il, kb_it, kb_sb, kb_si, kb_ss, kb_sl, kb_st, kb_lb, kb_li, kb_ls, kb_ll, kb_lt, kb_tb, kb_ti, kb_ts, kb_tl, kb_tt, kb_nb, kb_ni, kb_ns, kb_nl, kb_nt, nth0, nth1, nth2, nth3, mVar, mC, mBin, mUn, mNil, mCons, mCB, mTest, mAnd, mOr, mNot, mIf, mAndV, mOrV, mNotV, mTup, mLst, mChain, mCall, mCallK, reord, mYes, sNext, sSeq, sDrop, sRet, sRetN, sIf, sNever, sBreak, sCont, sAsg, sPar, sAug, sStore, gSet, gsNil, gsCons, gTupW, gStarW, qI2, qI, qNeg, qAbs, qStrI, iLst, iRgn, iRg2, iEnu, iTpl, mDT, mBM, mBM0, mSl, oNone, oSome, sMatch, mGo, mDNew, mDisp_eq, mPairs, EndsD, EndsW.turn, Rho.put, Rho.wipe, Rho.del, rho0, sp1_iff, sp2_iff, sp3_iff, sp4_iff, win, List.filterMap_cons, List.filterMap_nil, List.cons_append, List.nil_append, List.length_cons, List.length_nil, List.all_cons, List.all_nil, List.any_cons, List.any_nil, List.getElem?_cons_zero, List.getElem?_cons_succ, List.getElem?_nil, List.set_cons_zero, List.set_cons_succ, reduceIte, reduceCtorEq, Nat.reduceEqDiff, Nat.reduceAdd, Nat.reduceSub, Nat.reduceMul, Nat.reduceLeDiff, Int.reduceToNat, Int.cast_ofNat_Int, Int.natCast_zero, Int.natCast_one, Int.reduceLE, Int.reduceLT, Int.reduceNeg, Int.reduceAdd, Int.reduceSub, Int.reducePow, Int.reduceEq, Int.reduceNe, Int.toNat_zero, Int.toNat_one, Int.ofNat_eq_natCast, Nat.reducePow, Nat.le_refl, ge_iff_le, gt_iff_lt, List.mem_cons, List.not_mem_nil, or_false, false_or, or_true, true_or, Option.some.injEq, exists_eq_left', exists_eq_left, exists_eq', exists_eq, exists_and_left, exists_and_right, and_assoc, true_and, and_true, false_and, and_false, exists_false, exists_const, not_true_eq_false, not_false_eq_true, W.int.injEq, W.bl.injEq, W.str.injEq, W.ref.injEq, W.tup.injEq, List.cons.injEq, Bool.true_eq_false, Bool.false_eq_true, decide_eq_true_eq, decide_eq_false_iff_not, Bool.not_eq_true', Bool.not_eq_false', Bool.not_true, Bool.not_false, forall_const, true_implies, false_implies, implies_true, imp_self, decide_true, decide_false, Bool.and_true, Bool.true_and, Bool.and_false, Bool.false_and, Bool.or_false, Bool.or_true, Bool.false_or, Bool.true_or, beq_self_eq_true, pw_2_61, pw_10_18, pw_10_30, pw_10_29, pw_10_28, pw_10_40, pw_10_6, pw_10_9, lg_128, eq_self_iff_true, ne_eq, Int.not_lt, Int.not_le, Nat.not_lt, Nat.not_le, BEq.rfl]) | (refine ⟨_, (by first | exact lsAt_i | assumption), ?_⟩) | (refine ⟨mty_l, ?_⟩) | (refine ⟨mty_s, ?_⟩) | (refine ⟨_, ty_l (by first | exact lsAt_i | assumption), ?_⟩)))
    refine draw_i (by decide) (by decide) ok1 (by omega) fun r2 S2 h2 h3 ok2 => ?_
    (repeat (first | (simp only [Int.zero_add, qIsN_n, qNotN_n, uIsi_r, nm_home, nm_fin, home_nm, fin_nm, sne_down_up, sne_down_right, sne_down_left, sne_down_home, sne_down_end, sne_up_down, sne_up_right, sne_up_left, sne_up_home, sne_up_end, sne_right_down, sne_right_up, sne_right_left, sne_right_home, sne_right_end, sne_left_down, sne_left_up, sne_left_right, sne_left_home, sne_left_end, sne_home_down, sne_home_up, sne_home_right, sne_home_left, sne_home_end, sne_end_down, sne_end_up, sne_end_right, sne_end_left, sne_end_home, sFor_eq, mLc_eq, uAdd_i, uAdd_s, uAdd_l, uMul_i, uMul_l, uEq_ii, uEq_ss, uEq_bb, uEq_nn, uEq_ni, uEq_in, uEq_ns, uEq_sn, uEq_is, uEq_si, uEq_rr, uEq_tt, uEq_rt, uEq_tr, uEq_tn, uEq_nt, uNe_ii, uNe_ss, uNe_bb, uNe_nn, uNe_ni, uNe_in, uNe_ns, uNe_sn, uNe_is, uNe_si, uNe_rr, uNe_tt, uNe_rt, uNe_tr, uNe_tn, uNe_nt, uIn_t, uIn_r, uIx_t, uIx_r, uIx_c, uIx_s, uLen_c, uLen_r, uLen_t, uLen_s, uMin_i, uMin_r, uMax_i, uMax_r, uInt_b, uInt_i, uInt_s, uList_r, uList_t, uIsi_n, uIsi_b, uIsi_i, uIsi_s, uIsi_t, uIsi_c, uSl_c, uSl_r, uSl_s, iOf_r, iOf_c, isNon_n, isNon_i, isNon_s, isNon_b, isNon_t, isNon_r, flat_s, flat_i, flat_b, flat_n, weq_ss, weq_ii, weq_ni, weq_in, weq_nn, kb_bb, kb_bi, kb_bs, kb_bl, kb_bt, kb_ib, kb_ii, kb_is, kb_il, kb_it, kb_sb, kb_si, kb_ss, kb_sl, kb_st, kb_lb, kb_li, kb_ls, kb_ll, kb_lt, kb_tb, kb_ti, kb_ts, kb_tl, kb_tt, kb_nb, kb_ni, kb_ns, kb_nl, kb_nt, nth0, nth1, nth2, nth3, mVar, mC, mBin, mUn, mNil, mCons, mCB, mTest, mAnd, mOr, mNot, mIf, mAndV, mOrV, mNotV, mTup, mLst, mChain, mCall, mCallK, reord, mYes, sNext, sSeq, sDrop, sRet, sRetN, sIf, sNever, sBreak, sCont, sAsg, sPar, sAug, sStore, gSet, gsNil, gsCons, gTupW, gStarW, qI2, qI, qNeg, qAbs, qStrI, iLst, iRgn, iRg2, iEnu, iTpl, mDT, mBM, mBM0, mSl, oNone, oSome, sMatch, mGo, mDNew, mDisp_eq, mPairs, EndsD, EndsW.turn, Rho.put, Rho.wipe, Rho.del, rho0, sp1_iff, sp2_iff, sp3_iff, sp4_iff, win, List.filterMap_cons, List.filterMap_nil, List.cons_append, List.nil_append, List.length_cons, List.length_nil, List.all_cons, List.all_nil, List.any_cons, List.any_nil, List.getElem?_cons_zero, List.getElem?_cons_succ, List.getElem?_nil, List.set_cons_zero, List.set_cons_succ, reduceIte, reduceCtorEq, Nat.reduceEqDiff, Nat.reduceAdd, Nat.reduceSub, Nat.reduceMul, Nat.reduceLeDiff, Int.reduceToNat, Int.cast_ofNat_Int, Int.natCast_zero, Int.natCast_one, Int.reduceLE, Int.reduceLT, Int.reduceNeg, Int.reduceAdd, Int.reduceSub, Int.reducePow, Int.reduceEq, Int.reduceNe, Int.toNat_zero, Int.toNat_one, Int.ofNat_eq_natCast, Nat.reducePow, Nat.le_refl, ge_iff_le, gt_iff_lt, List.mem_cons, List.not_mem_nil, or_false, false_or, or_true, true_or, Option.some.injEq, exists_eq_left', exists_eq_left, exists_eq', exists_eq, exists_and_left, exists_and_right, and_assoc, true_and, and_true, false_and, and_false, exists_false, exists_const, not_true_eq_false, not_false_eq_true, W.int.injEq, W.bl.injEq, W.str.injEq, W.ref.injEq, W.tup.injEq, List.cons.injEq, Bool.true_eq_false, Bool.false_eq_true, decide_eq_true_eq, decide_eq_false_iff_not, Bool.not_eq_true', Bool.not_eq_false', Bool.not_true, Bool.not_false, forall_const, true_implies, false_implies, implies_true, imp_self, decide_true, decide_false, Bool.and_true, Bool.true_and, Bool.and_false, Bool.false_and, Bool.or_false, Bool.or_true, Bool.false_or, Bool.true_or, beq_self_eq_true, pw_2_61, pw_10_18, pw_10_30, pw_10_29, pw_10_28, pw_10_40, pw_10_6, pw_10_9, lg_128, eq_self_iff_true, ne_eq, Int.not_lt, Int.not_le, Nat.not_lt, Nat.not_le, BEq.rfl]) | (refine ⟨_, (by first | exact lsAt_i | assumption), ?_⟩) | (refine ⟨mty_l, ?_⟩) | (refine ⟨mty_s, ?_⟩) | (refine ⟨_, ty_l (by first | exact lsAt_i | assumption), ?_⟩)))
    refine srcS1_i ok2 (by omega) fun w S3 hw ok3 => ?_
    obtain ⟨n, rfl, hn1, hn2⟩ := hw
    intro p2
    refine draw_i (by decide) (by decide) ok3 (by omega) fun r4 S4 h4 h5 ok4 => ?_
    (repeat (first | (simp only [Int.zero_add, qIsN_n, qNotN_n, uIsi_r, nm_home, nm_fin, home_nm, fin_nm, sne_down_up, sne_down_right, sne_down_left, sne_down_home, sne_down_end, sne_up_down, sne_up_right, sne_up_left, sne_up_home, sne_up_end, sne_right_down, sne_right_up, sne_right_left, sne_right_home, sne_right_end, sne_left_down, sne_left_up, sne_left_right, sne_left_home, sne_left_end, sne_home_down, sne_home_up, sne_home_right, sne_home_left, sne_home_end, sne_end_down, sne_end_up, sne_end_right, sne_end_left, sne_end_home, sFor_eq, mLc_eq, uAdd_i, uAdd_s, uAdd_l, uMul_i, uMul_l, uEq_ii, uEq_ss, uEq_bb, uEq_nn, uEq_ni, uEq_in, uEq_ns, uEq_sn, uEq_is, uEq_si, uEq_rr, uEq_tt, uEq_rt, uEq_tr, uEq_tn, uEq_nt, uNe_ii, uNe_ss, uNe_bb, uNe_nn, uNe_ni, uNe_in, uNe_ns, uNe_sn, uNe_is, uNe_si, uNe_rr, uNe_tt, uNe_rt, uNe_tr, uNe_tn, uNe_nt, uIn_t, uIn_r, uIx_t, uIx_r, uIx_c, uIx_s, uLen_c, uLen_r, uLen_t, uLen_s, uMin_i, uMin_r, uMax_i, uMax_r, uInt_b, uInt_i, uInt_s, uList_r, uList_t, uIsi_n, uIsi_b, uIsi_i, uIsi_s, uIsi_t, uIsi_c, uSl_c, uSl_r, uSl_s, iOf_r, iOf_c, isNon_n, isNon_i, isNon_s, isNon_b, isNon_t, isNon_r, flat_s, flat_i, flat_b, flat_n, weq_ss, weq_ii, weq_ni, weq_in, weq_nn, kb_bb, kb_bi, kb_bs, kb_bl, kb_bt, kb_ib, kb_ii, kb_is, kb_il, kb_it, kb_sb, kb_si, kb_ss, kb_sl, kb_st, kb_lb, kb_li, kb_ls, kb_ll, kb_lt, kb_tb, kb_ti, kb_ts, kb_tl, kb_tt, kb_nb, kb_ni, kb_ns, kb_nl, kb_nt, nth0, nth1, nth2, nth3, mVar, mC, mBin, mUn, mNil, mCons, mCB, mTest, mAnd, mOr, mNot, mIf, mAndV, mOrV, mNotV, mTup, mLst, mChain, mCall, mCallK, reord, mYes, sNext, sSeq, sDrop, sRet, sRetN, sIf, sNever, sBreak, sCont, sAsg, sPar, sAug, sStore, gSet, gsNil, gsCons, gTupW, gStarW, qI2, qI, qNeg, qAbs, qStrI, iLst, iRgn, iRg2, iEnu, iTpl, mDT, mBM, mBM0, mSl, oNone, oSome, sMatch, mGo, mDNew, mDisp_eq, mPairs, EndsD, EndsW.turn, Rho.put, Rho.wipe, Rho.del, rho0, sp1_iff, sp2_iff, sp3_iff, sp4_iff, win, List.filterMap_cons, List.filterMap_nil, List.cons_append, List.nil_append, List.length_cons, List.length_nil, List.all_cons, List.all_nil, List.any_cons, List.any_nil, List.getElem?_cons_zero, List.getElem?_cons_succ, List.getElem?_nil, List.set_cons_zero, List.set_cons_succ, reduceIte, reduceCtorEq, Nat.reduceEqDiff, Nat.reduceAdd, Nat.reduceSub, Nat.reduceMul, Nat.reduceLeDiff, Int.reduceToNat, Int.cast_ofNat_Int, Int.natCast_zero, Int.natCast_one, Int.reduceLE, Int.reduceLT, Int.reduceNeg, Int.reduceAdd, Int.reduceSub, Int.reducePow, Int.reduceEq, Int.reduceNe, Int.toNat_zero, Int.toNat_one, Int.ofNat_eq_natCast, Nat.reducePow, Nat.le_refl, ge_iff_le, gt_iff_lt, List.mem_cons, List.not_mem_nil, or_false, false_or, or_true, true_or, Option.some.injEq, exists_eq_left', exists_eq_left, exists_eq', exists_eq, exists_and_left, exists_and_right, and_assoc, true_and, and_true, false_and, and_false, exists_false, exists_const, not_true_eq_false, not_false_eq_true, W.int.injEq, W.bl.injEq, W.str.injEq, W.ref.injEq, W.tup.injEq, List.cons.injEq, Bool.true_eq_false, Bool.false_eq_true, decide_eq_true_eq, decide_eq_false_iff_not, Bool.not_eq_true', Bool.not_eq_false', Bool.not_true, Bool.not_false, forall_const, true_implies, false_implies, implies_true, imp_self, decide_true, decide_false, Bool.and_true, Bool.true_and, Bool.and_false, Bool.false_and, Bool.or_false, Bool.or_true, Bool.false_or, Bool.true_or, beq_self_eq_true, pw_2_61, pw_10_18, pw_10_30, pw_10_29, pw_10_28, pw_10_40, pw_10_6, pw_10_9, lg_128, eq_self_iff_true, ne_eq, Int.not_lt, Int.not_le, Nat.not_lt, Nat.not_le, BEq.rfl]) | (refine ⟨_, (by first | exact lsAt_i | assumption), ?_⟩) | (refine ⟨mty_l, ?_⟩) | (refine ⟨mty_s, ?_⟩) | (refine ⟨_, ty_l (by first | exact lsAt_i | assumption), ?_⟩)))
    refine nth_i h4 h5 fun w hw => ?_
    obtain ⟨m, rfl, hm, hM⟩ : ∃ m : Int, w = .int m ∧ 1 ≤ m ∧ m ≤ 999999999999999999999999999999 := by
      simp only [List.mem_cons, List.not_mem_nil, or_false] at hw
      rcases hw with rfl | rfl | rfl
      · exact ⟨_, rfl, by decide, by decide⟩
      · exact ⟨_, rfl, by omega, by omega⟩
      · exact ⟨_, rfl, by omega, by omega⟩
    exact ⟨_, inferInstance, k _ S4 ⟨.go d m, rfl, hm, hM⟩ ok4⟩
  · (repeat (first | (simp only [Int.zero_add, qIsN_n, qNotN_n, uIsi_r, nm_home, nm_fin, home_nm, fin_nm, sne_down_up, sne_down_right, sne_down_left, sne_down_home, sne_down_end, sne_up_down, sne_up_right, sne_up_left, sne_up_home, sne_up_end, sne_right_down, sne_right_up, sne_right_left, sne_right_home, sne_right_end, sne_left_down, sne_left_up, sne_left_right, sne_left_home, sne_left_end, sne_home_down, sne_home_up, sne_home_right, sne_home_left, sne_home_end, sne_end_down, sne_end_up, sne_end_right, sne_end_left, sne_end_home, sFor_eq, mLc_eq, uAdd_i, uAdd_s, uAdd_l, uMul_i, uMul_l, uEq_ii, uEq_ss, uEq_bb, uEq_nn, uEq_ni, uEq_in, uEq_ns, uEq_sn, uEq_is, uEq_si, uEq_rr, uEq_tt, uEq_rt, uEq_tr, uEq_tn, uEq_nt, uNe_ii, uNe_ss, uNe_bb, uNe_nn, uNe_ni, uNe_in, uNe_ns, uNe_sn, uNe_is, uNe_si, uNe_rr, uNe_tt, uNe_rt, uNe_tr, uNe_tn, uNe_nt, uIn_t, uIn_r, uIx_t, uIx_r, uIx_c, uIx_s, uLen_c, uLen_r, uLen_t, uLen_s, uMin_i, uMin_r, uMax_i, uMax_r, uInt_b, uInt_i, uInt_s, uList_r, uList_t, uIsi_n, uIsi_b, uIsi_i, uIsi_s, uIsi_t, uIsi_c, uSl_c, uSl_r, uSl_s, iOf_r, iOf_c, isNon_n, isNon_i, isNon_s, isNon_b, isNon_t, isNon_r, flat_s, flat_i, flat_b, flat_n, weq_ss, weq_ii, weq_ni, weq_in, weq_nn, kb_bb, kb_bi, kb_bs, kb_bl, kb_bt, kb_ib, kb_ii, kb_is, kb_il, kb_it, kb_sb, kb_si, kb_ss, kb_sl, kb_st, kb_lb, kb_li, kb_ls, kb_ll, kb_lt, kb_tb, kb_ti, kb_ts, kb_tl, kb_tt, kb_nb, kb_ni, kb_ns, kb_nl, kb_nt, nth0, nth1, nth2, nth3, mVar, mC, mBin, mUn, mNil, mCons, mCB, mTest, mAnd, mOr, mNot, mIf, mAndV, mOrV, mNotV, mTup, mLst, mChain, mCall, mCallK, reord, mYes, sNext, sSeq, sDrop, sRet, sRetN, sIf, sNever, sBreak, sCont, sAsg, sPar, sAug, sStore, gSet, gsNil, gsCons, gTupW, gStarW, qI2, qI, qNeg, qAbs, qStrI, iLst, iRgn, iRg2, iEnu, iTpl, mDT, mBM, mBM0, mSl, oNone, oSome, sMatch, mGo, mDNew, mDisp_eq, mPairs, EndsD, EndsW.turn, Rho.put, Rho.wipe, Rho.del, rho0, sp1_iff, sp2_iff, sp3_iff, sp4_iff, win, List.filterMap_cons, List.filterMap_nil, List.cons_append, List.nil_append, List.length_cons, List.length_nil, List.all_cons, List.all_nil, List.any_cons, List.any_nil, List.getElem?_cons_zero, List.getElem?_cons_succ, List.getElem?_nil, List.set_cons_zero, List.set_cons_succ, reduceIte, reduceCtorEq, Nat.reduceEqDiff, Nat.reduceAdd, Nat.reduceSub, Nat.reduceMul, Nat.reduceLeDiff, Int.reduceToNat, Int.cast_ofNat_Int, Int.natCast_zero, Int.natCast_one, Int.reduceLE, Int.reduceLT, Int.reduceNeg, Int.reduceAdd, Int.reduceSub, Int.reducePow, Int.reduceEq, Int.reduceNe, Int.toNat_zero, Int.toNat_one, Int.ofNat_eq_natCast, Nat.reducePow, Nat.le_refl, ge_iff_le, gt_iff_lt, List.mem_cons, List.not_mem_nil, or_false, false_or, or_true, true_or, Option.some.injEq, exists_eq_left', exists_eq_left, exists_eq', exists_eq, exists_and_left, exists_and_right, and_assoc, true_and, and_true, false_and, and_false, exists_false, exists_const, not_true_eq_false, not_false_eq_true, W.int.injEq, W.bl.injEq, W.str.injEq, W.ref.injEq, W.tup.injEq, List.cons.injEq, Bool.true_eq_false, Bool.false_eq_true, decide_eq_true_eq, decide_eq_false_iff_not, Bool.not_eq_true', Bool.not_eq_false', Bool.not_true, Bool.not_false, forall_const, true_implies, false_implies, implies_true, imp_self, decide_true, decide_false, Bool.and_true, Bool.true_and, Bool.and_false, Bool.false_and, Bool.or_false, Bool.or_true, Bool.false_or, Bool.true_or, beq_self_eq_true, pw_2_61, pw_10_18, pw_10_30, pw_10_29, pw_10_28, pw_10_40, pw_10_6, pw_10_9, lg_128, eq_self_iff_true, ne_eq, Int.not_lt, Int.not_le, Nat.not_lt, Nat.not_le, BEq.rfl]) | (refine ⟨_, (by first | exact lsAt_i | assumption), ?_⟩) | (refine ⟨mty_l, ?_⟩) | (refine ⟨mty_s, ?_⟩) | (refine ⟨_, ty_l (by first | exact lsAt_i | assumption), ?_⟩)))
    exact ⟨_, inferInstance, k _ S1 ⟨.home, rfl, trivial⟩ (ok1.up (by omega))⟩
  · (repeat (first | (simp only [Int.zero_add, qIsN_n, qNotN_n, uIsi_r, nm_home, nm_fin, home_nm, fin_nm, sne_down_up, sne_down_right, sne_down_left, sne_down_home, sne_down_end, sne_up_down, sne_up_right, sne_up_left, sne_up_home, sne_up_end, sne_right_down, sne_right_up, sne_right_left, sne_right_home, sne_right_end, sne_left_down, sne_left_up, sne_left_right, sne_left_home, sne_left_end, sne_home_down, sne_home_up, sne_home_right, sne_home_left, sne_home_end, sne_end_down, sne_end_up, sne_end_right, sne_end_left, sne_end_home, sFor_eq, mLc_eq, uAdd_i, uAdd_s, uAdd_l, uMul_i, uMul_l, uEq_ii, uEq_ss, uEq_bb, uEq_nn, uEq_ni, uEq_in, uEq_ns, uEq_sn, uEq_is, uEq_si, uEq_rr, uEq_tt, uEq_rt, uEq_tr, uEq_tn, uEq_nt, uNe_ii, uNe_ss, uNe_bb, uNe_nn, uNe_ni, uNe_in, uNe_ns, uNe_sn, uNe_is, uNe_si, uNe_rr, uNe_tt, uNe_rt, uNe_tr, uNe_tn, uNe_nt, uIn_t, uIn_r, uIx_t, uIx_r, uIx_c, uIx_s, uLen_c, uLen_r, uLen_t, uLen_s, uMin_i, uMin_r, uMax_i, uMax_r, uInt_b, uInt_i, uInt_s, uList_r, uList_t, uIsi_n, uIsi_b, uIsi_i, uIsi_s, uIsi_t, uIsi_c, uSl_c, uSl_r, uSl_s, iOf_r, iOf_c, isNon_n, isNon_i, isNon_s, isNon_b, isNon_t, isNon_r, flat_s, flat_i, flat_b, flat_n, weq_ss, weq_ii, weq_ni, weq_in, weq_nn, kb_bb, kb_bi, kb_bs, kb_bl, kb_bt, kb_ib, kb_ii, kb_is, kb_il, kb_it, kb_sb, kb_si, kb_ss, kb_sl, kb_st, kb_lb, kb_li, kb_ls, kb_ll, kb_lt, kb_tb, kb_ti, kb_ts, kb_tl, kb_tt, kb_nb, kb_ni, kb_ns, kb_nl, kb_nt, nth0, nth1, nth2, nth3, mVar, mC, mBin, mUn, mNil, mCons, mCB, mTest, mAnd, mOr, mNot, mIf, mAndV, mOrV, mNotV, mTup, mLst, mChain, mCall, mCallK, reord, mYes, sNext, sSeq, sDrop, sRet, sRetN, sIf, sNever, sBreak, sCont, sAsg, sPar, sAug, sStore, gSet, gsNil, gsCons, gTupW, gStarW, qI2, qI, qNeg, qAbs, qStrI, iLst, iRgn, iRg2, iEnu, iTpl, mDT, mBM, mBM0, mSl, oNone, oSome, sMatch, mGo, mDNew, mDisp_eq, mPairs, EndsD, EndsW.turn, Rho.put, Rho.wipe, Rho.del, rho0, sp1_iff, sp2_iff, sp3_iff, sp4_iff, win, List.filterMap_cons, List.filterMap_nil, List.cons_append, List.nil_append, List.length_cons, List.length_nil, List.all_cons, List.all_nil, List.any_cons, List.any_nil, List.getElem?_cons_zero, List.getElem?_cons_succ, List.getElem?_nil, List.set_cons_zero, List.set_cons_succ, reduceIte, reduceCtorEq, Nat.reduceEqDiff, Nat.reduceAdd, Nat.reduceSub, Nat.reduceMul, Nat.reduceLeDiff, Int.reduceToNat, Int.cast_ofNat_Int, Int.natCast_zero, Int.natCast_one, Int.reduceLE, Int.reduceLT, Int.reduceNeg, Int.reduceAdd, Int.reduceSub, Int.reducePow, Int.reduceEq, Int.reduceNe, Int.toNat_zero, Int.toNat_one, Int.ofNat_eq_natCast, Nat.reducePow, Nat.le_refl, ge_iff_le, gt_iff_lt, List.mem_cons, List.not_mem_nil, or_false, false_or, or_true, true_or, Option.some.injEq, exists_eq_left', exists_eq_left, exists_eq', exists_eq, exists_and_left, exists_and_right, and_assoc, true_and, and_true, false_and, and_false, exists_false, exists_const, not_true_eq_false, not_false_eq_true, W.int.injEq, W.bl.injEq, W.str.injEq, W.ref.injEq, W.tup.injEq, List.cons.injEq, Bool.true_eq_false, Bool.false_eq_true, decide_eq_true_eq, decide_eq_false_iff_not, Bool.not_eq_true', Bool.not_eq_false', Bool.not_true, Bool.not_false, forall_const, true_implies, false_implies, implies_true, imp_self, decide_true, decide_false, Bool.and_true, Bool.true_and, Bool.and_false, Bool.false_and, Bool.or_false, Bool.or_true, Bool.false_or, Bool.true_or, beq_self_eq_true, pw_2_61, pw_10_18, pw_10_30, pw_10_29, pw_10_28, pw_10_40, pw_10_6, pw_10_9, lg_128, eq_self_iff_true, ne_eq, Int.not_lt, Int.not_le, Nat.not_lt, Nat.not_le, BEq.rfl]) | (refine ⟨_, (by first | exact lsAt_i | assumption), ?_⟩) | (refine ⟨mty_l, ?_⟩) | (refine ⟨mty_s, ?_⟩) | (refine ⟨_, ty_l (by first | exact lsAt_i | assumption), ?_⟩)))
    exact ⟨_, inferInstance, k _ S1 ⟨.fin, rfl, trivial⟩ (ok1.up (by omega))⟩
/-! ### _law_commands -/
def sp__law_commands : SpW := sp2 fun x y Cs Q _ => ∃ (q : Addr) (many : Nat) (S : SrcS) (Ds : Cells) (N : Nat), x = .ref q ∧ y = .int many ∧ many ≤ 1000 ∧ Cs = S.at_ q ++ Ds ∧ S.ok N ∧ N + 5 * many + 1 ≤ 1000000000 ∧
  ∀ (p : Addr) (cs : List Cmd) (S' : SrcS), cs.length ≤ many → (∀ c, c ∈ cs → c.ok 999999999999999999999999999999) → S'.ok (N + 5 * many + 1) → Q (.ref p) ((p, .lst (cs.map Cmd.w)) :: (S'.at_ q ++ Ds))
theorem len__law_commands : ∀ ws Cs Q E, sp__law_commands ws Cs Q E → ws.length = 2 := len2
theorem commands_i {q : Addr} {many : Nat} {S : SrcS} {Cs Ds : Cells} {N : Nat} {Q : WK} {E : XW} [t : TakeS q Cs S Ds] (hm : many ≤ 1000) (ok : S.ok N) (hN : N + 5 * many + 1 ≤ 1000000000) (k : ∀ (p : Addr) (cs : List Cmd) (S' : SrcS), cs.length ≤ many → (∀ c, c ∈ cs → c.ok 999999999999999999999999999999) → S'.ok (N + 5 * many + 1) → Q (.ref p) ((p, .lst (cs.map Cmd.w)) :: (S'.at_ q ++ Ds))) :
    cl sp__law_commands [.ref q, .int many] Cs Q E := cl_i (part_perm t.perm) ⟨_, _, rfl, q, many, S, Ds, N, rfl, rfl, hm, rfl, ok, hN, k⟩
structure I__law_commands (q : Addr) (Ds : Cells) (N : Nat) (i : Nat) (acc : List W) (C : Cells) (cs : List Cmd) (S : SrcS) : Prop where
  ha : acc = cs.map Cmd.w
  hl : cs.length = i
  hk : ∀ c, c ∈ cs → c.ok 999999999999999999999999999999
  ok : S.ok (N + 1 + 5 * i)
  hc : C = S.at_ q ++ Ds
def b__law_commands : MS := sRet (mLc (iRgn (mCons (mCall (cl sp__law_draw) (mCons (mVar 0) (mCons (mBin uAdd (mVar 1) (mC (.int 1))) (mNil)))) (mNil))) (gSet 2) (mYes) (mCall (cl sp__law_command) (mCons (mVar 0) (mNil))) [2])
def kb__law_commands : List KSig := []
theorem pure__law_commands : ∀ ws Cs Q E, sp__law_commands ws Cs Q E → b__law_commands (EndsD Q E) (rho0 ws) Cs := by
  rintro ws Cs Q E ⟨x, y, rfl, q, many, S, Ds, N, rfl, rfl, hm, rfl, ok, hN, k⟩
  (repeat (first | (simp only [b__law_commands, Int.zero_add, qIsN_n, qNotN_n, uIsi_r, nm_home, nm_fin, home_nm, fin_nm, sne_down_up, sne_down_right, sne_down_left, sne_down_home, sne_down_end, sne_up_down, sne_up_right, sne_up_left, sne_up_home, sne_up_end, sne_right_down, sne_right_up, sne_right_left, sne_right_home, sne_right_end, sne_left_down, sne_left_up, sne_left_right, sne_left_home, sne_left_end, sne_home_down, sne_home_up, sne_home_right, sne_home_left, sne_home_end, sne_end_down, sne_end_up, sne_end_right, sne_end_left, sne_end_home, sFor_eq, mLc_eq, uAdd_i, uAdd_s, uAdd_l, uMul_i, uMul_l, uEq_ii, uEq_ss, uEq_bb, uEq_nn, uEq_ni, uEq_in, uEq_ns, uEq_sn, uEq_is, uEq_si, uEq_rr, uEq_tt, uEq_rt, uEq_tr, uEq_tn, uEq_nt, uNe_ii, uNe_ss, uNe_bb, uNe_nn, uNe_ni, uNe_in, uNe_ns, uNe_sn, uNe_is, uNe_si, uNe_rr, uNe_tt, uNe_rt, uNe_tr, uNe_tn, uNe_nt, uIn_t, uIn_r, uIx_t, uIx_r, uIx_c, uIx_s, uLen_c, uLen_r, uLen_t, uLen_s, uMin_i, uMin_r, uMax_i, uMax_r, uInt_b, uInt_i, uInt_s, uList_r, uList_t, uIsi_n, uIsi_b, uIsi_i, uIsi_s, uIsi_t, uIsi_c, uSl_c, uSl_r, uSl_s, iOf_r, iOf_c, isNon_n, isNon_i, isNon_s, isNon_b, isNon_t, isNon_r, flat_s, flat_i, flat_b, flat_n, weq_ss, weq_ii, weq_ni, weq_in, weq_nn, kb_bb, kb_bi, kb_bs, kb_bl, kb_bt, kb_ib, kb_ii, kb_is, kb_il, kb_it, kb_sb, kb_si, kb_ss, kb_sl, kb_st, kb_lb, kb_li, kb_ls, kb_ll, kb_lt, kb_tb, kb_ti, kb_ts, kb_tl, kb_tt, kb_nb, kb_ni, kb_ns, kb_nl, kb_nt, nth0, nth1, nth2, nth3, mVar, mC, mBin, mUn, mNil, mCons, mCB, mTest, mAnd, mOr, mNot, mIf, mAndV, mOrV, mNotV, mTup, mLst, mChain, mCall, mCallK, reord, mYes, sNext, sSeq, sDrop, sRet, sRetN, sIf, sNever, sBreak, sCont, sAsg, sPar, sAug, sStore, gSet, gsNil, gsCons, gTupW, gStarW, qI2, qI, qNeg, qAbs, qStrI, iLst, iRgn, iRg2, iEnu, iTpl, mDT, mBM, mBM0, mSl, oNone, oSome, sMatch, mGo, mDNew, mDisp_eq, mPairs, EndsD, EndsW.turn, Rho.put, Rho.wipe, Rho.del, rho0, sp1_iff, sp2_iff, sp3_iff, sp4_iff, win, List.filterMap_cons, List.filterMap_nil, List.cons_append, List.nil_append, List.length_cons, List.length_nil, List.all_cons, List.all_nil, List.any_cons, List.any_nil, List.getElem?_cons_zero, List.getElem?_cons_succ, List.getElem?_nil, List.set_cons_zero, List.set_cons_succ, reduceIte, reduceCtorEq, Nat.reduceEqDiff, Nat.reduceAdd, Nat.reduceSub, Nat.reduceMul, Nat.reduceLeDiff, Int.reduceToNat, Int.cast_ofNat_Int, Int.natCast_zero, Int.natCast_one, Int.reduceLE, Int.reduceLT, Int.reduceNeg, Int.reduceAdd, Int.reduceSub, Int.reducePow, Int.reduceEq, Int.reduceNe, Int.toNat_zero, Int.toNat_one, Int.ofNat_eq_natCast, Nat.reducePow, Nat.le_refl, ge_iff_le, gt_iff_lt, List.mem_cons, List.not_mem_nil, or_false, false_or, or_true, true_or, Option.some.injEq, exists_eq_left', exists_eq_left, exists_eq', exists_eq, exists_and_left, exists_and_right, and_assoc, true_and, and_true, false_and, and_false, exists_false, exists_const, not_true_eq_false, not_false_eq_true, W.int.injEq, W.bl.injEq, W.str.injEq, W.ref.injEq, W.tup.injEq, List.cons.injEq, Bool.true_eq_false, Bool.false_eq_true, decide_eq_true_eq, decide_eq_false_iff_not, Bool.not_eq_true', Bool.not_eq_false', Bool.not_true, Bool.not_false, forall_const, true_implies, false_implies, implies_true, imp_self, decide_true, decide_false, Bool.and_true, Bool.true_and, Bool.and_false, Bool.false_and, Bool.or_false, Bool.or_true, Bool.false_or, Bool.true_or, beq_self_eq_true, pw_2_61, pw_10_18, pw_10_30, pw_10_29, pw_10_28, pw_10_40, pw_10_6, pw_10_9, lg_128, eq_self_iff_true, ne_eq, Int.not_lt, Int.not_le, Nat.not_lt, Nat.not_le, BEq.rfl]) | (refine ⟨_, (by first | exact lsAt_i | assumption), ?_⟩) | (refine ⟨mty_l, ?_⟩) | (refine ⟨mty_s, ?_⟩) | (refine ⟨_, ty_l (by first | exact lsAt_i | assumption), ?_⟩)))
  refine draw_i (by omega) (by omega) ok (by omega) fun r S1 h0 h1 ok1 => ?_
  (repeat (first | (simp only [Int.zero_add, qIsN_n, qNotN_n, uIsi_r, nm_home, nm_fin, home_nm, fin_nm, sne_down_up, sne_down_right, sne_down_left, sne_down_home, sne_down_end, sne_up_down, sne_up_right, sne_up_left, sne_up_home, sne_up_end, sne_right_down, sne_right_up, sne_right_left, sne_right_home, sne_right_end, sne_left_down, sne_left_up, sne_left_right, sne_left_home, sne_left_end, sne_home_down, sne_home_up, sne_home_right, sne_home_left, sne_home_end, sne_end_down, sne_end_up, sne_end_right, sne_end_left, sne_end_home, sFor_eq, mLc_eq, uAdd_i, uAdd_s, uAdd_l, uMul_i, uMul_l, uEq_ii, uEq_ss, uEq_bb, uEq_nn, uEq_ni, uEq_in, uEq_ns, uEq_sn, uEq_is, uEq_si, uEq_rr, uEq_tt, uEq_rt, uEq_tr, uEq_tn, uEq_nt, uNe_ii, uNe_ss, uNe_bb, uNe_nn, uNe_ni, uNe_in, uNe_ns, uNe_sn, uNe_is, uNe_si, uNe_rr, uNe_tt, uNe_rt, uNe_tr, uNe_tn, uNe_nt, uIn_t, uIn_r, uIx_t, uIx_r, uIx_c, uIx_s, uLen_c, uLen_r, uLen_t, uLen_s, uMin_i, uMin_r, uMax_i, uMax_r, uInt_b, uInt_i, uInt_s, uList_r, uList_t, uIsi_n, uIsi_b, uIsi_i, uIsi_s, uIsi_t, uIsi_c, uSl_c, uSl_r, uSl_s, iOf_r, iOf_c, isNon_n, isNon_i, isNon_s, isNon_b, isNon_t, isNon_r, flat_s, flat_i, flat_b, flat_n, weq_ss, weq_ii, weq_ni, weq_in, weq_nn, kb_bb, kb_bi, kb_bs, kb_bl, kb_bt, kb_ib, kb_ii, kb_is, kb_il, kb_it, kb_sb, kb_si, kb_ss, kb_sl, kb_st, kb_lb, kb_li, kb_ls, kb_ll, kb_lt, kb_tb, kb_ti, kb_ts, kb_tl, kb_tt, kb_nb, kb_ni, kb_ns, kb_nl, kb_nt, nth0, nth1, nth2, nth3, mVar, mC, mBin, mUn, mNil, mCons, mCB, mTest, mAnd, mOr, mNot, mIf, mAndV, mOrV, mNotV, mTup, mLst, mChain, mCall, mCallK, reord, mYes, sNext, sSeq, sDrop, sRet, sRetN, sIf, sNever, sBreak, sCont, sAsg, sPar, sAug, sStore, gSet, gsNil, gsCons, gTupW, gStarW, qI2, qI, qNeg, qAbs, qStrI, iLst, iRgn, iRg2, iEnu, iTpl, mDT, mBM, mBM0, mSl, oNone, oSome, sMatch, mGo, mDNew, mDisp_eq, mPairs, EndsD, EndsW.turn, Rho.put, Rho.wipe, Rho.del, rho0, sp1_iff, sp2_iff, sp3_iff, sp4_iff, win, List.filterMap_cons, List.filterMap_nil, List.cons_append, List.nil_append, List.length_cons, List.length_nil, List.all_cons, List.all_nil, List.any_cons, List.any_nil, List.getElem?_cons_zero, List.getElem?_cons_succ, List.getElem?_nil, List.set_cons_zero, List.set_cons_succ, reduceIte, reduceCtorEq, Nat.reduceEqDiff, Nat.reduceAdd, Nat.reduceSub, Nat.reduceMul, Nat.reduceLeDiff, Int.reduceToNat, Int.cast_ofNat_Int, Int.natCast_zero, Int.natCast_one, Int.reduceLE, Int.reduceLT, Int.reduceNeg, Int.reduceAdd, Int.reduceSub, Int.reducePow, Int.reduceEq, Int.reduceNe, Int.toNat_zero, Int.toNat_one, Int.ofNat_eq_natCast, Nat.reducePow, Nat.le_refl, ge_iff_le, gt_iff_lt, List.mem_cons, List.not_mem_nil, or_false, false_or, or_true, true_or, Option.some.injEq, exists_eq_left', exists_eq_left, exists_eq', exists_eq, exists_and_left, exists_and_right, and_assoc, true_and, and_true, false_and, and_false, exists_false, exists_const, not_true_eq_false, not_false_eq_true, W.int.injEq, W.bl.injEq, W.str.injEq, W.ref.injEq, W.tup.injEq, List.cons.injEq, Bool.true_eq_false, Bool.false_eq_true, decide_eq_true_eq, decide_eq_false_iff_not, Bool.not_eq_true', Bool.not_eq_false', Bool.not_true, Bool.not_false, forall_const, true_implies, false_implies, implies_true, imp_self, decide_true, decide_false, Bool.and_true, Bool.true_and, Bool.and_false, Bool.false_and, Bool.or_false, Bool.or_true, Bool.false_or, Bool.true_or, beq_self_eq_true, pw_2_61, pw_10_18, pw_10_30, pw_10_29, pw_10_28, pw_10_40, pw_10_6, pw_10_9, lg_128, eq_self_iff_true, ne_eq, Int.not_lt, Int.not_le, Nat.not_lt, Nat.not_le, BEq.rfl]) | (refine ⟨_, (by first | exact lsAt_i | assumption), ?_⟩) | (refine ⟨mty_l, ?_⟩) | (refine ⟨mty_s, ?_⟩) | (refine ⟨_, ty_l (by first | exact lsAt_i | assumption), ?_⟩)))
  refine ⟨by omega, by omega, ?_⟩
  refine lcB_i (fun i acc C => ∃ cs S, I__law_commands q Ds N i acc C cs S) ⟨[], S1, rfl, rfl, fun c hc => (nomatch hc), ok1, rfl⟩ (fun _ _ _ _ _ => trivial) ?_ ?_
  · rintro D i w acc C hi hw ⟨cs, S2, ⟨rfl, hl, hk, ok2, rfl⟩⟩
    dsimp only at hi hw
    subst hw
    (repeat (first | (simp only [Int.zero_add, qIsN_n, qNotN_n, uIsi_r, nm_home, nm_fin, home_nm, fin_nm, sne_down_up, sne_down_right, sne_down_left, sne_down_home, sne_down_end, sne_up_down, sne_up_right, sne_up_left, sne_up_home, sne_up_end, sne_right_down, sne_right_up, sne_right_left, sne_right_home, sne_right_end, sne_left_down, sne_left_up, sne_left_right, sne_left_home, sne_left_end, sne_home_down, sne_home_up, sne_home_right, sne_home_left, sne_home_end, sne_end_down, sne_end_up, sne_end_right, sne_end_left, sne_end_home, sFor_eq, mLc_eq, uAdd_i, uAdd_s, uAdd_l, uMul_i, uMul_l, uEq_ii, uEq_ss, uEq_bb, uEq_nn, uEq_ni, uEq_in, uEq_ns, uEq_sn, uEq_is, uEq_si, uEq_rr, uEq_tt, uEq_rt, uEq_tr, uEq_tn, uEq_nt, uNe_ii, uNe_ss, uNe_bb, uNe_nn, uNe_ni, uNe_in, uNe_ns, uNe_sn, uNe_is, uNe_si, uNe_rr, uNe_tt, uNe_rt, uNe_tr, uNe_tn, uNe_nt, uIn_t, uIn_r, uIx_t, uIx_r, uIx_c, uIx_s, uLen_c, uLen_r, uLen_t, uLen_s, uMin_i, uMin_r, uMax_i, uMax_r, uInt_b, uInt_i, uInt_s, uList_r, uList_t, uIsi_n, uIsi_b, uIsi_i, uIsi_s, uIsi_t, uIsi_c, uSl_c, uSl_r, uSl_s, iOf_r, iOf_c, isNon_n, isNon_i, isNon_s, isNon_b, isNon_t, isNon_r, flat_s, flat_i, flat_b, flat_n, weq_ss, weq_ii, weq_ni, weq_in, weq_nn, kb_bb, kb_bi, kb_bs, kb_bl, kb_bt, kb_ib, kb_ii, kb_is, kb_il, kb_it, kb_sb, kb_si, kb_ss, kb_sl, kb_st, kb_lb, kb_li, kb_ls, kb_ll, kb_lt, kb_tb, kb_ti, kb_ts, kb_tl, kb_tt, kb_nb, kb_ni, kb_ns, kb_nl, kb_nt, nth0, nth1, nth2, nth3, mVar, mC, mBin, mUn, mNil, mCons, mCB, mTest, mAnd, mOr, mNot, mIf, mAndV, mOrV, mNotV, mTup, mLst, mChain, mCall, mCallK, reord, mYes, sNext, sSeq, sDrop, sRet, sRetN, sIf, sNever, sBreak, sCont, sAsg, sPar, sAug, sStore, gSet, gsNil, gsCons, gTupW, gStarW, qI2, qI, qNeg, qAbs, qStrI, iLst, iRgn, iRg2, iEnu, iTpl, mDT, mBM, mBM0, mSl, oNone, oSome, sMatch, mGo, mDNew, mDisp_eq, mPairs, EndsD, EndsW.turn, Rho.put, Rho.wipe, Rho.del, rho0, sp1_iff, sp2_iff, sp3_iff, sp4_iff, win, List.filterMap_cons, List.filterMap_nil, List.cons_append, List.nil_append, List.length_cons, List.length_nil, List.all_cons, List.all_nil, List.any_cons, List.any_nil, List.getElem?_cons_zero, List.getElem?_cons_succ, List.getElem?_nil, List.set_cons_zero, List.set_cons_succ, reduceIte, reduceCtorEq, Nat.reduceEqDiff, Nat.reduceAdd, Nat.reduceSub, Nat.reduceMul, Nat.reduceLeDiff, Int.reduceToNat, Int.cast_ofNat_Int, Int.natCast_zero, Int.natCast_one, Int.reduceLE, Int.reduceLT, Int.reduceNeg, Int.reduceAdd, Int.reduceSub, Int.reducePow, Int.reduceEq, Int.reduceNe, Int.toNat_zero, Int.toNat_one, Int.ofNat_eq_natCast, Nat.reducePow, Nat.le_refl, ge_iff_le, gt_iff_lt, List.mem_cons, List.not_mem_nil, or_false, false_or, or_true, true_or, Option.some.injEq, exists_eq_left', exists_eq_left, exists_eq', exists_eq, exists_and_left, exists_and_right, and_assoc, true_and, and_true, false_and, and_false, exists_false, exists_const, not_true_eq_false, not_false_eq_true, W.int.injEq, W.bl.injEq, W.str.injEq, W.ref.injEq, W.tup.injEq, List.cons.injEq, Bool.true_eq_false, Bool.false_eq_true, decide_eq_true_eq, decide_eq_false_iff_not, Bool.not_eq_true', Bool.not_eq_false', Bool.not_true, Bool.not_false, forall_const, true_implies, false_implies, implies_true, imp_self, decide_true, decide_false, Bool.and_true, Bool.true_and, Bool.and_false, Bool.false_and, Bool.or_false, Bool.or_true, Bool.false_or, Bool.true_or, beq_self_eq_true, pw_2_61, pw_10_18, pw_10_30, pw_10_29, pw_10_28, pw_10_40, pw_10_6, pw_10_9, lg_128, eq_self_iff_true, ne_eq, Int.not_lt, Int.not_le, Nat.not_lt, Nat.not_le, BEq.rfl]) | (refine ⟨_, (by first | exact lsAt_i | assumption), ?_⟩) | (refine ⟨mty_l, ?_⟩) | (refine ⟨mty_s, ?_⟩) | (refine ⟨_, ty_l (by first | exact lsAt_i | assumption), ?_⟩)))
    refine srcS1_i ok2 (by omega) fun w S3 hw ok3 => ?_
    obtain ⟨c, rfl, hc⟩ := hw
    refine ⟨by rw [List.length_map]; omega, S3.at_ q ++ Ds, inferInstance, cs ++ [c], S3, ?_, by rw [List.length_append, hl]; rfl, ?_, ok3, rfl⟩
    · rw [List.map_append]; rfl
    · intro d hd
      rcases List.mem_append.mp hd with hd | hd
      · exact hk d hd
      · rw [List.mem_singleton.mp hd]
        exact hc
  · rintro D acc C ⟨cs, S2, ⟨rfl, hl, hk, ok2, rfl⟩⟩
    dsimp only at hl ok2
    exact ⟨_, .here, k D cs S2 (by omega) hk (ok2.up (by omega))⟩
/-! ### _law_written -/
def sp__law_written : SpW := sp1 fun x Cs Q _ => ∃ (a : Addr) (cs : List Cmd), x = .ref a ∧ LsAt a (cs.map Cmd.w) Cs ∧ cs.length ≤ 5000 ∧ (∀ c, c ∈ cs → c.ok BIG) ∧ Q (.str (txt (cmdsTx cs))) Cs
theorem len__law_written : ∀ ws Cs Q E, sp__law_written ws Cs Q E → ws.length = 1 := len1
structure I__law_written (a : Addr) (Cs : Cells) (cs : List Cmd) (i : Nat) (ρ : Rho) (C : Cells) : Prop where
  h0 : ρ 0 = some (.ref a)
  h1 : ρ 1 = some (.str (txt (jn [32] ((cs.take i).map Cmd.tx))))
  hc : C = Cs
def b__law_written : MS := sSeq (sAsg (mC (.str "")) (gSet 1)) (sSeq (sFor (iLst (mVar 0)) (gSet 2) (sSeq (sAsg (mBin qDGet (mDisp [(mC (.str "down"), mC (.str "D")), (mC (.str "up"), mC (.str "U")), (mC (.str "right"), mC (.str "R")), (mC (.str "left"), mC (.str "L")), (mC (.str "home"), mC (.str "H")), (mC (.str "end"), mC (.str "E"))]) (mBin uIx (mVar 2) (mC (.int 0)))) (gSet 3)) (sAsg (mBin uAdd (mBin uAdd (mBin uAdd (mVar 1) (mBin uIx (mLst (mCons (mC (.str " ")) (mCons (mC (.str "")) (mNil)))) (mCB uInt (mCons (mBin uEq (mVar 1) (mC (.str ""))) (mNil))))) (mIf (mTest (mBin qGt (mCB uLen (mCons (mVar 2) (mNil))) (mC (.int 1)))) (mCB qStrI (mCons (mBin uIx (mVar 2) (mC (.int 1))) (mNil))) (mC (.str "")))) (mVar 3)) (gSet 1)))) (sRet (mIf (mTest (mBin uNe (mVar 0) (mLst (mNil)))) (mVar 1) (mC (.str "none")))))
def kb__law_written : List KSig := []
theorem pure__law_written : ∀ ws Cs Q E, sp__law_written ws Cs Q E → b__law_written (EndsD Q E) (rho0 ws) Cs := by
  rintro ws Cs Q E ⟨x, rfl, a, cs, rfl, hl, hn, hc, k⟩
  (repeat (first | (simp only [b__law_written, Int.zero_add, qIsN_n, qNotN_n, uIsi_r, nm_home, nm_fin, home_nm, fin_nm, sne_down_up, sne_down_right, sne_down_left, sne_down_home, sne_down_end, sne_up_down, sne_up_right, sne_up_left, sne_up_home, sne_up_end, sne_right_down, sne_right_up, sne_right_left, sne_right_home, sne_right_end, sne_left_down, sne_left_up, sne_left_right, sne_left_home, sne_left_end, sne_home_down, sne_home_up, sne_home_right, sne_home_left, sne_home_end, sne_end_down, sne_end_up, sne_end_right, sne_end_left, sne_end_home, sFor_eq, mLc_eq, uAdd_i, uAdd_s, uAdd_l, uMul_i, uMul_l, uEq_ii, uEq_ss, uEq_bb, uEq_nn, uEq_ni, uEq_in, uEq_ns, uEq_sn, uEq_is, uEq_si, uEq_rr, uEq_tt, uEq_rt, uEq_tr, uEq_tn, uEq_nt, uNe_ii, uNe_ss, uNe_bb, uNe_nn, uNe_ni, uNe_in, uNe_ns, uNe_sn, uNe_is, uNe_si, uNe_rr, uNe_tt, uNe_rt, uNe_tr, uNe_tn, uNe_nt, uIn_t, uIn_r, uIx_t, uIx_r, uIx_c, uIx_s, uLen_c, uLen_r, uLen_t, uLen_s, uMin_i, uMin_r, uMax_i, uMax_r, uInt_b, uInt_i, uInt_s, uList_r, uList_t, uIsi_n, uIsi_b, uIsi_i, uIsi_s, uIsi_t, uIsi_c, uSl_c, uSl_r, uSl_s, iOf_r, iOf_c, isNon_n, isNon_i, isNon_s, isNon_b, isNon_t, isNon_r, flat_s, flat_i, flat_b, flat_n, weq_ss, weq_ii, weq_ni, weq_in, weq_nn, kb_bb, kb_bi, kb_bs, kb_bl, kb_bt, kb_ib, kb_ii, kb_is, kb_il, kb_it, kb_sb, kb_si, kb_ss, kb_sl, kb_st, kb_lb, kb_li, kb_ls, kb_ll, kb_lt, kb_tb, kb_ti, kb_ts, kb_tl, kb_tt, kb_nb, kb_ni, kb_ns, kb_nl, kb_nt, nth0, nth1, nth2, nth3, mVar, mC, mBin, mUn, mNil, mCons, mCB, mTest, mAnd, mOr, mNot, mIf, mAndV, mOrV, mNotV, mTup, mLst, mChain, mCall, mCallK, reord, mYes, sNext, sSeq, sDrop, sRet, sRetN, sIf, sNever, sBreak, sCont, sAsg, sPar, sAug, sStore, gSet, gsNil, gsCons, gTupW, gStarW, qI2, qI, qNeg, qAbs, qStrI, iLst, iRgn, iRg2, iEnu, iTpl, mDT, mBM, mBM0, mSl, oNone, oSome, sMatch, mGo, mDNew, mDisp_eq, mPairs, EndsD, EndsW.turn, Rho.put, Rho.wipe, Rho.del, rho0, sp1_iff, sp2_iff, sp3_iff, sp4_iff, win, List.filterMap_cons, List.filterMap_nil, List.cons_append, List.nil_append, List.length_cons, List.length_nil, List.all_cons, List.all_nil, List.any_cons, List.any_nil, List.getElem?_cons_zero, List.getElem?_cons_succ, List.getElem?_nil, List.set_cons_zero, List.set_cons_succ, reduceIte, reduceCtorEq, Nat.reduceEqDiff, Nat.reduceAdd, Nat.reduceSub, Nat.reduceMul, Nat.reduceLeDiff, Int.reduceToNat, Int.cast_ofNat_Int, Int.natCast_zero, Int.natCast_one, Int.reduceLE, Int.reduceLT, Int.reduceNeg, Int.reduceAdd, Int.reduceSub, Int.reducePow, Int.reduceEq, Int.reduceNe, Int.toNat_zero, Int.toNat_one, Int.ofNat_eq_natCast, Nat.reducePow, Nat.le_refl, ge_iff_le, gt_iff_lt, List.mem_cons, List.not_mem_nil, or_false, false_or, or_true, true_or, Option.some.injEq, exists_eq_left', exists_eq_left, exists_eq', exists_eq, exists_and_left, exists_and_right, and_assoc, true_and, and_true, false_and, and_false, exists_false, exists_const, not_true_eq_false, not_false_eq_true, W.int.injEq, W.bl.injEq, W.str.injEq, W.ref.injEq, W.tup.injEq, List.cons.injEq, Bool.true_eq_false, Bool.false_eq_true, decide_eq_true_eq, decide_eq_false_iff_not, Bool.not_eq_true', Bool.not_eq_false', Bool.not_true, Bool.not_false, forall_const, true_implies, false_implies, implies_true, imp_self, decide_true, decide_false, Bool.and_true, Bool.true_and, Bool.and_false, Bool.false_and, Bool.or_false, Bool.or_true, Bool.false_or, Bool.true_or, beq_self_eq_true, pw_2_61, pw_10_18, pw_10_30, pw_10_29, pw_10_28, pw_10_40, pw_10_6, pw_10_9, lg_128, eq_self_iff_true, ne_eq, Int.not_lt, Int.not_le, Nat.not_lt, Nat.not_le, BEq.rfl]) | (refine ⟨_, (by first | exact lsAt_i | assumption), ?_⟩) | (refine ⟨mty_l, ?_⟩) | (refine ⟨mty_s, ?_⟩) | (refine ⟨_, ty_l (by first | exact lsAt_i | assumption), ?_⟩)))
  refine forB_i (fun i ρ C => I__law_written a Cs cs i ρ C) ⟨rfl, rfl, rfl⟩ (fun i ρ C _ h => by rw [h.hc]; exact hl) ?_ ?_
  · rintro i w ρ C hi hw ⟨h0, h1, rfl⟩
    dsimp only at hi hw
    rw [List.length_map] at hi
    rw [List.getElem?_map, List.getElem?_eq_getElem hi] at hw
    obtain rfl := Option.some.inj hw
    have ok := hc _ (List.getElem_mem hi)
    have ets : cs.take (i + 1) = cs.take i ++ [cs[i]] := List.take_succ_eq_append_getElem hi
    have hlen : (jn [32] ((cs.take i).map Cmd.tx)).length ≤ 300000 := by
      have := jn_len [32] 47 ((cs.take i).map Cmd.tx) fun w hw => by
        obtain ⟨c, hc', rfl⟩ := List.mem_map.mp hw
        exact tx_big (hc c (List.mem_of_mem_take hc'))
      rw [List.length_map, List.length_take, List.length_singleton] at this
      omega
    have htl := tx_big ok
    have key : ∀ (num ltr : List Nat), num ++ ltr = cs[i].tx → ∀ g : List Nat, (txt (jn [32] ((cs.take i).map Cmd.tx)) = txt [] → g = []) → (¬ txt (jn [32] ((cs.take i).map Cmd.tx)) = txt [] → g = [32]) →
        jn [32] ((cs.take i).map Cmd.tx) ++ g ++ num ++ ltr = jn [32] ((cs.take (i + 1)).map Cmd.tx) := by
      intro num ltr e g g1 g2
      rw [ets, List.map_append, List.append_assoc _ num, e]
      by_cases z : cs.take i = []
      · rw [g1 (by rw [z]; rfl), z]
        simp [jn]
      · rw [g2 (by
          rw [txt_inj]
          obtain ⟨r, x, e2, _⟩ := jn_last _ z
          rw [e2]
          simp)]
        show _ = jn [32] (_ ++ [cs[i].tx])
        rw [jn_snoc _ _ _ (by simpa using z)]
    obtain ⟨c, e⟩ : ∃ c, cs[i] = c := ⟨_, rfl⟩
    rw [e] at ok htl key ⊢
    have fin : ∀ (C' : Cells) (ρ2 : Rho), Part C C' → ∀ t : List Nat, t = jn [32] ((cs.take (i + 1)).map Cmd.tx) → ρ2 0 = some (.ref a) → ρ2 1 = some (.str (txt t)) → ∃ C2, Part C2 C' ∧ I__law_written a C cs (i + 1) ρ2 C2 := fun C' ρ2 hp t ht e0 e1 => ⟨C, hp, e0, by rw [e1, ht], rfl⟩
    have sz : sizeLine = 16777216 := sizeLine_eq
    cases c with
    | go d n =>
      have n0 : 0 ≤ n := by have := ok.1; omega
      have nd : (dg n.toNat).length ≤ 46 := dg_len 45 _ (by have := ok.2; unfold BIG at this; omega)
      (repeat (first | (simp only [h0, h1, Cmd.w, Int.zero_add, qIsN_n, qNotN_n, uIsi_r, nm_home, nm_fin, home_nm, fin_nm, sne_down_up, sne_down_right, sne_down_left, sne_down_home, sne_down_end, sne_up_down, sne_up_right, sne_up_left, sne_up_home, sne_up_end, sne_right_down, sne_right_up, sne_right_left, sne_right_home, sne_right_end, sne_left_down, sne_left_up, sne_left_right, sne_left_home, sne_left_end, sne_home_down, sne_home_up, sne_home_right, sne_home_left, sne_home_end, sne_end_down, sne_end_up, sne_end_right, sne_end_left, sne_end_home, sFor_eq, mLc_eq, uAdd_i, uAdd_s, uAdd_l, uMul_i, uMul_l, uEq_ii, uEq_ss, uEq_bb, uEq_nn, uEq_ni, uEq_in, uEq_ns, uEq_sn, uEq_is, uEq_si, uEq_rr, uEq_tt, uEq_rt, uEq_tr, uEq_tn, uEq_nt, uNe_ii, uNe_ss, uNe_bb, uNe_nn, uNe_ni, uNe_in, uNe_ns, uNe_sn, uNe_is, uNe_si, uNe_rr, uNe_tt, uNe_rt, uNe_tr, uNe_tn, uNe_nt, uIn_t, uIn_r, uIx_t, uIx_r, uIx_c, uIx_s, uLen_c, uLen_r, uLen_t, uLen_s, uMin_i, uMin_r, uMax_i, uMax_r, uInt_b, uInt_i, uInt_s, uList_r, uList_t, uIsi_n, uIsi_b, uIsi_i, uIsi_s, uIsi_t, uIsi_c, uSl_c, uSl_r, uSl_s, iOf_r, iOf_c, isNon_n, isNon_i, isNon_s, isNon_b, isNon_t, isNon_r, flat_s, flat_i, flat_b, flat_n, weq_ss, weq_ii, weq_ni, weq_in, weq_nn, kb_bb, kb_bi, kb_bs, kb_bl, kb_bt, kb_ib, kb_ii, kb_is, kb_il, kb_it, kb_sb, kb_si, kb_ss, kb_sl, kb_st, kb_lb, kb_li, kb_ls, kb_ll, kb_lt, kb_tb, kb_ti, kb_ts, kb_tl, kb_tt, kb_nb, kb_ni, kb_ns, kb_nl, kb_nt, nth0, nth1, nth2, nth3, mVar, mC, mBin, mUn, mNil, mCons, mCB, mTest, mAnd, mOr, mNot, mIf, mAndV, mOrV, mNotV, mTup, mLst, mChain, mCall, mCallK, reord, mYes, sNext, sSeq, sDrop, sRet, sRetN, sIf, sNever, sBreak, sCont, sAsg, sPar, sAug, sStore, gSet, gsNil, gsCons, gTupW, gStarW, qI2, qI, qNeg, qAbs, qStrI, iLst, iRgn, iRg2, iEnu, iTpl, mDT, mBM, mBM0, mSl, oNone, oSome, sMatch, mGo, mDNew, mDisp_eq, mPairs, EndsD, EndsW.turn, Rho.put, Rho.wipe, Rho.del, rho0, sp1_iff, sp2_iff, sp3_iff, sp4_iff, win, List.filterMap_cons, List.filterMap_nil, List.cons_append, List.nil_append, List.length_cons, List.length_nil, List.all_cons, List.all_nil, List.any_cons, List.any_nil, List.getElem?_cons_zero, List.getElem?_cons_succ, List.getElem?_nil, List.set_cons_zero, List.set_cons_succ, reduceIte, reduceCtorEq, Nat.reduceEqDiff, Nat.reduceAdd, Nat.reduceSub, Nat.reduceMul, Nat.reduceLeDiff, Int.reduceToNat, Int.cast_ofNat_Int, Int.natCast_zero, Int.natCast_one, Int.reduceLE, Int.reduceLT, Int.reduceNeg, Int.reduceAdd, Int.reduceSub, Int.reducePow, Int.reduceEq, Int.reduceNe, Int.toNat_zero, Int.toNat_one, Int.ofNat_eq_natCast, Nat.reducePow, Nat.le_refl, ge_iff_le, gt_iff_lt, List.mem_cons, List.not_mem_nil, or_false, false_or, or_true, true_or, Option.some.injEq, exists_eq_left', exists_eq_left, exists_eq', exists_eq, exists_and_left, exists_and_right, and_assoc, true_and, and_true, false_and, and_false, exists_false, exists_const, not_true_eq_false, not_false_eq_true, W.int.injEq, W.bl.injEq, W.str.injEq, W.ref.injEq, W.tup.injEq, List.cons.injEq, Bool.true_eq_false, Bool.false_eq_true, decide_eq_true_eq, decide_eq_false_iff_not, Bool.not_eq_true', Bool.not_eq_false', Bool.not_true, Bool.not_false, forall_const, true_implies, false_implies, implies_true, imp_self, decide_true, decide_false, Bool.and_true, Bool.true_and, Bool.and_false, Bool.false_and, Bool.or_false, Bool.or_true, Bool.false_or, Bool.true_or, beq_self_eq_true, pw_2_61, pw_10_18, pw_10_30, pw_10_29, pw_10_28, pw_10_40, pw_10_6, pw_10_9, lg_128, eq_self_iff_true, ne_eq, Int.not_lt, Int.not_le, Nat.not_lt, Nat.not_le, BEq.rfl]) | (refine ⟨_, (by first | exact lsAt_i | assumption), ?_⟩) | (refine ⟨mty_l, ?_⟩) | (refine ⟨mty_s, ?_⟩) | (refine ⟨_, ty_l (by first | exact lsAt_i | assumption), ?_⟩)))
      intro p
      (repeat (first | (simp only [h0, h1, Int.zero_add, qIsN_n, qNotN_n, uIsi_r, nm_home, nm_fin, home_nm, fin_nm, sne_down_up, sne_down_right, sne_down_left, sne_down_home, sne_down_end, sne_up_down, sne_up_right, sne_up_left, sne_up_home, sne_up_end, sne_right_down, sne_right_up, sne_right_left, sne_right_home, sne_right_end, sne_left_down, sne_left_up, sne_left_right, sne_left_home, sne_left_end, sne_home_down, sne_home_up, sne_home_right, sne_home_left, sne_home_end, sne_end_down, sne_end_up, sne_end_right, sne_end_left, sne_end_home, sFor_eq, mLc_eq, uAdd_i, uAdd_s, uAdd_l, uMul_i, uMul_l, uEq_ii, uEq_ss, uEq_bb, uEq_nn, uEq_ni, uEq_in, uEq_ns, uEq_sn, uEq_is, uEq_si, uEq_rr, uEq_tt, uEq_rt, uEq_tr, uEq_tn, uEq_nt, uNe_ii, uNe_ss, uNe_bb, uNe_nn, uNe_ni, uNe_in, uNe_ns, uNe_sn, uNe_is, uNe_si, uNe_rr, uNe_tt, uNe_rt, uNe_tr, uNe_tn, uNe_nt, uIn_t, uIn_r, uIx_t, uIx_r, uIx_c, uIx_s, uLen_c, uLen_r, uLen_t, uLen_s, uMin_i, uMin_r, uMax_i, uMax_r, uInt_b, uInt_i, uInt_s, uList_r, uList_t, uIsi_n, uIsi_b, uIsi_i, uIsi_s, uIsi_t, uIsi_c, uSl_c, uSl_r, uSl_s, iOf_r, iOf_c, isNon_n, isNon_i, isNon_s, isNon_b, isNon_t, isNon_r, flat_s, flat_i, flat_b, flat_n, weq_ss, weq_ii, weq_ni, weq_in, weq_nn, kb_bb, kb_bi, kb_bs, kb_bl, kb_bt, kb_ib, kb_ii, kb_is, kb_il, kb_it, kb_sb, kb_si, kb_ss, kb_sl, kb_st, kb_lb, kb_li, kb_ls, kb_ll, kb_lt, kb_tb, kb_ti, kb_ts, kb_tl, kb_tt, kb_nb, kb_ni, kb_ns, kb_nl, kb_nt, nth0, nth1, nth2, nth3, mVar, mC, mBin, mUn, mNil, mCons, mCB, mTest, mAnd, mOr, mNot, mIf, mAndV, mOrV, mNotV, mTup, mLst, mChain, mCall, mCallK, reord, mYes, sNext, sSeq, sDrop, sRet, sRetN, sIf, sNever, sBreak, sCont, sAsg, sPar, sAug, sStore, gSet, gsNil, gsCons, gTupW, gStarW, qI2, qI, qNeg, qAbs, qStrI, iLst, iRgn, iRg2, iEnu, iTpl, mDT, mBM, mBM0, mSl, oNone, oSome, sMatch, mGo, mDNew, mDisp_eq, mPairs, EndsD, EndsW.turn, Rho.put, Rho.wipe, Rho.del, rho0, sp1_iff, sp2_iff, sp3_iff, sp4_iff, win, List.filterMap_cons, List.filterMap_nil, List.cons_append, List.nil_append, List.length_cons, List.length_nil, List.all_cons, List.all_nil, List.any_cons, List.any_nil, List.getElem?_cons_zero, List.getElem?_cons_succ, List.getElem?_nil, List.set_cons_zero, List.set_cons_succ, reduceIte, reduceCtorEq, Nat.reduceEqDiff, Nat.reduceAdd, Nat.reduceSub, Nat.reduceMul, Nat.reduceLeDiff, Int.reduceToNat, Int.cast_ofNat_Int, Int.natCast_zero, Int.natCast_one, Int.reduceLE, Int.reduceLT, Int.reduceNeg, Int.reduceAdd, Int.reduceSub, Int.reducePow, Int.reduceEq, Int.reduceNe, Int.toNat_zero, Int.toNat_one, Int.ofNat_eq_natCast, Nat.reducePow, Nat.le_refl, ge_iff_le, gt_iff_lt, List.mem_cons, List.not_mem_nil, or_false, false_or, or_true, true_or, Option.some.injEq, exists_eq_left', exists_eq_left, exists_eq', exists_eq, exists_and_left, exists_and_right, and_assoc, true_and, and_true, false_and, and_false, exists_false, exists_const, not_true_eq_false, not_false_eq_true, W.int.injEq, W.bl.injEq, W.str.injEq, W.ref.injEq, W.tup.injEq, List.cons.injEq, Bool.true_eq_false, Bool.false_eq_true, decide_eq_true_eq, decide_eq_false_iff_not, Bool.not_eq_true', Bool.not_eq_false', Bool.not_true, Bool.not_false, forall_const, true_implies, false_implies, implies_true, imp_self, decide_true, decide_false, Bool.and_true, Bool.true_and, Bool.and_false, Bool.false_and, Bool.or_false, Bool.or_true, Bool.false_or, Bool.true_or, beq_self_eq_true, pw_2_61, pw_10_18, pw_10_30, pw_10_29, pw_10_28, pw_10_40, pw_10_6, pw_10_9, lg_128, eq_self_iff_true, ne_eq, Int.not_lt, Int.not_le, Nat.not_lt, Nat.not_le, BEq.rfl]) | (refine ⟨_, (by first | exact lsAt_i | assumption), ?_⟩) | (refine ⟨mty_l, ?_⟩) | (refine ⟨mty_s, ?_⟩) | (refine ⟨_, ty_l (by first | exact lsAt_i | assumption), ?_⟩)))
      refine disp_i [(.inr "down", .str "D"), (.inr "up", .str "U"), (.inr "right", .str "R"), (.inr "left", .str "L"), (.inr "home", .str "H"), (.inr "end", .str "E")] rfl (by decide) ?_
      (repeat (first | (simp only [h0, h1, Int.zero_add, qIsN_n, qNotN_n, uIsi_r, nm_home, nm_fin, home_nm, fin_nm, sne_down_up, sne_down_right, sne_down_left, sne_down_home, sne_down_end, sne_up_down, sne_up_right, sne_up_left, sne_up_home, sne_up_end, sne_right_down, sne_right_up, sne_right_left, sne_right_home, sne_right_end, sne_left_down, sne_left_up, sne_left_right, sne_left_home, sne_left_end, sne_home_down, sne_home_up, sne_home_right, sne_home_left, sne_home_end, sne_end_down, sne_end_up, sne_end_right, sne_end_left, sne_end_home, sFor_eq, mLc_eq, uAdd_i, uAdd_s, uAdd_l, uMul_i, uMul_l, uEq_ii, uEq_ss, uEq_bb, uEq_nn, uEq_ni, uEq_in, uEq_ns, uEq_sn, uEq_is, uEq_si, uEq_rr, uEq_tt, uEq_rt, uEq_tr, uEq_tn, uEq_nt, uNe_ii, uNe_ss, uNe_bb, uNe_nn, uNe_ni, uNe_in, uNe_ns, uNe_sn, uNe_is, uNe_si, uNe_rr, uNe_tt, uNe_rt, uNe_tr, uNe_tn, uNe_nt, uIn_t, uIn_r, uIx_t, uIx_r, uIx_c, uIx_s, uLen_c, uLen_r, uLen_t, uLen_s, uMin_i, uMin_r, uMax_i, uMax_r, uInt_b, uInt_i, uInt_s, uList_r, uList_t, uIsi_n, uIsi_b, uIsi_i, uIsi_s, uIsi_t, uIsi_c, uSl_c, uSl_r, uSl_s, iOf_r, iOf_c, isNon_n, isNon_i, isNon_s, isNon_b, isNon_t, isNon_r, flat_s, flat_i, flat_b, flat_n, weq_ss, weq_ii, weq_ni, weq_in, weq_nn, kb_bb, kb_bi, kb_bs, kb_bl, kb_bt, kb_ib, kb_ii, kb_is, kb_il, kb_it, kb_sb, kb_si, kb_ss, kb_sl, kb_st, kb_lb, kb_li, kb_ls, kb_ll, kb_lt, kb_tb, kb_ti, kb_ts, kb_tl, kb_tt, kb_nb, kb_ni, kb_ns, kb_nl, kb_nt, nth0, nth1, nth2, nth3, mVar, mC, mBin, mUn, mNil, mCons, mCB, mTest, mAnd, mOr, mNot, mIf, mAndV, mOrV, mNotV, mTup, mLst, mChain, mCall, mCallK, reord, mYes, sNext, sSeq, sDrop, sRet, sRetN, sIf, sNever, sBreak, sCont, sAsg, sPar, sAug, sStore, gSet, gsNil, gsCons, gTupW, gStarW, qI2, qI, qNeg, qAbs, qStrI, iLst, iRgn, iRg2, iEnu, iTpl, mDT, mBM, mBM0, mSl, oNone, oSome, sMatch, mGo, mDNew, mDisp_eq, mPairs, EndsD, EndsW.turn, Rho.put, Rho.wipe, Rho.del, rho0, sp1_iff, sp2_iff, sp3_iff, sp4_iff, win, List.filterMap_cons, List.filterMap_nil, List.cons_append, List.nil_append, List.length_cons, List.length_nil, List.all_cons, List.all_nil, List.any_cons, List.any_nil, List.getElem?_cons_zero, List.getElem?_cons_succ, List.getElem?_nil, List.set_cons_zero, List.set_cons_succ, reduceIte, reduceCtorEq, Nat.reduceEqDiff, Nat.reduceAdd, Nat.reduceSub, Nat.reduceMul, Nat.reduceLeDiff, Int.reduceToNat, Int.cast_ofNat_Int, Int.natCast_zero, Int.natCast_one, Int.reduceLE, Int.reduceLT, Int.reduceNeg, Int.reduceAdd, Int.reduceSub, Int.reducePow, Int.reduceEq, Int.reduceNe, Int.toNat_zero, Int.toNat_one, Int.ofNat_eq_natCast, Nat.reducePow, Nat.le_refl, ge_iff_le, gt_iff_lt, List.mem_cons, List.not_mem_nil, or_false, false_or, or_true, true_or, Option.some.injEq, exists_eq_left', exists_eq_left, exists_eq', exists_eq, exists_and_left, exists_and_right, and_assoc, true_and, and_true, false_and, and_false, exists_false, exists_const, not_true_eq_false, not_false_eq_true, W.int.injEq, W.bl.injEq, W.str.injEq, W.ref.injEq, W.tup.injEq, List.cons.injEq, Bool.true_eq_false, Bool.false_eq_true, decide_eq_true_eq, decide_eq_false_iff_not, Bool.not_eq_true', Bool.not_eq_false', Bool.not_true, Bool.not_false, forall_const, true_implies, false_implies, implies_true, imp_self, decide_true, decide_false, Bool.and_true, Bool.true_and, Bool.and_false, Bool.false_and, Bool.or_false, Bool.or_true, Bool.false_or, Bool.true_or, beq_self_eq_true, pw_2_61, pw_10_18, pw_10_30, pw_10_29, pw_10_28, pw_10_40, pw_10_6, pw_10_9, lg_128, eq_self_iff_true, ne_eq, Int.not_lt, Int.not_le, Nat.not_lt, Nat.not_le, BEq.rfl]) | (refine ⟨_, (by first | exact lsAt_i | assumption), ?_⟩) | (refine ⟨mty_l, ?_⟩) | (refine ⟨mty_s, ?_⟩) | (refine ⟨_, ty_l (by first | exact lsAt_i | assumption), ?_⟩)))
      refine dget_i (k := .inr d.nm) rfl (w := .str (txt [d.lt])) (by cases d <;> rfl) ?_
      (repeat (first | (simp only [h0, h1, Int.zero_add, qIsN_n, qNotN_n, uIsi_r, nm_home, nm_fin, home_nm, fin_nm, sne_down_up, sne_down_right, sne_down_left, sne_down_home, sne_down_end, sne_up_down, sne_up_right, sne_up_left, sne_up_home, sne_up_end, sne_right_down, sne_right_up, sne_right_left, sne_right_home, sne_right_end, sne_left_down, sne_left_up, sne_left_right, sne_left_home, sne_left_end, sne_home_down, sne_home_up, sne_home_right, sne_home_left, sne_home_end, sne_end_down, sne_end_up, sne_end_right, sne_end_left, sne_end_home, sFor_eq, mLc_eq, uAdd_i, uAdd_s, uAdd_l, uMul_i, uMul_l, uEq_ii, uEq_ss, uEq_bb, uEq_nn, uEq_ni, uEq_in, uEq_ns, uEq_sn, uEq_is, uEq_si, uEq_rr, uEq_tt, uEq_rt, uEq_tr, uEq_tn, uEq_nt, uNe_ii, uNe_ss, uNe_bb, uNe_nn, uNe_ni, uNe_in, uNe_ns, uNe_sn, uNe_is, uNe_si, uNe_rr, uNe_tt, uNe_rt, uNe_tr, uNe_tn, uNe_nt, uIn_t, uIn_r, uIx_t, uIx_r, uIx_c, uIx_s, uLen_c, uLen_r, uLen_t, uLen_s, uMin_i, uMin_r, uMax_i, uMax_r, uInt_b, uInt_i, uInt_s, uList_r, uList_t, uIsi_n, uIsi_b, uIsi_i, uIsi_s, uIsi_t, uIsi_c, uSl_c, uSl_r, uSl_s, iOf_r, iOf_c, isNon_n, isNon_i, isNon_s, isNon_b, isNon_t, isNon_r, flat_s, flat_i, flat_b, flat_n, weq_ss, weq_ii, weq_ni, weq_in, weq_nn, kb_bb, kb_bi, kb_bs, kb_bl, kb_bt, kb_ib, kb_ii, kb_is, kb_il, kb_it, kb_sb, kb_si, kb_ss, kb_sl, kb_st, kb_lb, kb_li, kb_ls, kb_ll, kb_lt, kb_tb, kb_ti, kb_ts, kb_tl, kb_tt, kb_nb, kb_ni, kb_ns, kb_nl, kb_nt, nth0, nth1, nth2, nth3, mVar, mC, mBin, mUn, mNil, mCons, mCB, mTest, mAnd, mOr, mNot, mIf, mAndV, mOrV, mNotV, mTup, mLst, mChain, mCall, mCallK, reord, mYes, sNext, sSeq, sDrop, sRet, sRetN, sIf, sNever, sBreak, sCont, sAsg, sPar, sAug, sStore, gSet, gsNil, gsCons, gTupW, gStarW, qI2, qI, qNeg, qAbs, qStrI, iLst, iRgn, iRg2, iEnu, iTpl, mDT, mBM, mBM0, mSl, oNone, oSome, sMatch, mGo, mDNew, mDisp_eq, mPairs, EndsD, EndsW.turn, Rho.put, Rho.wipe, Rho.del, rho0, sp1_iff, sp2_iff, sp3_iff, sp4_iff, win, List.filterMap_cons, List.filterMap_nil, List.cons_append, List.nil_append, List.length_cons, List.length_nil, List.all_cons, List.all_nil, List.any_cons, List.any_nil, List.getElem?_cons_zero, List.getElem?_cons_succ, List.getElem?_nil, List.set_cons_zero, List.set_cons_succ, reduceIte, reduceCtorEq, Nat.reduceEqDiff, Nat.reduceAdd, Nat.reduceSub, Nat.reduceMul, Nat.reduceLeDiff, Int.reduceToNat, Int.cast_ofNat_Int, Int.natCast_zero, Int.natCast_one, Int.reduceLE, Int.reduceLT, Int.reduceNeg, Int.reduceAdd, Int.reduceSub, Int.reducePow, Int.reduceEq, Int.reduceNe, Int.toNat_zero, Int.toNat_one, Int.ofNat_eq_natCast, Nat.reducePow, Nat.le_refl, ge_iff_le, gt_iff_lt, List.mem_cons, List.not_mem_nil, or_false, false_or, or_true, true_or, Option.some.injEq, exists_eq_left', exists_eq_left, exists_eq', exists_eq, exists_and_left, exists_and_right, and_assoc, true_and, and_true, false_and, and_false, exists_false, exists_const, not_true_eq_false, not_false_eq_true, W.int.injEq, W.bl.injEq, W.str.injEq, W.ref.injEq, W.tup.injEq, List.cons.injEq, Bool.true_eq_false, Bool.false_eq_true, decide_eq_true_eq, decide_eq_false_iff_not, Bool.not_eq_true', Bool.not_eq_false', Bool.not_true, Bool.not_false, forall_const, true_implies, false_implies, implies_true, imp_self, decide_true, decide_false, Bool.and_true, Bool.true_and, Bool.and_false, Bool.false_and, Bool.or_false, Bool.or_true, Bool.false_or, Bool.true_or, beq_self_eq_true, pw_2_61, pw_10_18, pw_10_30, pw_10_29, pw_10_28, pw_10_40, pw_10_6, pw_10_9, lg_128, eq_self_iff_true, ne_eq, Int.not_lt, Int.not_le, Nat.not_lt, Nat.not_le, BEq.rfl]) | (refine ⟨_, (by first | exact lsAt_i | assumption), ?_⟩) | (refine ⟨mty_l, ?_⟩) | (refine ⟨mty_s, ?_⟩) | (refine ⟨_, ty_l (by first | exact lsAt_i | assumption), ?_⟩)))
      intro p1
      by_cases z : txt (jn [32] ((cs.take i).map Cmd.tx)) = txt []
      · (repeat (first | (simp only [h0, h1, no_txt, sp_txt, of_num n0, txt_app, txt_len, eq_true z, Int.zero_add, qIsN_n, qNotN_n, uIsi_r, nm_home, nm_fin, home_nm, fin_nm, sne_down_up, sne_down_right, sne_down_left, sne_down_home, sne_down_end, sne_up_down, sne_up_right, sne_up_left, sne_up_home, sne_up_end, sne_right_down, sne_right_up, sne_right_left, sne_right_home, sne_right_end, sne_left_down, sne_left_up, sne_left_right, sne_left_home, sne_left_end, sne_home_down, sne_home_up, sne_home_right, sne_home_left, sne_home_end, sne_end_down, sne_end_up, sne_end_right, sne_end_left, sne_end_home, sFor_eq, mLc_eq, uAdd_i, uAdd_s, uAdd_l, uMul_i, uMul_l, uEq_ii, uEq_ss, uEq_bb, uEq_nn, uEq_ni, uEq_in, uEq_ns, uEq_sn, uEq_is, uEq_si, uEq_rr, uEq_tt, uEq_rt, uEq_tr, uEq_tn, uEq_nt, uNe_ii, uNe_ss, uNe_bb, uNe_nn, uNe_ni, uNe_in, uNe_ns, uNe_sn, uNe_is, uNe_si, uNe_rr, uNe_tt, uNe_rt, uNe_tr, uNe_tn, uNe_nt, uIn_t, uIn_r, uIx_t, uIx_r, uIx_c, uIx_s, uLen_c, uLen_r, uLen_t, uLen_s, uMin_i, uMin_r, uMax_i, uMax_r, uInt_b, uInt_i, uInt_s, uList_r, uList_t, uIsi_n, uIsi_b, uIsi_i, uIsi_s, uIsi_t, uIsi_c, uSl_c, uSl_r, uSl_s, iOf_r, iOf_c, isNon_n, isNon_i, isNon_s, isNon_b, isNon_t, isNon_r, flat_s, flat_i, flat_b, flat_n, weq_ss, weq_ii, weq_ni, weq_in, weq_nn, kb_bb, kb_bi, kb_bs, kb_bl, kb_bt, kb_ib, kb_ii, kb_is, kb_il, kb_it, kb_sb, kb_si, kb_ss, kb_sl, kb_st, kb_lb, kb_li, kb_ls, kb_ll, kb_lt, kb_tb, kb_ti, kb_ts, kb_tl, kb_tt, kb_nb, kb_ni, kb_ns, kb_nl, kb_nt, nth0, nth1, nth2, nth3, mVar, mC, mBin, mUn, mNil, mCons, mCB, mTest, mAnd, mOr, mNot, mIf, mAndV, mOrV, mNotV, mTup, mLst, mChain, mCall, mCallK, reord, mYes, sNext, sSeq, sDrop, sRet, sRetN, sIf, sNever, sBreak, sCont, sAsg, sPar, sAug, sStore, gSet, gsNil, gsCons, gTupW, gStarW, qI2, qI, qNeg, qAbs, qStrI, iLst, iRgn, iRg2, iEnu, iTpl, mDT, mBM, mBM0, mSl, oNone, oSome, sMatch, mGo, mDNew, mDisp_eq, mPairs, EndsD, EndsW.turn, Rho.put, Rho.wipe, Rho.del, rho0, sp1_iff, sp2_iff, sp3_iff, sp4_iff, win, List.filterMap_cons, List.filterMap_nil, List.cons_append, List.nil_append, List.length_cons, List.length_nil, List.all_cons, List.all_nil, List.any_cons, List.any_nil, List.getElem?_cons_zero, List.getElem?_cons_succ, List.getElem?_nil, List.set_cons_zero, List.set_cons_succ, reduceIte, reduceCtorEq, Nat.reduceEqDiff, Nat.reduceAdd, Nat.reduceSub, Nat.reduceMul, Nat.reduceLeDiff, Int.reduceToNat, Int.cast_ofNat_Int, Int.natCast_zero, Int.natCast_one, Int.reduceLE, Int.reduceLT, Int.reduceNeg, Int.reduceAdd, Int.reduceSub, Int.reducePow, Int.reduceEq, Int.reduceNe, Int.toNat_zero, Int.toNat_one, Int.ofNat_eq_natCast, Nat.reducePow, Nat.le_refl, ge_iff_le, gt_iff_lt, List.mem_cons, List.not_mem_nil, or_false, false_or, or_true, true_or, Option.some.injEq, exists_eq_left', exists_eq_left, exists_eq', exists_eq, exists_and_left, exists_and_right, and_assoc, true_and, and_true, false_and, and_false, exists_false, exists_const, not_true_eq_false, not_false_eq_true, W.int.injEq, W.bl.injEq, W.str.injEq, W.ref.injEq, W.tup.injEq, List.cons.injEq, Bool.true_eq_false, Bool.false_eq_true, decide_eq_true_eq, decide_eq_false_iff_not, Bool.not_eq_true', Bool.not_eq_false', Bool.not_true, Bool.not_false, forall_const, true_implies, false_implies, implies_true, imp_self, decide_true, decide_false, Bool.and_true, Bool.true_and, Bool.and_false, Bool.false_and, Bool.or_false, Bool.or_true, Bool.false_or, Bool.true_or, beq_self_eq_true, pw_2_61, pw_10_18, pw_10_30, pw_10_29, pw_10_28, pw_10_40, pw_10_6, pw_10_9, lg_128, eq_self_iff_true, ne_eq, Int.not_lt, Int.not_le, Nat.not_lt, Nat.not_le, BEq.rfl]) | (refine ⟨_, (by first | exact lsAt_i | assumption), ?_⟩) | (refine ⟨mty_l, ?_⟩) | (refine ⟨mty_s, ?_⟩) | (refine ⟨_, ty_l (by first | exact lsAt_i | assumption), ?_⟩)))
        exact ⟨by omega, lg_big n0 ok.2, by simp only [List.length_append, List.length_nil]; omega, by simp only [List.length_append, List.length_nil]; omega, fin _ _ inferInstance _ (key _ _ rfl [] (fun _ => rfl) (fun h => absurd z h)) h0 rfl⟩
      · (repeat (first | (simp only [h0, h1, no_txt, sp_txt, of_num n0, txt_app, txt_len, eq_false z, Int.zero_add, qIsN_n, qNotN_n, uIsi_r, nm_home, nm_fin, home_nm, fin_nm, sne_down_up, sne_down_right, sne_down_left, sne_down_home, sne_down_end, sne_up_down, sne_up_right, sne_up_left, sne_up_home, sne_up_end, sne_right_down, sne_right_up, sne_right_left, sne_right_home, sne_right_end, sne_left_down, sne_left_up, sne_left_right, sne_left_home, sne_left_end, sne_home_down, sne_home_up, sne_home_right, sne_home_left, sne_home_end, sne_end_down, sne_end_up, sne_end_right, sne_end_left, sne_end_home, sFor_eq, mLc_eq, uAdd_i, uAdd_s, uAdd_l, uMul_i, uMul_l, uEq_ii, uEq_ss, uEq_bb, uEq_nn, uEq_ni, uEq_in, uEq_ns, uEq_sn, uEq_is, uEq_si, uEq_rr, uEq_tt, uEq_rt, uEq_tr, uEq_tn, uEq_nt, uNe_ii, uNe_ss, uNe_bb, uNe_nn, uNe_ni, uNe_in, uNe_ns, uNe_sn, uNe_is, uNe_si, uNe_rr, uNe_tt, uNe_rt, uNe_tr, uNe_tn, uNe_nt, uIn_t, uIn_r, uIx_t, uIx_r, uIx_c, uIx_s, uLen_c, uLen_r, uLen_t, uLen_s, uMin_i, uMin_r, uMax_i, uMax_r, uInt_b, uInt_i, uInt_s, uList_r, uList_t, uIsi_n, uIsi_b, uIsi_i, uIsi_s, uIsi_t, uIsi_c, uSl_c, uSl_r, uSl_s, iOf_r, iOf_c, isNon_n, isNon_i, isNon_s, isNon_b, isNon_t, isNon_r, flat_s, flat_i, flat_b, flat_n, weq_ss, weq_ii, weq_ni, weq_in, weq_nn, kb_bb, kb_bi, kb_bs, kb_bl, kb_bt, kb_ib, kb_ii, kb_is, kb_il, kb_it, kb_sb, kb_si, kb_ss, kb_sl, kb_st, kb_lb, kb_li, kb_ls, kb_ll, kb_lt, kb_tb, kb_ti, kb_ts, kb_tl, kb_tt, kb_nb, kb_ni, kb_ns, kb_nl, kb_nt, nth0, nth1, nth2, nth3, mVar, mC, mBin, mUn, mNil, mCons, mCB, mTest, mAnd, mOr, mNot, mIf, mAndV, mOrV, mNotV, mTup, mLst, mChain, mCall, mCallK, reord, mYes, sNext, sSeq, sDrop, sRet, sRetN, sIf, sNever, sBreak, sCont, sAsg, sPar, sAug, sStore, gSet, gsNil, gsCons, gTupW, gStarW, qI2, qI, qNeg, qAbs, qStrI, iLst, iRgn, iRg2, iEnu, iTpl, mDT, mBM, mBM0, mSl, oNone, oSome, sMatch, mGo, mDNew, mDisp_eq, mPairs, EndsD, EndsW.turn, Rho.put, Rho.wipe, Rho.del, rho0, sp1_iff, sp2_iff, sp3_iff, sp4_iff, win, List.filterMap_cons, List.filterMap_nil, List.cons_append, List.nil_append, List.length_cons, List.length_nil, List.all_cons, List.all_nil, List.any_cons, List.any_nil, List.getElem?_cons_zero, List.getElem?_cons_succ, List.getElem?_nil, List.set_cons_zero, List.set_cons_succ, reduceIte, reduceCtorEq, Nat.reduceEqDiff, Nat.reduceAdd, Nat.reduceSub, Nat.reduceMul, Nat.reduceLeDiff, Int.reduceToNat, Int.cast_ofNat_Int, Int.natCast_zero, Int.natCast_one, Int.reduceLE, Int.reduceLT, Int.reduceNeg, Int.reduceAdd, Int.reduceSub, Int.reducePow, Int.reduceEq, Int.reduceNe, Int.toNat_zero, Int.toNat_one, Int.ofNat_eq_natCast, Nat.reducePow, Nat.le_refl, ge_iff_le, gt_iff_lt, List.mem_cons, List.not_mem_nil, or_false, false_or, or_true, true_or, Option.some.injEq, exists_eq_left', exists_eq_left, exists_eq', exists_eq, exists_and_left, exists_and_right, and_assoc, true_and, and_true, false_and, and_false, exists_false, exists_const, not_true_eq_false, not_false_eq_true, W.int.injEq, W.bl.injEq, W.str.injEq, W.ref.injEq, W.tup.injEq, List.cons.injEq, Bool.true_eq_false, Bool.false_eq_true, decide_eq_true_eq, decide_eq_false_iff_not, Bool.not_eq_true', Bool.not_eq_false', Bool.not_true, Bool.not_false, forall_const, true_implies, false_implies, implies_true, imp_self, decide_true, decide_false, Bool.and_true, Bool.true_and, Bool.and_false, Bool.false_and, Bool.or_false, Bool.or_true, Bool.false_or, Bool.true_or, beq_self_eq_true, pw_2_61, pw_10_18, pw_10_30, pw_10_29, pw_10_28, pw_10_40, pw_10_6, pw_10_9, lg_128, eq_self_iff_true, ne_eq, Int.not_lt, Int.not_le, Nat.not_lt, Nat.not_le, BEq.rfl]) | (refine ⟨_, (by first | exact lsAt_i | assumption), ?_⟩) | (refine ⟨mty_l, ?_⟩) | (refine ⟨mty_s, ?_⟩) | (refine ⟨_, ty_l (by first | exact lsAt_i | assumption), ?_⟩)))
        exact ⟨by omega, lg_big n0 ok.2, by simp only [List.length_append, List.length_cons, List.length_nil]; omega, by simp only [List.length_append, List.length_cons, List.length_nil]; omega, fin _ _ inferInstance _ (key _ _ rfl [32] (fun h => absurd h z) (fun _ => rfl)) h0 rfl⟩
    | home =>
      (repeat (first | (simp only [h0, h1, Cmd.w, Int.zero_add, qIsN_n, qNotN_n, uIsi_r, nm_home, nm_fin, home_nm, fin_nm, sne_down_up, sne_down_right, sne_down_left, sne_down_home, sne_down_end, sne_up_down, sne_up_right, sne_up_left, sne_up_home, sne_up_end, sne_right_down, sne_right_up, sne_right_left, sne_right_home, sne_right_end, sne_left_down, sne_left_up, sne_left_right, sne_left_home, sne_left_end, sne_home_down, sne_home_up, sne_home_right, sne_home_left, sne_home_end, sne_end_down, sne_end_up, sne_end_right, sne_end_left, sne_end_home, sFor_eq, mLc_eq, uAdd_i, uAdd_s, uAdd_l, uMul_i, uMul_l, uEq_ii, uEq_ss, uEq_bb, uEq_nn, uEq_ni, uEq_in, uEq_ns, uEq_sn, uEq_is, uEq_si, uEq_rr, uEq_tt, uEq_rt, uEq_tr, uEq_tn, uEq_nt, uNe_ii, uNe_ss, uNe_bb, uNe_nn, uNe_ni, uNe_in, uNe_ns, uNe_sn, uNe_is, uNe_si, uNe_rr, uNe_tt, uNe_rt, uNe_tr, uNe_tn, uNe_nt, uIn_t, uIn_r, uIx_t, uIx_r, uIx_c, uIx_s, uLen_c, uLen_r, uLen_t, uLen_s, uMin_i, uMin_r, uMax_i, uMax_r, uInt_b, uInt_i, uInt_s, uList_r, uList_t, uIsi_n, uIsi_b, uIsi_i, uIsi_s, uIsi_t, uIsi_c, uSl_c, uSl_r, uSl_s, iOf_r, iOf_c, isNon_n, isNon_i, isNon_s, isNon_b, isNon_t, isNon_r, flat_s, flat_i, flat_b, flat_n, weq_ss, weq_ii, weq_ni, weq_in, weq_nn, kb_bb, kb_bi, kb_bs, kb_bl, kb_bt, kb_ib, kb_ii, kb_is, kb_il, kb_it, kb_sb, kb_si, kb_ss, kb_sl, kb_st, kb_lb, kb_li, kb_ls, kb_ll, kb_lt, kb_tb, kb_ti, kb_ts, kb_tl, kb_tt, kb_nb, kb_ni, kb_ns, kb_nl, kb_nt, nth0, nth1, nth2, nth3, mVar, mC, mBin, mUn, mNil, mCons, mCB, mTest, mAnd, mOr, mNot, mIf, mAndV, mOrV, mNotV, mTup, mLst, mChain, mCall, mCallK, reord, mYes, sNext, sSeq, sDrop, sRet, sRetN, sIf, sNever, sBreak, sCont, sAsg, sPar, sAug, sStore, gSet, gsNil, gsCons, gTupW, gStarW, qI2, qI, qNeg, qAbs, qStrI, iLst, iRgn, iRg2, iEnu, iTpl, mDT, mBM, mBM0, mSl, oNone, oSome, sMatch, mGo, mDNew, mDisp_eq, mPairs, EndsD, EndsW.turn, Rho.put, Rho.wipe, Rho.del, rho0, sp1_iff, sp2_iff, sp3_iff, sp4_iff, win, List.filterMap_cons, List.filterMap_nil, List.cons_append, List.nil_append, List.length_cons, List.length_nil, List.all_cons, List.all_nil, List.any_cons, List.any_nil, List.getElem?_cons_zero, List.getElem?_cons_succ, List.getElem?_nil, List.set_cons_zero, List.set_cons_succ, reduceIte, reduceCtorEq, Nat.reduceEqDiff, Nat.reduceAdd, Nat.reduceSub, Nat.reduceMul, Nat.reduceLeDiff, Int.reduceToNat, Int.cast_ofNat_Int, Int.natCast_zero, Int.natCast_one, Int.reduceLE, Int.reduceLT, Int.reduceNeg, Int.reduceAdd, Int.reduceSub, Int.reducePow, Int.reduceEq, Int.reduceNe, Int.toNat_zero, Int.toNat_one, Int.ofNat_eq_natCast, Nat.reducePow, Nat.le_refl, ge_iff_le, gt_iff_lt, List.mem_cons, List.not_mem_nil, or_false, false_or, or_true, true_or, Option.some.injEq, exists_eq_left', exists_eq_left, exists_eq', exists_eq, exists_and_left, exists_and_right, and_assoc, true_and, and_true, false_and, and_false, exists_false, exists_const, not_true_eq_false, not_false_eq_true, W.int.injEq, W.bl.injEq, W.str.injEq, W.ref.injEq, W.tup.injEq, List.cons.injEq, Bool.true_eq_false, Bool.false_eq_true, decide_eq_true_eq, decide_eq_false_iff_not, Bool.not_eq_true', Bool.not_eq_false', Bool.not_true, Bool.not_false, forall_const, true_implies, false_implies, implies_true, imp_self, decide_true, decide_false, Bool.and_true, Bool.true_and, Bool.and_false, Bool.false_and, Bool.or_false, Bool.or_true, Bool.false_or, Bool.true_or, beq_self_eq_true, pw_2_61, pw_10_18, pw_10_30, pw_10_29, pw_10_28, pw_10_40, pw_10_6, pw_10_9, lg_128, eq_self_iff_true, ne_eq, Int.not_lt, Int.not_le, Nat.not_lt, Nat.not_le, BEq.rfl]) | (refine ⟨_, (by first | exact lsAt_i | assumption), ?_⟩) | (refine ⟨mty_l, ?_⟩) | (refine ⟨mty_s, ?_⟩) | (refine ⟨_, ty_l (by first | exact lsAt_i | assumption), ?_⟩)))
      intro p
      (repeat (first | (simp only [h0, h1, Int.zero_add, qIsN_n, qNotN_n, uIsi_r, nm_home, nm_fin, home_nm, fin_nm, sne_down_up, sne_down_right, sne_down_left, sne_down_home, sne_down_end, sne_up_down, sne_up_right, sne_up_left, sne_up_home, sne_up_end, sne_right_down, sne_right_up, sne_right_left, sne_right_home, sne_right_end, sne_left_down, sne_left_up, sne_left_right, sne_left_home, sne_left_end, sne_home_down, sne_home_up, sne_home_right, sne_home_left, sne_home_end, sne_end_down, sne_end_up, sne_end_right, sne_end_left, sne_end_home, sFor_eq, mLc_eq, uAdd_i, uAdd_s, uAdd_l, uMul_i, uMul_l, uEq_ii, uEq_ss, uEq_bb, uEq_nn, uEq_ni, uEq_in, uEq_ns, uEq_sn, uEq_is, uEq_si, uEq_rr, uEq_tt, uEq_rt, uEq_tr, uEq_tn, uEq_nt, uNe_ii, uNe_ss, uNe_bb, uNe_nn, uNe_ni, uNe_in, uNe_ns, uNe_sn, uNe_is, uNe_si, uNe_rr, uNe_tt, uNe_rt, uNe_tr, uNe_tn, uNe_nt, uIn_t, uIn_r, uIx_t, uIx_r, uIx_c, uIx_s, uLen_c, uLen_r, uLen_t, uLen_s, uMin_i, uMin_r, uMax_i, uMax_r, uInt_b, uInt_i, uInt_s, uList_r, uList_t, uIsi_n, uIsi_b, uIsi_i, uIsi_s, uIsi_t, uIsi_c, uSl_c, uSl_r, uSl_s, iOf_r, iOf_c, isNon_n, isNon_i, isNon_s, isNon_b, isNon_t, isNon_r, flat_s, flat_i, flat_b, flat_n, weq_ss, weq_ii, weq_ni, weq_in, weq_nn, kb_bb, kb_bi, kb_bs, kb_bl, kb_bt, kb_ib, kb_ii, kb_is, kb_il, kb_it, kb_sb, kb_si, kb_ss, kb_sl, kb_st, kb_lb, kb_li, kb_ls, kb_ll, kb_lt, kb_tb, kb_ti, kb_ts, kb_tl, kb_tt, kb_nb, kb_ni, kb_ns, kb_nl, kb_nt, nth0, nth1, nth2, nth3, mVar, mC, mBin, mUn, mNil, mCons, mCB, mTest, mAnd, mOr, mNot, mIf, mAndV, mOrV, mNotV, mTup, mLst, mChain, mCall, mCallK, reord, mYes, sNext, sSeq, sDrop, sRet, sRetN, sIf, sNever, sBreak, sCont, sAsg, sPar, sAug, sStore, gSet, gsNil, gsCons, gTupW, gStarW, qI2, qI, qNeg, qAbs, qStrI, iLst, iRgn, iRg2, iEnu, iTpl, mDT, mBM, mBM0, mSl, oNone, oSome, sMatch, mGo, mDNew, mDisp_eq, mPairs, EndsD, EndsW.turn, Rho.put, Rho.wipe, Rho.del, rho0, sp1_iff, sp2_iff, sp3_iff, sp4_iff, win, List.filterMap_cons, List.filterMap_nil, List.cons_append, List.nil_append, List.length_cons, List.length_nil, List.all_cons, List.all_nil, List.any_cons, List.any_nil, List.getElem?_cons_zero, List.getElem?_cons_succ, List.getElem?_nil, List.set_cons_zero, List.set_cons_succ, reduceIte, reduceCtorEq, Nat.reduceEqDiff, Nat.reduceAdd, Nat.reduceSub, Nat.reduceMul, Nat.reduceLeDiff, Int.reduceToNat, Int.cast_ofNat_Int, Int.natCast_zero, Int.natCast_one, Int.reduceLE, Int.reduceLT, Int.reduceNeg, Int.reduceAdd, Int.reduceSub, Int.reducePow, Int.reduceEq, Int.reduceNe, Int.toNat_zero, Int.toNat_one, Int.ofNat_eq_natCast, Nat.reducePow, Nat.le_refl, ge_iff_le, gt_iff_lt, List.mem_cons, List.not_mem_nil, or_false, false_or, or_true, true_or, Option.some.injEq, exists_eq_left', exists_eq_left, exists_eq', exists_eq, exists_and_left, exists_and_right, and_assoc, true_and, and_true, false_and, and_false, exists_false, exists_const, not_true_eq_false, not_false_eq_true, W.int.injEq, W.bl.injEq, W.str.injEq, W.ref.injEq, W.tup.injEq, List.cons.injEq, Bool.true_eq_false, Bool.false_eq_true, decide_eq_true_eq, decide_eq_false_iff_not, Bool.not_eq_true', Bool.not_eq_false', Bool.not_true, Bool.not_false, forall_const, true_implies, false_implies, implies_true, imp_self, decide_true, decide_false, Bool.and_true, Bool.true_and, Bool.and_false, Bool.false_and, Bool.or_false, Bool.or_true, Bool.false_or, Bool.true_or, beq_self_eq_true, pw_2_61, pw_10_18, pw_10_30, pw_10_29, pw_10_28, pw_10_40, pw_10_6, pw_10_9, lg_128, eq_self_iff_true, ne_eq, Int.not_lt, Int.not_le, Nat.not_lt, Nat.not_le, BEq.rfl]) | (refine ⟨_, (by first | exact lsAt_i | assumption), ?_⟩) | (refine ⟨mty_l, ?_⟩) | (refine ⟨mty_s, ?_⟩) | (refine ⟨_, ty_l (by first | exact lsAt_i | assumption), ?_⟩)))
      refine disp_i [(.inr "down", .str "D"), (.inr "up", .str "U"), (.inr "right", .str "R"), (.inr "left", .str "L"), (.inr "home", .str "H"), (.inr "end", .str "E")] rfl (by decide) ?_
      (repeat (first | (simp only [h0, h1, Int.zero_add, qIsN_n, qNotN_n, uIsi_r, nm_home, nm_fin, home_nm, fin_nm, sne_down_up, sne_down_right, sne_down_left, sne_down_home, sne_down_end, sne_up_down, sne_up_right, sne_up_left, sne_up_home, sne_up_end, sne_right_down, sne_right_up, sne_right_left, sne_right_home, sne_right_end, sne_left_down, sne_left_up, sne_left_right, sne_left_home, sne_left_end, sne_home_down, sne_home_up, sne_home_right, sne_home_left, sne_home_end, sne_end_down, sne_end_up, sne_end_right, sne_end_left, sne_end_home, sFor_eq, mLc_eq, uAdd_i, uAdd_s, uAdd_l, uMul_i, uMul_l, uEq_ii, uEq_ss, uEq_bb, uEq_nn, uEq_ni, uEq_in, uEq_ns, uEq_sn, uEq_is, uEq_si, uEq_rr, uEq_tt, uEq_rt, uEq_tr, uEq_tn, uEq_nt, uNe_ii, uNe_ss, uNe_bb, uNe_nn, uNe_ni, uNe_in, uNe_ns, uNe_sn, uNe_is, uNe_si, uNe_rr, uNe_tt, uNe_rt, uNe_tr, uNe_tn, uNe_nt, uIn_t, uIn_r, uIx_t, uIx_r, uIx_c, uIx_s, uLen_c, uLen_r, uLen_t, uLen_s, uMin_i, uMin_r, uMax_i, uMax_r, uInt_b, uInt_i, uInt_s, uList_r, uList_t, uIsi_n, uIsi_b, uIsi_i, uIsi_s, uIsi_t, uIsi_c, uSl_c, uSl_r, uSl_s, iOf_r, iOf_c, isNon_n, isNon_i, isNon_s, isNon_b, isNon_t, isNon_r, flat_s, flat_i, flat_b, flat_n, weq_ss, weq_ii, weq_ni, weq_in, weq_nn, kb_bb, kb_bi, kb_bs, kb_bl, kb_bt, kb_ib, kb_ii, kb_is, kb_il, kb_it, kb_sb, kb_si, kb_ss, kb_sl, kb_st, kb_lb, kb_li, kb_ls, kb_ll, kb_lt, kb_tb, kb_ti, kb_ts, kb_tl, kb_tt, kb_nb, kb_ni, kb_ns, kb_nl, kb_nt, nth0, nth1, nth2, nth3, mVar, mC, mBin, mUn, mNil, mCons, mCB, mTest, mAnd, mOr, mNot, mIf, mAndV, mOrV, mNotV, mTup, mLst, mChain, mCall, mCallK, reord, mYes, sNext, sSeq, sDrop, sRet, sRetN, sIf, sNever, sBreak, sCont, sAsg, sPar, sAug, sStore, gSet, gsNil, gsCons, gTupW, gStarW, qI2, qI, qNeg, qAbs, qStrI, iLst, iRgn, iRg2, iEnu, iTpl, mDT, mBM, mBM0, mSl, oNone, oSome, sMatch, mGo, mDNew, mDisp_eq, mPairs, EndsD, EndsW.turn, Rho.put, Rho.wipe, Rho.del, rho0, sp1_iff, sp2_iff, sp3_iff, sp4_iff, win, List.filterMap_cons, List.filterMap_nil, List.cons_append, List.nil_append, List.length_cons, List.length_nil, List.all_cons, List.all_nil, List.any_cons, List.any_nil, List.getElem?_cons_zero, List.getElem?_cons_succ, List.getElem?_nil, List.set_cons_zero, List.set_cons_succ, reduceIte, reduceCtorEq, Nat.reduceEqDiff, Nat.reduceAdd, Nat.reduceSub, Nat.reduceMul, Nat.reduceLeDiff, Int.reduceToNat, Int.cast_ofNat_Int, Int.natCast_zero, Int.natCast_one, Int.reduceLE, Int.reduceLT, Int.reduceNeg, Int.reduceAdd, Int.reduceSub, Int.reducePow, Int.reduceEq, Int.reduceNe, Int.toNat_zero, Int.toNat_one, Int.ofNat_eq_natCast, Nat.reducePow, Nat.le_refl, ge_iff_le, gt_iff_lt, List.mem_cons, List.not_mem_nil, or_false, false_or, or_true, true_or, Option.some.injEq, exists_eq_left', exists_eq_left, exists_eq', exists_eq, exists_and_left, exists_and_right, and_assoc, true_and, and_true, false_and, and_false, exists_false, exists_const, not_true_eq_false, not_false_eq_true, W.int.injEq, W.bl.injEq, W.str.injEq, W.ref.injEq, W.tup.injEq, List.cons.injEq, Bool.true_eq_false, Bool.false_eq_true, decide_eq_true_eq, decide_eq_false_iff_not, Bool.not_eq_true', Bool.not_eq_false', Bool.not_true, Bool.not_false, forall_const, true_implies, false_implies, implies_true, imp_self, decide_true, decide_false, Bool.and_true, Bool.true_and, Bool.and_false, Bool.false_and, Bool.or_false, Bool.or_true, Bool.false_or, Bool.true_or, beq_self_eq_true, pw_2_61, pw_10_18, pw_10_30, pw_10_29, pw_10_28, pw_10_40, pw_10_6, pw_10_9, lg_128, eq_self_iff_true, ne_eq, Int.not_lt, Int.not_le, Nat.not_lt, Nat.not_le, BEq.rfl]) | (refine ⟨_, (by first | exact lsAt_i | assumption), ?_⟩) | (refine ⟨mty_l, ?_⟩) | (refine ⟨mty_s, ?_⟩) | (refine ⟨_, ty_l (by first | exact lsAt_i | assumption), ?_⟩)))
      refine dget_i (k := .inr "home") rfl (w := .str (txt [72])) rfl ?_
      (repeat (first | (simp only [h0, h1, Int.zero_add, qIsN_n, qNotN_n, uIsi_r, nm_home, nm_fin, home_nm, fin_nm, sne_down_up, sne_down_right, sne_down_left, sne_down_home, sne_down_end, sne_up_down, sne_up_right, sne_up_left, sne_up_home, sne_up_end, sne_right_down, sne_right_up, sne_right_left, sne_right_home, sne_right_end, sne_left_down, sne_left_up, sne_left_right, sne_left_home, sne_left_end, sne_home_down, sne_home_up, sne_home_right, sne_home_left, sne_home_end, sne_end_down, sne_end_up, sne_end_right, sne_end_left, sne_end_home, sFor_eq, mLc_eq, uAdd_i, uAdd_s, uAdd_l, uMul_i, uMul_l, uEq_ii, uEq_ss, uEq_bb, uEq_nn, uEq_ni, uEq_in, uEq_ns, uEq_sn, uEq_is, uEq_si, uEq_rr, uEq_tt, uEq_rt, uEq_tr, uEq_tn, uEq_nt, uNe_ii, uNe_ss, uNe_bb, uNe_nn, uNe_ni, uNe_in, uNe_ns, uNe_sn, uNe_is, uNe_si, uNe_rr, uNe_tt, uNe_rt, uNe_tr, uNe_tn, uNe_nt, uIn_t, uIn_r, uIx_t, uIx_r, uIx_c, uIx_s, uLen_c, uLen_r, uLen_t, uLen_s, uMin_i, uMin_r, uMax_i, uMax_r, uInt_b, uInt_i, uInt_s, uList_r, uList_t, uIsi_n, uIsi_b, uIsi_i, uIsi_s, uIsi_t, uIsi_c, uSl_c, uSl_r, uSl_s, iOf_r, iOf_c, isNon_n, isNon_i, isNon_s, isNon_b, isNon_t, isNon_r, flat_s, flat_i, flat_b, flat_n, weq_ss, weq_ii, weq_ni, weq_in, weq_nn, kb_bb, kb_bi, kb_bs, kb_bl, kb_bt, kb_ib, kb_ii, kb_is, kb_il, kb_it, kb_sb, kb_si, kb_ss, kb_sl, kb_st, kb_lb, kb_li, kb_ls, kb_ll, kb_lt, kb_tb, kb_ti, kb_ts, kb_tl, kb_tt, kb_nb, kb_ni, kb_ns, kb_nl, kb_nt, nth0, nth1, nth2, nth3, mVar, mC, mBin, mUn, mNil, mCons, mCB, mTest, mAnd, mOr, mNot, mIf, mAndV, mOrV, mNotV, mTup, mLst, mChain, mCall, mCallK, reord, mYes, sNext, sSeq, sDrop, sRet, sRetN, sIf, sNever, sBreak, sCont, sAsg, sPar, sAug, sStore, gSet, gsNil, gsCons, gTupW, gStarW, qI2, qI, qNeg, qAbs, qStrI, iLst, iRgn, iRg2, iEnu, iTpl, mDT, mBM, mBM0, mSl, oNone, oSome, sMatch, mGo, mDNew, mDisp_eq, mPairs, EndsD, EndsW.turn, Rho.put, Rho.wipe, Rho.del, rho0, sp1_iff, sp2_iff, sp3_iff, sp4_iff, win, List.filterMap_cons, List.filterMap_nil, List.cons_append, List.nil_append, List.length_cons, List.length_nil, List.all_cons, List.all_nil, List.any_cons, List.any_nil, List.getElem?_cons_zero, List.getElem?_cons_succ, List.getElem?_nil, List.set_cons_zero, List.set_cons_succ, reduceIte, reduceCtorEq, Nat.reduceEqDiff, Nat.reduceAdd, Nat.reduceSub, Nat.reduceMul, Nat.reduceLeDiff, Int.reduceToNat, Int.cast_ofNat_Int, Int.natCast_zero, Int.natCast_one, Int.reduceLE, Int.reduceLT, Int.reduceNeg, Int.reduceAdd, Int.reduceSub, Int.reducePow, Int.reduceEq, Int.reduceNe, Int.toNat_zero, Int.toNat_one, Int.ofNat_eq_natCast, Nat.reducePow, Nat.le_refl, ge_iff_le, gt_iff_lt, List.mem_cons, List.not_mem_nil, or_false, false_or, or_true, true_or, Option.some.injEq, exists_eq_left', exists_eq_left, exists_eq', exists_eq, exists_and_left, exists_and_right, and_assoc, true_and, and_true, false_and, and_false, exists_false, exists_const, not_true_eq_false, not_false_eq_true, W.int.injEq, W.bl.injEq, W.str.injEq, W.ref.injEq, W.tup.injEq, List.cons.injEq, Bool.true_eq_false, Bool.false_eq_true, decide_eq_true_eq, decide_eq_false_iff_not, Bool.not_eq_true', Bool.not_eq_false', Bool.not_true, Bool.not_false, forall_const, true_implies, false_implies, implies_true, imp_self, decide_true, decide_false, Bool.and_true, Bool.true_and, Bool.and_false, Bool.false_and, Bool.or_false, Bool.or_true, Bool.false_or, Bool.true_or, beq_self_eq_true, pw_2_61, pw_10_18, pw_10_30, pw_10_29, pw_10_28, pw_10_40, pw_10_6, pw_10_9, lg_128, eq_self_iff_true, ne_eq, Int.not_lt, Int.not_le, Nat.not_lt, Nat.not_le, BEq.rfl]) | (refine ⟨_, (by first | exact lsAt_i | assumption), ?_⟩) | (refine ⟨mty_l, ?_⟩) | (refine ⟨mty_s, ?_⟩) | (refine ⟨_, ty_l (by first | exact lsAt_i | assumption), ?_⟩)))
      intro p1
      by_cases z : txt (jn [32] ((cs.take i).map Cmd.tx)) = txt []
      · (repeat (first | (simp only [h0, h1, no_txt, sp_txt, txt_app, txt_len, eq_true z, Int.zero_add, qIsN_n, qNotN_n, uIsi_r, nm_home, nm_fin, home_nm, fin_nm, sne_down_up, sne_down_right, sne_down_left, sne_down_home, sne_down_end, sne_up_down, sne_up_right, sne_up_left, sne_up_home, sne_up_end, sne_right_down, sne_right_up, sne_right_left, sne_right_home, sne_right_end, sne_left_down, sne_left_up, sne_left_right, sne_left_home, sne_left_end, sne_home_down, sne_home_up, sne_home_right, sne_home_left, sne_home_end, sne_end_down, sne_end_up, sne_end_right, sne_end_left, sne_end_home, sFor_eq, mLc_eq, uAdd_i, uAdd_s, uAdd_l, uMul_i, uMul_l, uEq_ii, uEq_ss, uEq_bb, uEq_nn, uEq_ni, uEq_in, uEq_ns, uEq_sn, uEq_is, uEq_si, uEq_rr, uEq_tt, uEq_rt, uEq_tr, uEq_tn, uEq_nt, uNe_ii, uNe_ss, uNe_bb, uNe_nn, uNe_ni, uNe_in, uNe_ns, uNe_sn, uNe_is, uNe_si, uNe_rr, uNe_tt, uNe_rt, uNe_tr, uNe_tn, uNe_nt, uIn_t, uIn_r, uIx_t, uIx_r, uIx_c, uIx_s, uLen_c, uLen_r, uLen_t, uLen_s, uMin_i, uMin_r, uMax_i, uMax_r, uInt_b, uInt_i, uInt_s, uList_r, uList_t, uIsi_n, uIsi_b, uIsi_i, uIsi_s, uIsi_t, uIsi_c, uSl_c, uSl_r, uSl_s, iOf_r, iOf_c, isNon_n, isNon_i, isNon_s, isNon_b, isNon_t, isNon_r, flat_s, flat_i, flat_b, flat_n, weq_ss, weq_ii, weq_ni, weq_in, weq_nn, kb_bb, kb_bi, kb_bs, kb_bl, kb_bt, kb_ib, kb_ii, kb_is, kb_il, kb_it, kb_sb, kb_si, kb_ss, kb_sl, kb_st, kb_lb, kb_li, kb_ls, kb_ll, kb_lt, kb_tb, kb_ti, kb_ts, kb_tl, kb_tt, kb_nb, kb_ni, kb_ns, kb_nl, kb_nt, nth0, nth1, nth2, nth3, mVar, mC, mBin, mUn, mNil, mCons, mCB, mTest, mAnd, mOr, mNot, mIf, mAndV, mOrV, mNotV, mTup, mLst, mChain, mCall, mCallK, reord, mYes, sNext, sSeq, sDrop, sRet, sRetN, sIf, sNever, sBreak, sCont, sAsg, sPar, sAug, sStore, gSet, gsNil, gsCons, gTupW, gStarW, qI2, qI, qNeg, qAbs, qStrI, iLst, iRgn, iRg2, iEnu, iTpl, mDT, mBM, mBM0, mSl, oNone, oSome, sMatch, mGo, mDNew, mDisp_eq, mPairs, EndsD, EndsW.turn, Rho.put, Rho.wipe, Rho.del, rho0, sp1_iff, sp2_iff, sp3_iff, sp4_iff, win, List.filterMap_cons, List.filterMap_nil, List.cons_append, List.nil_append, List.length_cons, List.length_nil, List.all_cons, List.all_nil, List.any_cons, List.any_nil, List.getElem?_cons_zero, List.getElem?_cons_succ, List.getElem?_nil, List.set_cons_zero, List.set_cons_succ, reduceIte, reduceCtorEq, Nat.reduceEqDiff, Nat.reduceAdd, Nat.reduceSub, Nat.reduceMul, Nat.reduceLeDiff, Int.reduceToNat, Int.cast_ofNat_Int, Int.natCast_zero, Int.natCast_one, Int.reduceLE, Int.reduceLT, Int.reduceNeg, Int.reduceAdd, Int.reduceSub, Int.reducePow, Int.reduceEq, Int.reduceNe, Int.toNat_zero, Int.toNat_one, Int.ofNat_eq_natCast, Nat.reducePow, Nat.le_refl, ge_iff_le, gt_iff_lt, List.mem_cons, List.not_mem_nil, or_false, false_or, or_true, true_or, Option.some.injEq, exists_eq_left', exists_eq_left, exists_eq', exists_eq, exists_and_left, exists_and_right, and_assoc, true_and, and_true, false_and, and_false, exists_false, exists_const, not_true_eq_false, not_false_eq_true, W.int.injEq, W.bl.injEq, W.str.injEq, W.ref.injEq, W.tup.injEq, List.cons.injEq, Bool.true_eq_false, Bool.false_eq_true, decide_eq_true_eq, decide_eq_false_iff_not, Bool.not_eq_true', Bool.not_eq_false', Bool.not_true, Bool.not_false, forall_const, true_implies, false_implies, implies_true, imp_self, decide_true, decide_false, Bool.and_true, Bool.true_and, Bool.and_false, Bool.false_and, Bool.or_false, Bool.or_true, Bool.false_or, Bool.true_or, beq_self_eq_true, pw_2_61, pw_10_18, pw_10_30, pw_10_29, pw_10_28, pw_10_40, pw_10_6, pw_10_9, lg_128, eq_self_iff_true, ne_eq, Int.not_lt, Int.not_le, Nat.not_lt, Nat.not_le, BEq.rfl]) | (refine ⟨_, (by first | exact lsAt_i | assumption), ?_⟩) | (refine ⟨mty_l, ?_⟩) | (refine ⟨mty_s, ?_⟩) | (refine ⟨_, ty_l (by first | exact lsAt_i | assumption), ?_⟩)))
        exact ⟨by omega, by simp only [List.length_append, List.length_nil]; omega, by simp only [List.length_append, List.length_nil]; omega, fin _ _ inferInstance _ (key [] [72] rfl [] (fun _ => rfl) (fun h => absurd z h)) h0 rfl⟩
      · (repeat (first | (simp only [h0, h1, no_txt, sp_txt, txt_app, txt_len, eq_false z, Int.zero_add, qIsN_n, qNotN_n, uIsi_r, nm_home, nm_fin, home_nm, fin_nm, sne_down_up, sne_down_right, sne_down_left, sne_down_home, sne_down_end, sne_up_down, sne_up_right, sne_up_left, sne_up_home, sne_up_end, sne_right_down, sne_right_up, sne_right_left, sne_right_home, sne_right_end, sne_left_down, sne_left_up, sne_left_right, sne_left_home, sne_left_end, sne_home_down, sne_home_up, sne_home_right, sne_home_left, sne_home_end, sne_end_down, sne_end_up, sne_end_right, sne_end_left, sne_end_home, sFor_eq, mLc_eq, uAdd_i, uAdd_s, uAdd_l, uMul_i, uMul_l, uEq_ii, uEq_ss, uEq_bb, uEq_nn, uEq_ni, uEq_in, uEq_ns, uEq_sn, uEq_is, uEq_si, uEq_rr, uEq_tt, uEq_rt, uEq_tr, uEq_tn, uEq_nt, uNe_ii, uNe_ss, uNe_bb, uNe_nn, uNe_ni, uNe_in, uNe_ns, uNe_sn, uNe_is, uNe_si, uNe_rr, uNe_tt, uNe_rt, uNe_tr, uNe_tn, uNe_nt, uIn_t, uIn_r, uIx_t, uIx_r, uIx_c, uIx_s, uLen_c, uLen_r, uLen_t, uLen_s, uMin_i, uMin_r, uMax_i, uMax_r, uInt_b, uInt_i, uInt_s, uList_r, uList_t, uIsi_n, uIsi_b, uIsi_i, uIsi_s, uIsi_t, uIsi_c, uSl_c, uSl_r, uSl_s, iOf_r, iOf_c, isNon_n, isNon_i, isNon_s, isNon_b, isNon_t, isNon_r, flat_s, flat_i, flat_b, flat_n, weq_ss, weq_ii, weq_ni, weq_in, weq_nn, kb_bb, kb_bi, kb_bs, kb_bl, kb_bt, kb_ib, kb_ii, kb_is, kb_il, kb_it, kb_sb, kb_si, kb_ss, kb_sl, kb_st, kb_lb, kb_li, kb_ls, kb_ll, kb_lt, kb_tb, kb_ti, kb_ts, kb_tl, kb_tt, kb_nb, kb_ni, kb_ns, kb_nl, kb_nt, nth0, nth1, nth2, nth3, mVar, mC, mBin, mUn, mNil, mCons, mCB, mTest, mAnd, mOr, mNot, mIf, mAndV, mOrV, mNotV, mTup, mLst, mChain, mCall, mCallK, reord, mYes, sNext, sSeq, sDrop, sRet, sRetN, sIf, sNever, sBreak, sCont, sAsg, sPar, sAug, sStore, gSet, gsNil, gsCons, gTupW, gStarW, qI2, qI, qNeg, qAbs, qStrI, iLst, iRgn, iRg2, iEnu, iTpl, mDT, mBM, mBM0, mSl, oNone, oSome, sMatch, mGo, mDNew, mDisp_eq, mPairs, EndsD, EndsW.turn, Rho.put, Rho.wipe, Rho.del, rho0, sp1_iff, sp2_iff, sp3_iff, sp4_iff, win, List.filterMap_cons, List.filterMap_nil, List.cons_append, List.nil_append, List.length_cons, List.length_nil, List.all_cons, List.all_nil, List.any_cons, List.any_nil, List.getElem?_cons_zero, List.getElem?_cons_succ, List.getElem?_nil, List.set_cons_zero, List.set_cons_succ, reduceIte, reduceCtorEq, Nat.reduceEqDiff, Nat.reduceAdd, Nat.reduceSub, Nat.reduceMul, Nat.reduceLeDiff, Int.reduceToNat, Int.cast_ofNat_Int, Int.natCast_zero, Int.natCast_one, Int.reduceLE, Int.reduceLT, Int.reduceNeg, Int.reduceAdd, Int.reduceSub, Int.reducePow, Int.reduceEq, Int.reduceNe, Int.toNat_zero, Int.toNat_one, Int.ofNat_eq_natCast, Nat.reducePow, Nat.le_refl, ge_iff_le, gt_iff_lt, List.mem_cons, List.not_mem_nil, or_false, false_or, or_true, true_or, Option.some.injEq, exists_eq_left', exists_eq_left, exists_eq', exists_eq, exists_and_left, exists_and_right, and_assoc, true_and, and_true, false_and, and_false, exists_false, exists_const, not_true_eq_false, not_false_eq_true, W.int.injEq, W.bl.injEq, W.str.injEq, W.ref.injEq, W.tup.injEq, List.cons.injEq, Bool.true_eq_false, Bool.false_eq_true, decide_eq_true_eq, decide_eq_false_iff_not, Bool.not_eq_true', Bool.not_eq_false', Bool.not_true, Bool.not_false, forall_const, true_implies, false_implies, implies_true, imp_self, decide_true, decide_false, Bool.and_true, Bool.true_and, Bool.and_false, Bool.false_and, Bool.or_false, Bool.or_true, Bool.false_or, Bool.true_or, beq_self_eq_true, pw_2_61, pw_10_18, pw_10_30, pw_10_29, pw_10_28, pw_10_40, pw_10_6, pw_10_9, lg_128, eq_self_iff_true, ne_eq, Int.not_lt, Int.not_le, Nat.not_lt, Nat.not_le, BEq.rfl]) | (refine ⟨_, (by first | exact lsAt_i | assumption), ?_⟩) | (refine ⟨mty_l, ?_⟩) | (refine ⟨mty_s, ?_⟩) | (refine ⟨_, ty_l (by first | exact lsAt_i | assumption), ?_⟩)))
        exact ⟨by omega, by simp only [List.length_append, List.length_cons, List.length_nil]; omega, by simp only [List.length_append, List.length_cons, List.length_nil]; omega, fin _ _ inferInstance _ (key [] [72] rfl [32] (fun h => absurd h z) (fun _ => rfl)) h0 rfl⟩
    | fin =>
      (repeat (first | (simp only [h0, h1, Cmd.w, Int.zero_add, qIsN_n, qNotN_n, uIsi_r, nm_home, nm_fin, home_nm, fin_nm, sne_down_up, sne_down_right, sne_down_left, sne_down_home, sne_down_end, sne_up_down, sne_up_right, sne_up_left, sne_up_home, sne_up_end, sne_right_down, sne_right_up, sne_right_left, sne_right_home, sne_right_end, sne_left_down, sne_left_up, sne_left_right, sne_left_home, sne_left_end, sne_home_down, sne_home_up, sne_home_right, sne_home_left, sne_home_end, sne_end_down, sne_end_up, sne_end_right, sne_end_left, sne_end_home, sFor_eq, mLc_eq, uAdd_i, uAdd_s, uAdd_l, uMul_i, uMul_l, uEq_ii, uEq_ss, uEq_bb, uEq_nn, uEq_ni, uEq_in, uEq_ns, uEq_sn, uEq_is, uEq_si, uEq_rr, uEq_tt, uEq_rt, uEq_tr, uEq_tn, uEq_nt, uNe_ii, uNe_ss, uNe_bb, uNe_nn, uNe_ni, uNe_in, uNe_ns, uNe_sn, uNe_is, uNe_si, uNe_rr, uNe_tt, uNe_rt, uNe_tr, uNe_tn, uNe_nt, uIn_t, uIn_r, uIx_t, uIx_r, uIx_c, uIx_s, uLen_c, uLen_r, uLen_t, uLen_s, uMin_i, uMin_r, uMax_i, uMax_r, uInt_b, uInt_i, uInt_s, uList_r, uList_t, uIsi_n, uIsi_b, uIsi_i, uIsi_s, uIsi_t, uIsi_c, uSl_c, uSl_r, uSl_s, iOf_r, iOf_c, isNon_n, isNon_i, isNon_s, isNon_b, isNon_t, isNon_r, flat_s, flat_i, flat_b, flat_n, weq_ss, weq_ii, weq_ni, weq_in, weq_nn, kb_bb, kb_bi, kb_bs, kb_bl, kb_bt, kb_ib, kb_ii, kb_is, kb_il, kb_it, kb_sb, kb_si, kb_ss, kb_sl, kb_st, kb_lb, kb_li, kb_ls, kb_ll, kb_lt, kb_tb, kb_ti, kb_ts, kb_tl, kb_tt, kb_nb, kb_ni, kb_ns, kb_nl, kb_nt, nth0, nth1, nth2, nth3, mVar, mC, mBin, mUn, mNil, mCons, mCB, mTest, mAnd, mOr, mNot, mIf, mAndV, mOrV, mNotV, mTup, mLst, mChain, mCall, mCallK, reord, mYes, sNext, sSeq, sDrop, sRet, sRetN, sIf, sNever, sBreak, sCont, sAsg, sPar, sAug, sStore, gSet, gsNil, gsCons, gTupW, gStarW, qI2, qI, qNeg, qAbs, qStrI, iLst, iRgn, iRg2, iEnu, iTpl, mDT, mBM, mBM0, mSl, oNone, oSome, sMatch, mGo, mDNew, mDisp_eq, mPairs, EndsD, EndsW.turn, Rho.put, Rho.wipe, Rho.del, rho0, sp1_iff, sp2_iff, sp3_iff, sp4_iff, win, List.filterMap_cons, List.filterMap_nil, List.cons_append, List.nil_append, List.length_cons, List.length_nil, List.all_cons, List.all_nil, List.any_cons, List.any_nil, List.getElem?_cons_zero, List.getElem?_cons_succ, List.getElem?_nil, List.set_cons_zero, List.set_cons_succ, reduceIte, reduceCtorEq, Nat.reduceEqDiff, Nat.reduceAdd, Nat.reduceSub, Nat.reduceMul, Nat.reduceLeDiff, Int.reduceToNat, Int.cast_ofNat_Int, Int.natCast_zero, Int.natCast_one, Int.reduceLE, Int.reduceLT, Int.reduceNeg, Int.reduceAdd, Int.reduceSub, Int.reducePow, Int.reduceEq, Int.reduceNe, Int.toNat_zero, Int.toNat_one, Int.ofNat_eq_natCast, Nat.reducePow, Nat.le_refl, ge_iff_le, gt_iff_lt, List.mem_cons, List.not_mem_nil, or_false, false_or, or_true, true_or, Option.some.injEq, exists_eq_left', exists_eq_left, exists_eq', exists_eq, exists_and_left, exists_and_right, and_assoc, true_and, and_true, false_and, and_false, exists_false, exists_const, not_true_eq_false, not_false_eq_true, W.int.injEq, W.bl.injEq, W.str.injEq, W.ref.injEq, W.tup.injEq, List.cons.injEq, Bool.true_eq_false, Bool.false_eq_true, decide_eq_true_eq, decide_eq_false_iff_not, Bool.not_eq_true', Bool.not_eq_false', Bool.not_true, Bool.not_false, forall_const, true_implies, false_implies, implies_true, imp_self, decide_true, decide_false, Bool.and_true, Bool.true_and, Bool.and_false, Bool.false_and, Bool.or_false, Bool.or_true, Bool.false_or, Bool.true_or, beq_self_eq_true, pw_2_61, pw_10_18, pw_10_30, pw_10_29, pw_10_28, pw_10_40, pw_10_6, pw_10_9, lg_128, eq_self_iff_true, ne_eq, Int.not_lt, Int.not_le, Nat.not_lt, Nat.not_le, BEq.rfl]) | (refine ⟨_, (by first | exact lsAt_i | assumption), ?_⟩) | (refine ⟨mty_l, ?_⟩) | (refine ⟨mty_s, ?_⟩) | (refine ⟨_, ty_l (by first | exact lsAt_i | assumption), ?_⟩)))
      intro p
      (repeat (first | (simp only [h0, h1, Int.zero_add, qIsN_n, qNotN_n, uIsi_r, nm_home, nm_fin, home_nm, fin_nm, sne_down_up, sne_down_right, sne_down_left, sne_down_home, sne_down_end, sne_up_down, sne_up_right, sne_up_left, sne_up_home, sne_up_end, sne_right_down, sne_right_up, sne_right_left, sne_right_home, sne_right_end, sne_left_down, sne_left_up, sne_left_right, sne_left_home, sne_left_end, sne_home_down, sne_home_up, sne_home_right, sne_home_left, sne_home_end, sne_end_down, sne_end_up, sne_end_right, sne_end_left, sne_end_home, sFor_eq, mLc_eq, uAdd_i, uAdd_s, uAdd_l, uMul_i, uMul_l, uEq_ii, uEq_ss, uEq_bb, uEq_nn, uEq_ni, uEq_in, uEq_ns, uEq_sn, uEq_is, uEq_si, uEq_rr, uEq_tt, uEq_rt, uEq_tr, uEq_tn, uEq_nt, uNe_ii, uNe_ss, uNe_bb, uNe_nn, uNe_ni, uNe_in, uNe_ns, uNe_sn, uNe_is, uNe_si, uNe_rr, uNe_tt, uNe_rt, uNe_tr, uNe_tn, uNe_nt, uIn_t, uIn_r, uIx_t, uIx_r, uIx_c, uIx_s, uLen_c, uLen_r, uLen_t, uLen_s, uMin_i, uMin_r, uMax_i, uMax_r, uInt_b, uInt_i, uInt_s, uList_r, uList_t, uIsi_n, uIsi_b, uIsi_i, uIsi_s, uIsi_t, uIsi_c, uSl_c, uSl_r, uSl_s, iOf_r, iOf_c, isNon_n, isNon_i, isNon_s, isNon_b, isNon_t, isNon_r, flat_s, flat_i, flat_b, flat_n, weq_ss, weq_ii, weq_ni, weq_in, weq_nn, kb_bb, kb_bi, kb_bs, kb_bl, kb_bt, kb_ib, kb_ii, kb_is, kb_il, kb_it, kb_sb, kb_si, kb_ss, kb_sl, kb_st, kb_lb, kb_li, kb_ls, kb_ll, kb_lt, kb_tb, kb_ti, kb_ts, kb_tl, kb_tt, kb_nb, kb_ni, kb_ns, kb_nl, kb_nt, nth0, nth1, nth2, nth3, mVar, mC, mBin, mUn, mNil, mCons, mCB, mTest, mAnd, mOr, mNot, mIf, mAndV, mOrV, mNotV, mTup, mLst, mChain, mCall, mCallK, reord, mYes, sNext, sSeq, sDrop, sRet, sRetN, sIf, sNever, sBreak, sCont, sAsg, sPar, sAug, sStore, gSet, gsNil, gsCons, gTupW, gStarW, qI2, qI, qNeg, qAbs, qStrI, iLst, iRgn, iRg2, iEnu, iTpl, mDT, mBM, mBM0, mSl, oNone, oSome, sMatch, mGo, mDNew, mDisp_eq, mPairs, EndsD, EndsW.turn, Rho.put, Rho.wipe, Rho.del, rho0, sp1_iff, sp2_iff, sp3_iff, sp4_iff, win, List.filterMap_cons, List.filterMap_nil, List.cons_append, List.nil_append, List.length_cons, List.length_nil, List.all_cons, List.all_nil, List.any_cons, List.any_nil, List.getElem?_cons_zero, List.getElem?_cons_succ, List.getElem?_nil, List.set_cons_zero, List.set_cons_succ, reduceIte, reduceCtorEq, Nat.reduceEqDiff, Nat.reduceAdd, Nat.reduceSub, Nat.reduceMul, Nat.reduceLeDiff, Int.reduceToNat, Int.cast_ofNat_Int, Int.natCast_zero, Int.natCast_one, Int.reduceLE, Int.reduceLT, Int.reduceNeg, Int.reduceAdd, Int.reduceSub, Int.reducePow, Int.reduceEq, Int.reduceNe, Int.toNat_zero, Int.toNat_one, Int.ofNat_eq_natCast, Nat.reducePow, Nat.le_refl, ge_iff_le, gt_iff_lt, List.mem_cons, List.not_mem_nil, or_false, false_or, or_true, true_or, Option.some.injEq, exists_eq_left', exists_eq_left, exists_eq', exists_eq, exists_and_left, exists_and_right, and_assoc, true_and, and_true, false_and, and_false, exists_false, exists_const, not_true_eq_false, not_false_eq_true, W.int.injEq, W.bl.injEq, W.str.injEq, W.ref.injEq, W.tup.injEq, List.cons.injEq, Bool.true_eq_false, Bool.false_eq_true, decide_eq_true_eq, decide_eq_false_iff_not, Bool.not_eq_true', Bool.not_eq_false', Bool.not_true, Bool.not_false, forall_const, true_implies, false_implies, implies_true, imp_self, decide_true, decide_false, Bool.and_true, Bool.true_and, Bool.and_false, Bool.false_and, Bool.or_false, Bool.or_true, Bool.false_or, Bool.true_or, beq_self_eq_true, pw_2_61, pw_10_18, pw_10_30, pw_10_29, pw_10_28, pw_10_40, pw_10_6, pw_10_9, lg_128, eq_self_iff_true, ne_eq, Int.not_lt, Int.not_le, Nat.not_lt, Nat.not_le, BEq.rfl]) | (refine ⟨_, (by first | exact lsAt_i | assumption), ?_⟩) | (refine ⟨mty_l, ?_⟩) | (refine ⟨mty_s, ?_⟩) | (refine ⟨_, ty_l (by first | exact lsAt_i | assumption), ?_⟩)))
      refine disp_i [(.inr "down", .str "D"), (.inr "up", .str "U"), (.inr "right", .str "R"), (.inr "left", .str "L"), (.inr "home", .str "H"), (.inr "end", .str "E")] rfl (by decide) ?_
      (repeat (first | (simp only [h0, h1, Int.zero_add, qIsN_n, qNotN_n, uIsi_r, nm_home, nm_fin, home_nm, fin_nm, sne_down_up, sne_down_right, sne_down_left, sne_down_home, sne_down_end, sne_up_down, sne_up_right, sne_up_left, sne_up_home, sne_up_end, sne_right_down, sne_right_up, sne_right_left, sne_right_home, sne_right_end, sne_left_down, sne_left_up, sne_left_right, sne_left_home, sne_left_end, sne_home_down, sne_home_up, sne_home_right, sne_home_left, sne_home_end, sne_end_down, sne_end_up, sne_end_right, sne_end_left, sne_end_home, sFor_eq, mLc_eq, uAdd_i, uAdd_s, uAdd_l, uMul_i, uMul_l, uEq_ii, uEq_ss, uEq_bb, uEq_nn, uEq_ni, uEq_in, uEq_ns, uEq_sn, uEq_is, uEq_si, uEq_rr, uEq_tt, uEq_rt, uEq_tr, uEq_tn, uEq_nt, uNe_ii, uNe_ss, uNe_bb, uNe_nn, uNe_ni, uNe_in, uNe_ns, uNe_sn, uNe_is, uNe_si, uNe_rr, uNe_tt, uNe_rt, uNe_tr, uNe_tn, uNe_nt, uIn_t, uIn_r, uIx_t, uIx_r, uIx_c, uIx_s, uLen_c, uLen_r, uLen_t, uLen_s, uMin_i, uMin_r, uMax_i, uMax_r, uInt_b, uInt_i, uInt_s, uList_r, uList_t, uIsi_n, uIsi_b, uIsi_i, uIsi_s, uIsi_t, uIsi_c, uSl_c, uSl_r, uSl_s, iOf_r, iOf_c, isNon_n, isNon_i, isNon_s, isNon_b, isNon_t, isNon_r, flat_s, flat_i, flat_b, flat_n, weq_ss, weq_ii, weq_ni, weq_in, weq_nn, kb_bb, kb_bi, kb_bs, kb_bl, kb_bt, kb_ib, kb_ii, kb_is, kb_il, kb_it, kb_sb, kb_si, kb_ss, kb_sl, kb_st, kb_lb, kb_li, kb_ls, kb_ll, kb_lt, kb_tb, kb_ti, kb_ts, kb_tl, kb_tt, kb_nb, kb_ni, kb_ns, kb_nl, kb_nt, nth0, nth1, nth2, nth3, mVar, mC, mBin, mUn, mNil, mCons, mCB, mTest, mAnd, mOr, mNot, mIf, mAndV, mOrV, mNotV, mTup, mLst, mChain, mCall, mCallK, reord, mYes, sNext, sSeq, sDrop, sRet, sRetN, sIf, sNever, sBreak, sCont, sAsg, sPar, sAug, sStore, gSet, gsNil, gsCons, gTupW, gStarW, qI2, qI, qNeg, qAbs, qStrI, iLst, iRgn, iRg2, iEnu, iTpl, mDT, mBM, mBM0, mSl, oNone, oSome, sMatch, mGo, mDNew, mDisp_eq, mPairs, EndsD, EndsW.turn, Rho.put, Rho.wipe, Rho.del, rho0, sp1_iff, sp2_iff, sp3_iff, sp4_iff, win, List.filterMap_cons, List.filterMap_nil, List.cons_append, List.nil_append, List.length_cons, List.length_nil, List.all_cons, List.all_nil, List.any_cons, List.any_nil, List.getElem?_cons_zero, List.getElem?_cons_succ, List.getElem?_nil, List.set_cons_zero, List.set_cons_succ, reduceIte, reduceCtorEq, Nat.reduceEqDiff, Nat.reduceAdd, Nat.reduceSub, Nat.reduceMul, Nat.reduceLeDiff, Int.reduceToNat, Int.cast_ofNat_Int, Int.natCast_zero, Int.natCast_one, Int.reduceLE, Int.reduceLT, Int.reduceNeg, Int.reduceAdd, Int.reduceSub, Int.reducePow, Int.reduceEq, Int.reduceNe, Int.toNat_zero, Int.toNat_one, Int.ofNat_eq_natCast, Nat.reducePow, Nat.le_refl, ge_iff_le, gt_iff_lt, List.mem_cons, List.not_mem_nil, or_false, false_or, or_true, true_or, Option.some.injEq, exists_eq_left', exists_eq_left, exists_eq', exists_eq, exists_and_left, exists_and_right, and_assoc, true_and, and_true, false_and, and_false, exists_false, exists_const, not_true_eq_false, not_false_eq_true, W.int.injEq, W.bl.injEq, W.str.injEq, W.ref.injEq, W.tup.injEq, List.cons.injEq, Bool.true_eq_false, Bool.false_eq_true, decide_eq_true_eq, decide_eq_false_iff_not, Bool.not_eq_true', Bool.not_eq_false', Bool.not_true, Bool.not_false, forall_const, true_implies, false_implies, implies_true, imp_self, decide_true, decide_false, Bool.and_true, Bool.true_and, Bool.and_false, Bool.false_and, Bool.or_false, Bool.or_true, Bool.false_or, Bool.true_or, beq_self_eq_true, pw_2_61, pw_10_18, pw_10_30, pw_10_29, pw_10_28, pw_10_40, pw_10_6, pw_10_9, lg_128, eq_self_iff_true, ne_eq, Int.not_lt, Int.not_le, Nat.not_lt, Nat.not_le, BEq.rfl]) | (refine ⟨_, (by first | exact lsAt_i | assumption), ?_⟩) | (refine ⟨mty_l, ?_⟩) | (refine ⟨mty_s, ?_⟩) | (refine ⟨_, ty_l (by first | exact lsAt_i | assumption), ?_⟩)))
      refine dget_i (k := .inr "end") rfl (w := .str (txt [69])) rfl ?_
      (repeat (first | (simp only [h0, h1, Int.zero_add, qIsN_n, qNotN_n, uIsi_r, nm_home, nm_fin, home_nm, fin_nm, sne_down_up, sne_down_right, sne_down_left, sne_down_home, sne_down_end, sne_up_down, sne_up_right, sne_up_left, sne_up_home, sne_up_end, sne_right_down, sne_right_up, sne_right_left, sne_right_home, sne_right_end, sne_left_down, sne_left_up, sne_left_right, sne_left_home, sne_left_end, sne_home_down, sne_home_up, sne_home_right, sne_home_left, sne_home_end, sne_end_down, sne_end_up, sne_end_right, sne_end_left, sne_end_home, sFor_eq, mLc_eq, uAdd_i, uAdd_s, uAdd_l, uMul_i, uMul_l, uEq_ii, uEq_ss, uEq_bb, uEq_nn, uEq_ni, uEq_in, uEq_ns, uEq_sn, uEq_is, uEq_si, uEq_rr, uEq_tt, uEq_rt, uEq_tr, uEq_tn, uEq_nt, uNe_ii, uNe_ss, uNe_bb, uNe_nn, uNe_ni, uNe_in, uNe_ns, uNe_sn, uNe_is, uNe_si, uNe_rr, uNe_tt, uNe_rt, uNe_tr, uNe_tn, uNe_nt, uIn_t, uIn_r, uIx_t, uIx_r, uIx_c, uIx_s, uLen_c, uLen_r, uLen_t, uLen_s, uMin_i, uMin_r, uMax_i, uMax_r, uInt_b, uInt_i, uInt_s, uList_r, uList_t, uIsi_n, uIsi_b, uIsi_i, uIsi_s, uIsi_t, uIsi_c, uSl_c, uSl_r, uSl_s, iOf_r, iOf_c, isNon_n, isNon_i, isNon_s, isNon_b, isNon_t, isNon_r, flat_s, flat_i, flat_b, flat_n, weq_ss, weq_ii, weq_ni, weq_in, weq_nn, kb_bb, kb_bi, kb_bs, kb_bl, kb_bt, kb_ib, kb_ii, kb_is, kb_il, kb_it, kb_sb, kb_si, kb_ss, kb_sl, kb_st, kb_lb, kb_li, kb_ls, kb_ll, kb_lt, kb_tb, kb_ti, kb_ts, kb_tl, kb_tt, kb_nb, kb_ni, kb_ns, kb_nl, kb_nt, nth0, nth1, nth2, nth3, mVar, mC, mBin, mUn, mNil, mCons, mCB, mTest, mAnd, mOr, mNot, mIf, mAndV, mOrV, mNotV, mTup, mLst, mChain, mCall, mCallK, reord, mYes, sNext, sSeq, sDrop, sRet, sRetN, sIf, sNever, sBreak, sCont, sAsg, sPar, sAug, sStore, gSet, gsNil, gsCons, gTupW, gStarW, qI2, qI, qNeg, qAbs, qStrI, iLst, iRgn, iRg2, iEnu, iTpl, mDT, mBM, mBM0, mSl, oNone, oSome, sMatch, mGo, mDNew, mDisp_eq, mPairs, EndsD, EndsW.turn, Rho.put, Rho.wipe, Rho.del, rho0, sp1_iff, sp2_iff, sp3_iff, sp4_iff, win, List.filterMap_cons, List.filterMap_nil, List.cons_append, List.nil_append, List.length_cons, List.length_nil, List.all_cons, List.all_nil, List.any_cons, List.any_nil, List.getElem?_cons_zero, List.getElem?_cons_succ, List.getElem?_nil, List.set_cons_zero, List.set_cons_succ, reduceIte, reduceCtorEq, Nat.reduceEqDiff, Nat.reduceAdd, Nat.reduceSub, Nat.reduceMul, Nat.reduceLeDiff, Int.reduceToNat, Int.cast_ofNat_Int, Int.natCast_zero, Int.natCast_one, Int.reduceLE, Int.reduceLT, Int.reduceNeg, Int.reduceAdd, Int.reduceSub, Int.reducePow, Int.reduceEq, Int.reduceNe, Int.toNat_zero, Int.toNat_one, Int.ofNat_eq_natCast, Nat.reducePow, Nat.le_refl, ge_iff_le, gt_iff_lt, List.mem_cons, List.not_mem_nil, or_false, false_or, or_true, true_or, Option.some.injEq, exists_eq_left', exists_eq_left, exists_eq', exists_eq, exists_and_left, exists_and_right, and_assoc, true_and, and_true, false_and, and_false, exists_false, exists_const, not_true_eq_false, not_false_eq_true, W.int.injEq, W.bl.injEq, W.str.injEq, W.ref.injEq, W.tup.injEq, List.cons.injEq, Bool.true_eq_false, Bool.false_eq_true, decide_eq_true_eq, decide_eq_false_iff_not, Bool.not_eq_true', Bool.not_eq_false', Bool.not_true, Bool.not_false, forall_const, true_implies, false_implies, implies_true, imp_self, decide_true, decide_false, Bool.and_true, Bool.true_and, Bool.and_false, Bool.false_and, Bool.or_false, Bool.or_true, Bool.false_or, Bool.true_or, beq_self_eq_true, pw_2_61, pw_10_18, pw_10_30, pw_10_29, pw_10_28, pw_10_40, pw_10_6, pw_10_9, lg_128, eq_self_iff_true, ne_eq, Int.not_lt, Int.not_le, Nat.not_lt, Nat.not_le, BEq.rfl]) | (refine ⟨_, (by first | exact lsAt_i | assumption), ?_⟩) | (refine ⟨mty_l, ?_⟩) | (refine ⟨mty_s, ?_⟩) | (refine ⟨_, ty_l (by first | exact lsAt_i | assumption), ?_⟩)))
      intro p1
      by_cases z : txt (jn [32] ((cs.take i).map Cmd.tx)) = txt []
      · (repeat (first | (simp only [h0, h1, no_txt, sp_txt, txt_app, txt_len, eq_true z, Int.zero_add, qIsN_n, qNotN_n, uIsi_r, nm_home, nm_fin, home_nm, fin_nm, sne_down_up, sne_down_right, sne_down_left, sne_down_home, sne_down_end, sne_up_down, sne_up_right, sne_up_left, sne_up_home, sne_up_end, sne_right_down, sne_right_up, sne_right_left, sne_right_home, sne_right_end, sne_left_down, sne_left_up, sne_left_right, sne_left_home, sne_left_end, sne_home_down, sne_home_up, sne_home_right, sne_home_left, sne_home_end, sne_end_down, sne_end_up, sne_end_right, sne_end_left, sne_end_home, sFor_eq, mLc_eq, uAdd_i, uAdd_s, uAdd_l, uMul_i, uMul_l, uEq_ii, uEq_ss, uEq_bb, uEq_nn, uEq_ni, uEq_in, uEq_ns, uEq_sn, uEq_is, uEq_si, uEq_rr, uEq_tt, uEq_rt, uEq_tr, uEq_tn, uEq_nt, uNe_ii, uNe_ss, uNe_bb, uNe_nn, uNe_ni, uNe_in, uNe_ns, uNe_sn, uNe_is, uNe_si, uNe_rr, uNe_tt, uNe_rt, uNe_tr, uNe_tn, uNe_nt, uIn_t, uIn_r, uIx_t, uIx_r, uIx_c, uIx_s, uLen_c, uLen_r, uLen_t, uLen_s, uMin_i, uMin_r, uMax_i, uMax_r, uInt_b, uInt_i, uInt_s, uList_r, uList_t, uIsi_n, uIsi_b, uIsi_i, uIsi_s, uIsi_t, uIsi_c, uSl_c, uSl_r, uSl_s, iOf_r, iOf_c, isNon_n, isNon_i, isNon_s, isNon_b, isNon_t, isNon_r, flat_s, flat_i, flat_b, flat_n, weq_ss, weq_ii, weq_ni, weq_in, weq_nn, kb_bb, kb_bi, kb_bs, kb_bl, kb_bt, kb_ib, kb_ii, kb_is, kb_il, kb_it, kb_sb, kb_si, kb_ss, kb_sl, kb_st, kb_lb, kb_li, kb_ls, kb_ll, kb_lt, kb_tb, kb_ti, kb_ts, kb_tl, kb_tt, kb_nb, kb_ni, kb_ns, kb_nl, kb_nt, nth0, nth1, nth2, nth3, mVar, mC, mBin, mUn, mNil, mCons, mCB, mTest, mAnd, mOr, mNot, mIf, mAndV, mOrV, mNotV, mTup, mLst, mChain, mCall, mCallK, reord, mYes, sNext, sSeq, sDrop, sRet, sRetN, sIf, sNever, sBreak, sCont, sAsg, sPar, sAug, sStore, gSet, gsNil, gsCons, gTupW, gStarW, qI2, qI, qNeg, qAbs, qStrI, iLst, iRgn, iRg2, iEnu, iTpl, mDT, mBM, mBM0, mSl, oNone, oSome, sMatch, mGo, mDNew, mDisp_eq, mPairs, EndsD, EndsW.turn, Rho.put, Rho.wipe, Rho.del, rho0, sp1_iff, sp2_iff, sp3_iff, sp4_iff, win, List.filterMap_cons, List.filterMap_nil, List.cons_append, List.nil_append, List.length_cons, List.length_nil, List.all_cons, List.all_nil, List.any_cons, List.any_nil, List.getElem?_cons_zero, List.getElem?_cons_succ, List.getElem?_nil, List.set_cons_zero, List.set_cons_succ, reduceIte, reduceCtorEq, Nat.reduceEqDiff, Nat.reduceAdd, Nat.reduceSub, Nat.reduceMul, Nat.reduceLeDiff, Int.reduceToNat, Int.cast_ofNat_Int, Int.natCast_zero, Int.natCast_one, Int.reduceLE, Int.reduceLT, Int.reduceNeg, Int.reduceAdd, Int.reduceSub, Int.reducePow, Int.reduceEq, Int.reduceNe, Int.toNat_zero, Int.toNat_one, Int.ofNat_eq_natCast, Nat.reducePow, Nat.le_refl, ge_iff_le, gt_iff_lt, List.mem_cons, List.not_mem_nil, or_false, false_or, or_true, true_or, Option.some.injEq, exists_eq_left', exists_eq_left, exists_eq', exists_eq, exists_and_left, exists_and_right, and_assoc, true_and, and_true, false_and, and_false, exists_false, exists_const, not_true_eq_false, not_false_eq_true, W.int.injEq, W.bl.injEq, W.str.injEq, W.ref.injEq, W.tup.injEq, List.cons.injEq, Bool.true_eq_false, Bool.false_eq_true, decide_eq_true_eq, decide_eq_false_iff_not, Bool.not_eq_true', Bool.not_eq_false', Bool.not_true, Bool.not_false, forall_const, true_implies, false_implies, implies_true, imp_self, decide_true, decide_false, Bool.and_true, Bool.true_and, Bool.and_false, Bool.false_and, Bool.or_false, Bool.or_true, Bool.false_or, Bool.true_or, beq_self_eq_true, pw_2_61, pw_10_18, pw_10_30, pw_10_29, pw_10_28, pw_10_40, pw_10_6, pw_10_9, lg_128, eq_self_iff_true, ne_eq, Int.not_lt, Int.not_le, Nat.not_lt, Nat.not_le, BEq.rfl]) | (refine ⟨_, (by first | exact lsAt_i | assumption), ?_⟩) | (refine ⟨mty_l, ?_⟩) | (refine ⟨mty_s, ?_⟩) | (refine ⟨_, ty_l (by first | exact lsAt_i | assumption), ?_⟩)))
        exact ⟨by omega, by simp only [List.length_append, List.length_nil]; omega, by simp only [List.length_append, List.length_nil]; omega, fin _ _ inferInstance _ (key [] [69] rfl [] (fun _ => rfl) (fun h => absurd z h)) h0 rfl⟩
      · (repeat (first | (simp only [h0, h1, no_txt, sp_txt, txt_app, txt_len, eq_false z, Int.zero_add, qIsN_n, qNotN_n, uIsi_r, nm_home, nm_fin, home_nm, fin_nm, sne_down_up, sne_down_right, sne_down_left, sne_down_home, sne_down_end, sne_up_down, sne_up_right, sne_up_left, sne_up_home, sne_up_end, sne_right_down, sne_right_up, sne_right_left, sne_right_home, sne_right_end, sne_left_down, sne_left_up, sne_left_right, sne_left_home, sne_left_end, sne_home_down, sne_home_up, sne_home_right, sne_home_left, sne_home_end, sne_end_down, sne_end_up, sne_end_right, sne_end_left, sne_end_home, sFor_eq, mLc_eq, uAdd_i, uAdd_s, uAdd_l, uMul_i, uMul_l, uEq_ii, uEq_ss, uEq_bb, uEq_nn, uEq_ni, uEq_in, uEq_ns, uEq_sn, uEq_is, uEq_si, uEq_rr, uEq_tt, uEq_rt, uEq_tr, uEq_tn, uEq_nt, uNe_ii, uNe_ss, uNe_bb, uNe_nn, uNe_ni, uNe_in, uNe_ns, uNe_sn, uNe_is, uNe_si, uNe_rr, uNe_tt, uNe_rt, uNe_tr, uNe_tn, uNe_nt, uIn_t, uIn_r, uIx_t, uIx_r, uIx_c, uIx_s, uLen_c, uLen_r, uLen_t, uLen_s, uMin_i, uMin_r, uMax_i, uMax_r, uInt_b, uInt_i, uInt_s, uList_r, uList_t, uIsi_n, uIsi_b, uIsi_i, uIsi_s, uIsi_t, uIsi_c, uSl_c, uSl_r, uSl_s, iOf_r, iOf_c, isNon_n, isNon_i, isNon_s, isNon_b, isNon_t, isNon_r, flat_s, flat_i, flat_b, flat_n, weq_ss, weq_ii, weq_ni, weq_in, weq_nn, kb_bb, kb_bi, kb_bs, kb_bl, kb_bt, kb_ib, kb_ii, kb_is, kb_il, kb_it, kb_sb, kb_si, kb_ss, kb_sl, kb_st, kb_lb, kb_li, kb_ls, kb_ll, kb_lt, kb_tb, kb_ti, kb_ts, kb_tl, kb_tt, kb_nb, kb_ni, kb_ns, kb_nl, kb_nt, nth0, nth1, nth2, nth3, mVar, mC, mBin, mUn, mNil, mCons, mCB, mTest, mAnd, mOr, mNot, mIf, mAndV, mOrV, mNotV, mTup, mLst, mChain, mCall, mCallK, reord, mYes, sNext, sSeq, sDrop, sRet, sRetN, sIf, sNever, sBreak, sCont, sAsg, sPar, sAug, sStore, gSet, gsNil, gsCons, gTupW, gStarW, qI2, qI, qNeg, qAbs, qStrI, iLst, iRgn, iRg2, iEnu, iTpl, mDT, mBM, mBM0, mSl, oNone, oSome, sMatch, mGo, mDNew, mDisp_eq, mPairs, EndsD, EndsW.turn, Rho.put, Rho.wipe, Rho.del, rho0, sp1_iff, sp2_iff, sp3_iff, sp4_iff, win, List.filterMap_cons, List.filterMap_nil, List.cons_append, List.nil_append, List.length_cons, List.length_nil, List.all_cons, List.all_nil, List.any_cons, List.any_nil, List.getElem?_cons_zero, List.getElem?_cons_succ, List.getElem?_nil, List.set_cons_zero, List.set_cons_succ, reduceIte, reduceCtorEq, Nat.reduceEqDiff, Nat.reduceAdd, Nat.reduceSub, Nat.reduceMul, Nat.reduceLeDiff, Int.reduceToNat, Int.cast_ofNat_Int, Int.natCast_zero, Int.natCast_one, Int.reduceLE, Int.reduceLT, Int.reduceNeg, Int.reduceAdd, Int.reduceSub, Int.reducePow, Int.reduceEq, Int.reduceNe, Int.toNat_zero, Int.toNat_one, Int.ofNat_eq_natCast, Nat.reducePow, Nat.le_refl, ge_iff_le, gt_iff_lt, List.mem_cons, List.not_mem_nil, or_false, false_or, or_true, true_or, Option.some.injEq, exists_eq_left', exists_eq_left, exists_eq', exists_eq, exists_and_left, exists_and_right, and_assoc, true_and, and_true, false_and, and_false, exists_false, exists_const, not_true_eq_false, not_false_eq_true, W.int.injEq, W.bl.injEq, W.str.injEq, W.ref.injEq, W.tup.injEq, List.cons.injEq, Bool.true_eq_false, Bool.false_eq_true, decide_eq_true_eq, decide_eq_false_iff_not, Bool.not_eq_true', Bool.not_eq_false', Bool.not_true, Bool.not_false, forall_const, true_implies, false_implies, implies_true, imp_self, decide_true, decide_false, Bool.and_true, Bool.true_and, Bool.and_false, Bool.false_and, Bool.or_false, Bool.or_true, Bool.false_or, Bool.true_or, beq_self_eq_true, pw_2_61, pw_10_18, pw_10_30, pw_10_29, pw_10_28, pw_10_40, pw_10_6, pw_10_9, lg_128, eq_self_iff_true, ne_eq, Int.not_lt, Int.not_le, Nat.not_lt, Nat.not_le, BEq.rfl]) | (refine ⟨_, (by first | exact lsAt_i | assumption), ?_⟩) | (refine ⟨mty_l, ?_⟩) | (refine ⟨mty_s, ?_⟩) | (refine ⟨_, ty_l (by first | exact lsAt_i | assumption), ?_⟩)))
        exact ⟨by omega, by simp only [List.length_append, List.length_cons, List.length_nil]; omega, by simp only [List.length_append, List.length_cons, List.length_nil]; omega, fin _ _ inferInstance _ (key [] [69] rfl [32] (fun h => absurd h z) (fun _ => rfl)) h0 rfl⟩
  · rintro ρ C ⟨h0, h1, rfl⟩
    dsimp only at h1
    rw [List.length_map, List.take_length] at h1
    (repeat (first | (simp only [h0, h1, Int.zero_add, qIsN_n, qNotN_n, uIsi_r, nm_home, nm_fin, home_nm, fin_nm, sne_down_up, sne_down_right, sne_down_left, sne_down_home, sne_down_end, sne_up_down, sne_up_right, sne_up_left, sne_up_home, sne_up_end, sne_right_down, sne_right_up, sne_right_left, sne_right_home, sne_right_end, sne_left_down, sne_left_up, sne_left_right, sne_left_home, sne_left_end, sne_home_down, sne_home_up, sne_home_right, sne_home_left, sne_home_end, sne_end_down, sne_end_up, sne_end_right, sne_end_left, sne_end_home, sFor_eq, mLc_eq, uAdd_i, uAdd_s, uAdd_l, uMul_i, uMul_l, uEq_ii, uEq_ss, uEq_bb, uEq_nn, uEq_ni, uEq_in, uEq_ns, uEq_sn, uEq_is, uEq_si, uEq_rr, uEq_tt, uEq_rt, uEq_tr, uEq_tn, uEq_nt, uNe_ii, uNe_ss, uNe_bb, uNe_nn, uNe_ni, uNe_in, uNe_ns, uNe_sn, uNe_is, uNe_si, uNe_rr, uNe_tt, uNe_rt, uNe_tr, uNe_tn, uNe_nt, uIn_t, uIn_r, uIx_t, uIx_r, uIx_c, uIx_s, uLen_c, uLen_r, uLen_t, uLen_s, uMin_i, uMin_r, uMax_i, uMax_r, uInt_b, uInt_i, uInt_s, uList_r, uList_t, uIsi_n, uIsi_b, uIsi_i, uIsi_s, uIsi_t, uIsi_c, uSl_c, uSl_r, uSl_s, iOf_r, iOf_c, isNon_n, isNon_i, isNon_s, isNon_b, isNon_t, isNon_r, flat_s, flat_i, flat_b, flat_n, weq_ss, weq_ii, weq_ni, weq_in, weq_nn, kb_bb, kb_bi, kb_bs, kb_bl, kb_bt, kb_ib, kb_ii, kb_is, kb_il, kb_it, kb_sb, kb_si, kb_ss, kb_sl, kb_st, kb_lb, kb_li, kb_ls, kb_ll, kb_lt, kb_tb, kb_ti, kb_ts, kb_tl, kb_tt, kb_nb, kb_ni, kb_ns, kb_nl, kb_nt, nth0, nth1, nth2, nth3, mVar, mC, mBin, mUn, mNil, mCons, mCB, mTest, mAnd, mOr, mNot, mIf, mAndV, mOrV, mNotV, mTup, mLst, mChain, mCall, mCallK, reord, mYes, sNext, sSeq, sDrop, sRet, sRetN, sIf, sNever, sBreak, sCont, sAsg, sPar, sAug, sStore, gSet, gsNil, gsCons, gTupW, gStarW, qI2, qI, qNeg, qAbs, qStrI, iLst, iRgn, iRg2, iEnu, iTpl, mDT, mBM, mBM0, mSl, oNone, oSome, sMatch, mGo, mDNew, mDisp_eq, mPairs, EndsD, EndsW.turn, Rho.put, Rho.wipe, Rho.del, rho0, sp1_iff, sp2_iff, sp3_iff, sp4_iff, win, List.filterMap_cons, List.filterMap_nil, List.cons_append, List.nil_append, List.length_cons, List.length_nil, List.all_cons, List.all_nil, List.any_cons, List.any_nil, List.getElem?_cons_zero, List.getElem?_cons_succ, List.getElem?_nil, List.set_cons_zero, List.set_cons_succ, reduceIte, reduceCtorEq, Nat.reduceEqDiff, Nat.reduceAdd, Nat.reduceSub, Nat.reduceMul, Nat.reduceLeDiff, Int.reduceToNat, Int.cast_ofNat_Int, Int.natCast_zero, Int.natCast_one, Int.reduceLE, Int.reduceLT, Int.reduceNeg, Int.reduceAdd, Int.reduceSub, Int.reducePow, Int.reduceEq, Int.reduceNe, Int.toNat_zero, Int.toNat_one, Int.ofNat_eq_natCast, Nat.reducePow, Nat.le_refl, ge_iff_le, gt_iff_lt, List.mem_cons, List.not_mem_nil, or_false, false_or, or_true, true_or, Option.some.injEq, exists_eq_left', exists_eq_left, exists_eq', exists_eq, exists_and_left, exists_and_right, and_assoc, true_and, and_true, false_and, and_false, exists_false, exists_const, not_true_eq_false, not_false_eq_true, W.int.injEq, W.bl.injEq, W.str.injEq, W.ref.injEq, W.tup.injEq, List.cons.injEq, Bool.true_eq_false, Bool.false_eq_true, decide_eq_true_eq, decide_eq_false_iff_not, Bool.not_eq_true', Bool.not_eq_false', Bool.not_true, Bool.not_false, forall_const, true_implies, false_implies, implies_true, imp_self, decide_true, decide_false, Bool.and_true, Bool.true_and, Bool.and_false, Bool.false_and, Bool.or_false, Bool.or_true, Bool.false_or, Bool.true_or, beq_self_eq_true, pw_2_61, pw_10_18, pw_10_30, pw_10_29, pw_10_28, pw_10_40, pw_10_6, pw_10_9, lg_128, eq_self_iff_true, ne_eq, Int.not_lt, Int.not_le, Nat.not_lt, Nat.not_le, BEq.rfl]) | (refine ⟨_, (by first | exact lsAt_i | assumption), ?_⟩) | (refine ⟨mty_l, ?_⟩) | (refine ⟨mty_s, ?_⟩) | (refine ⟨_, ty_l (by first | exact lsAt_i | assumption), ?_⟩)))
    intro p
    refine neL_i (n := 1) (by decide) (List.mem_cons_of_mem _ hl) lsAt_i dok_cmds (fun w hw => (nomatch hw)) fun b hb => ?_
    (repeat (first | (simp only [h0, h1, Int.zero_add, qIsN_n, qNotN_n, uIsi_r, nm_home, nm_fin, home_nm, fin_nm, sne_down_up, sne_down_right, sne_down_left, sne_down_home, sne_down_end, sne_up_down, sne_up_right, sne_up_left, sne_up_home, sne_up_end, sne_right_down, sne_right_up, sne_right_left, sne_right_home, sne_right_end, sne_left_down, sne_left_up, sne_left_right, sne_left_home, sne_left_end, sne_home_down, sne_home_up, sne_home_right, sne_home_left, sne_home_end, sne_end_down, sne_end_up, sne_end_right, sne_end_left, sne_end_home, sFor_eq, mLc_eq, uAdd_i, uAdd_s, uAdd_l, uMul_i, uMul_l, uEq_ii, uEq_ss, uEq_bb, uEq_nn, uEq_ni, uEq_in, uEq_ns, uEq_sn, uEq_is, uEq_si, uEq_rr, uEq_tt, uEq_rt, uEq_tr, uEq_tn, uEq_nt, uNe_ii, uNe_ss, uNe_bb, uNe_nn, uNe_ni, uNe_in, uNe_ns, uNe_sn, uNe_is, uNe_si, uNe_rr, uNe_tt, uNe_rt, uNe_tr, uNe_tn, uNe_nt, uIn_t, uIn_r, uIx_t, uIx_r, uIx_c, uIx_s, uLen_c, uLen_r, uLen_t, uLen_s, uMin_i, uMin_r, uMax_i, uMax_r, uInt_b, uInt_i, uInt_s, uList_r, uList_t, uIsi_n, uIsi_b, uIsi_i, uIsi_s, uIsi_t, uIsi_c, uSl_c, uSl_r, uSl_s, iOf_r, iOf_c, isNon_n, isNon_i, isNon_s, isNon_b, isNon_t, isNon_r, flat_s, flat_i, flat_b, flat_n, weq_ss, weq_ii, weq_ni, weq_in, weq_nn, kb_bb, kb_bi, kb_bs, kb_bl, kb_bt, kb_ib, kb_ii, kb_is, kb_il, kb_it, kb_sb, kb_si, kb_ss, kb_sl, kb_st, kb_lb, kb_li, kb_ls, kb_ll, kb_lt, kb_tb, kb_ti, kb_ts, kb_tl, kb_tt, kb_nb, kb_ni, kb_ns, kb_nl, kb_nt, nth0, nth1, nth2, nth3, mVar, mC, mBin, mUn, mNil, mCons, mCB, mTest, mAnd, mOr, mNot, mIf, mAndV, mOrV, mNotV, mTup, mLst, mChain, mCall, mCallK, reord, mYes, sNext, sSeq, sDrop, sRet, sRetN, sIf, sNever, sBreak, sCont, sAsg, sPar, sAug, sStore, gSet, gsNil, gsCons, gTupW, gStarW, qI2, qI, qNeg, qAbs, qStrI, iLst, iRgn, iRg2, iEnu, iTpl, mDT, mBM, mBM0, mSl, oNone, oSome, sMatch, mGo, mDNew, mDisp_eq, mPairs, EndsD, EndsW.turn, Rho.put, Rho.wipe, Rho.del, rho0, sp1_iff, sp2_iff, sp3_iff, sp4_iff, win, List.filterMap_cons, List.filterMap_nil, List.cons_append, List.nil_append, List.length_cons, List.length_nil, List.all_cons, List.all_nil, List.any_cons, List.any_nil, List.getElem?_cons_zero, List.getElem?_cons_succ, List.getElem?_nil, List.set_cons_zero, List.set_cons_succ, reduceIte, reduceCtorEq, Nat.reduceEqDiff, Nat.reduceAdd, Nat.reduceSub, Nat.reduceMul, Nat.reduceLeDiff, Int.reduceToNat, Int.cast_ofNat_Int, Int.natCast_zero, Int.natCast_one, Int.reduceLE, Int.reduceLT, Int.reduceNeg, Int.reduceAdd, Int.reduceSub, Int.reducePow, Int.reduceEq, Int.reduceNe, Int.toNat_zero, Int.toNat_one, Int.ofNat_eq_natCast, Nat.reducePow, Nat.le_refl, ge_iff_le, gt_iff_lt, List.mem_cons, List.not_mem_nil, or_false, false_or, or_true, true_or, Option.some.injEq, exists_eq_left', exists_eq_left, exists_eq', exists_eq, exists_and_left, exists_and_right, and_assoc, true_and, and_true, false_and, and_false, exists_false, exists_const, not_true_eq_false, not_false_eq_true, W.int.injEq, W.bl.injEq, W.str.injEq, W.ref.injEq, W.tup.injEq, List.cons.injEq, Bool.true_eq_false, Bool.false_eq_true, decide_eq_true_eq, decide_eq_false_iff_not, Bool.not_eq_true', Bool.not_eq_false', Bool.not_true, Bool.not_false, forall_const, true_implies, false_implies, implies_true, imp_self, decide_true, decide_false, Bool.and_true, Bool.true_and, Bool.and_false, Bool.false_and, Bool.or_false, Bool.or_true, Bool.false_or, Bool.true_or, beq_self_eq_true, pw_2_61, pw_10_18, pw_10_30, pw_10_29, pw_10_28, pw_10_40, pw_10_6, pw_10_9, lg_128, eq_self_iff_true, ne_eq, Int.not_lt, Int.not_le, Nat.not_lt, Nat.not_le, BEq.rfl]) | (refine ⟨_, (by first | exact lsAt_i | assumption), ?_⟩) | (refine ⟨mty_l, ?_⟩) | (refine ⟨mty_s, ?_⟩) | (refine ⟨_, ty_l (by first | exact lsAt_i | assumption), ?_⟩)))
    refine ⟨fun e => ?_, fun e => ?_⟩
    · have ne : cs ≠ [] := fun z => hb.mp e (by rw [z]; rfl)
      refine ⟨C, inferInstance, ?_⟩
      unfold cmdsTx at k
      rw [if_neg ne] at k
      exact k
    · have z : cs = [] := by
        cases cs with
        | nil => rfl
        | cons c cs =>
          have := hb.mpr (by simp)
          rw [e] at this
          cases this
      subst z
      exact ⟨C, inferInstance, k⟩
/-! ### law -/
structure I_law (q : Addr) (Ds : Cells) (N : Nat) (ρ : Rho) (C : Cells) (S : SrcS) : Prop where
  h1 : ρ 1 = some (.ref q)
  ok : S.ok N
  hc : C = S.at_ q ++ Ds
def b_law : MS := sSeq (sAsg (mCall (cl sp__law_source) (mCons (mVar 0) (mNil))) (gSet 1)) (sSeq (sFor (iRgn (mCons (mBin uAdd (mC (.int 3)) (mCB uMin (mCons (mC (.int 8)) (mCons (mCB uLen (mCons (mVar 0) (mNil))) (mNil))))) (mNil))) (gSet 2) (sFor (iRgn (mCons (mC (.int 6)) (mNil))) (gSet 3) (sSeq (sPar 4 5 (mCons (mCall (cl sp__law_commands) (mCons (mVar 1) (mCons (mBin uIx (mLst (mCons (mC (.int 3)) (mCons (mC (.int 20)) (mNil)))) (mCall (cl sp__law_draw) (mCons (mVar 1) (mCons (mC (.int 2)) (mNil))))) (mNil)))) (mCons (mCall (cl sp__law_commands) (mCons (mVar 1) (mCons (mC (.int 2)) (mNil)))) (mNil)))) (sSeq (sAsg (mCB qRepr (mCons (mVar 4) (mNil))) (gSet 6)) (sSeq (sAsg (mLst (mCons (mCall (cl sp_show_commands) (mCons (mVar 4) (mNil))) (mCons (mCallK (cl sp_show_commands) 0 1 [0] mNil (mCons (mVar 4) (mNil))) (mNil)))) (gSet 7)) (sSeq (sIf (mOr (mNot (mTest (mCall (cl (sp__law_same 4)) (mCons (mVar 7) (mCons (mBin uMul (mLst (mCons (mCall (cl sp__law_written) (mCons (mVar 4) (mNil))) (mNil))) (mC (.int 2))) (mNil)))))) (mTest (mBin uNe (mCB qRepr (mCons (mVar 4) (mNil))) (mVar 6)))) (sRet (mC (.bl false))) (sNext)) (sIf (mTest (mBin uNe (mBin uEq (mCall (cl sp_show_commands) (mCons (mVar 5) (mNil))) (mBin uIx (mVar 7) (mC (.int 0)))) (mBin uEq (mVar 5) (mVar 4)))) (sRet (mC (.bl false))) (sNext)))))))) (sRet (mAndV (mBin uEq (mCall (cl sp_show_commands) (mCons (mLst (mNil)) (mNil))) (mC (.str "none"))) (mBin uEq (mCall (cl sp_show_commands) (mCons (mLst (mCons (mTup (mCons (mC (.str "down")) (mCons (mC (.int 3)) (mNil)))) (mCons (mTup (mCons (mC (.str "home")) (mNil))) (mCons (mTup (mCons (mC (.str "right")) (mCons (mC (.int 10)) (mNil)))) (mNil))))) (mNil))) (mC (.str "3D H 10R"))))))
def kb_law : List KSig := []
theorem pure_law : ∀ ws Cs Q E, spLawW ws Cs Q E → b_law (EndsD Q E) (rho0 ws) Cs := by
  rintro ws Cs Q E ⟨a, ns, rfl, hn, rfl, k⟩
  (repeat (first | (simp only [b_law, Int.zero_add, qIsN_n, qNotN_n, uIsi_r, nm_home, nm_fin, home_nm, fin_nm, sne_down_up, sne_down_right, sne_down_left, sne_down_home, sne_down_end, sne_up_down, sne_up_right, sne_up_left, sne_up_home, sne_up_end, sne_right_down, sne_right_up, sne_right_left, sne_right_home, sne_right_end, sne_left_down, sne_left_up, sne_left_right, sne_left_home, sne_left_end, sne_home_down, sne_home_up, sne_home_right, sne_home_left, sne_home_end, sne_end_down, sne_end_up, sne_end_right, sne_end_left, sne_end_home, sFor_eq, mLc_eq, uAdd_i, uAdd_s, uAdd_l, uMul_i, uMul_l, uEq_ii, uEq_ss, uEq_bb, uEq_nn, uEq_ni, uEq_in, uEq_ns, uEq_sn, uEq_is, uEq_si, uEq_rr, uEq_tt, uEq_rt, uEq_tr, uEq_tn, uEq_nt, uNe_ii, uNe_ss, uNe_bb, uNe_nn, uNe_ni, uNe_in, uNe_ns, uNe_sn, uNe_is, uNe_si, uNe_rr, uNe_tt, uNe_rt, uNe_tr, uNe_tn, uNe_nt, uIn_t, uIn_r, uIx_t, uIx_r, uIx_c, uIx_s, uLen_c, uLen_r, uLen_t, uLen_s, uMin_i, uMin_r, uMax_i, uMax_r, uInt_b, uInt_i, uInt_s, uList_r, uList_t, uIsi_n, uIsi_b, uIsi_i, uIsi_s, uIsi_t, uIsi_c, uSl_c, uSl_r, uSl_s, iOf_r, iOf_c, isNon_n, isNon_i, isNon_s, isNon_b, isNon_t, isNon_r, flat_s, flat_i, flat_b, flat_n, weq_ss, weq_ii, weq_ni, weq_in, weq_nn, kb_bb, kb_bi, kb_bs, kb_bl, kb_bt, kb_ib, kb_ii, kb_is, kb_il, kb_it, kb_sb, kb_si, kb_ss, kb_sl, kb_st, kb_lb, kb_li, kb_ls, kb_ll, kb_lt, kb_tb, kb_ti, kb_ts, kb_tl, kb_tt, kb_nb, kb_ni, kb_ns, kb_nl, kb_nt, nth0, nth1, nth2, nth3, mVar, mC, mBin, mUn, mNil, mCons, mCB, mTest, mAnd, mOr, mNot, mIf, mAndV, mOrV, mNotV, mTup, mLst, mChain, mCall, mCallK, reord, mYes, sNext, sSeq, sDrop, sRet, sRetN, sIf, sNever, sBreak, sCont, sAsg, sPar, sAug, sStore, gSet, gsNil, gsCons, gTupW, gStarW, qI2, qI, qNeg, qAbs, qStrI, iLst, iRgn, iRg2, iEnu, iTpl, mDT, mBM, mBM0, mSl, oNone, oSome, sMatch, mGo, mDNew, mDisp_eq, mPairs, EndsD, EndsW.turn, Rho.put, Rho.wipe, Rho.del, rho0, sp1_iff, sp2_iff, sp3_iff, sp4_iff, win, List.filterMap_cons, List.filterMap_nil, List.cons_append, List.nil_append, List.length_cons, List.length_nil, List.all_cons, List.all_nil, List.any_cons, List.any_nil, List.getElem?_cons_zero, List.getElem?_cons_succ, List.getElem?_nil, List.set_cons_zero, List.set_cons_succ, reduceIte, reduceCtorEq, Nat.reduceEqDiff, Nat.reduceAdd, Nat.reduceSub, Nat.reduceMul, Nat.reduceLeDiff, Int.reduceToNat, Int.cast_ofNat_Int, Int.natCast_zero, Int.natCast_one, Int.reduceLE, Int.reduceLT, Int.reduceNeg, Int.reduceAdd, Int.reduceSub, Int.reducePow, Int.reduceEq, Int.reduceNe, Int.toNat_zero, Int.toNat_one, Int.ofNat_eq_natCast, Nat.reducePow, Nat.le_refl, ge_iff_le, gt_iff_lt, List.mem_cons, List.not_mem_nil, or_false, false_or, or_true, true_or, Option.some.injEq, exists_eq_left', exists_eq_left, exists_eq', exists_eq, exists_and_left, exists_and_right, and_assoc, true_and, and_true, false_and, and_false, exists_false, exists_const, not_true_eq_false, not_false_eq_true, W.int.injEq, W.bl.injEq, W.str.injEq, W.ref.injEq, W.tup.injEq, List.cons.injEq, Bool.true_eq_false, Bool.false_eq_true, decide_eq_true_eq, decide_eq_false_iff_not, Bool.not_eq_true', Bool.not_eq_false', Bool.not_true, Bool.not_false, forall_const, true_implies, false_implies, implies_true, imp_self, decide_true, decide_false, Bool.and_true, Bool.true_and, Bool.and_false, Bool.false_and, Bool.or_false, Bool.or_true, Bool.false_or, Bool.true_or, beq_self_eq_true, pw_2_61, pw_10_18, pw_10_30, pw_10_29, pw_10_28, pw_10_40, pw_10_6, pw_10_9, lg_128, eq_self_iff_true, ne_eq, Int.not_lt, Int.not_le, Nat.not_lt, Nat.not_le, BEq.rfl]) | (refine ⟨_, (by first | exact lsAt_i | assumption), ?_⟩) | (refine ⟨mty_l, ?_⟩) | (refine ⟨mty_s, ?_⟩) | (refine ⟨_, ty_l (by first | exact lsAt_i | assumption), ?_⟩)))
  refine cl_h ⟨_, rfl, a, ns, rfl, hn, fun q S ok => ?_⟩
  (repeat (first | (simp only [Int.zero_add, qIsN_n, qNotN_n, uIsi_r, nm_home, nm_fin, home_nm, fin_nm, sne_down_up, sne_down_right, sne_down_left, sne_down_home, sne_down_end, sne_up_down, sne_up_right, sne_up_left, sne_up_home, sne_up_end, sne_right_down, sne_right_up, sne_right_left, sne_right_home, sne_right_end, sne_left_down, sne_left_up, sne_left_right, sne_left_home, sne_left_end, sne_home_down, sne_home_up, sne_home_right, sne_home_left, sne_home_end, sne_end_down, sne_end_up, sne_end_right, sne_end_left, sne_end_home, sFor_eq, mLc_eq, uAdd_i, uAdd_s, uAdd_l, uMul_i, uMul_l, uEq_ii, uEq_ss, uEq_bb, uEq_nn, uEq_ni, uEq_in, uEq_ns, uEq_sn, uEq_is, uEq_si, uEq_rr, uEq_tt, uEq_rt, uEq_tr, uEq_tn, uEq_nt, uNe_ii, uNe_ss, uNe_bb, uNe_nn, uNe_ni, uNe_in, uNe_ns, uNe_sn, uNe_is, uNe_si, uNe_rr, uNe_tt, uNe_rt, uNe_tr, uNe_tn, uNe_nt, uIn_t, uIn_r, uIx_t, uIx_r, uIx_c, uIx_s, uLen_c, uLen_r, uLen_t, uLen_s, uMin_i, uMin_r, uMax_i, uMax_r, uInt_b, uInt_i, uInt_s, uList_r, uList_t, uIsi_n, uIsi_b, uIsi_i, uIsi_s, uIsi_t, uIsi_c, uSl_c, uSl_r, uSl_s, iOf_r, iOf_c, isNon_n, isNon_i, isNon_s, isNon_b, isNon_t, isNon_r, flat_s, flat_i, flat_b, flat_n, weq_ss, weq_ii, weq_ni, weq_in, weq_nn, kb_bb, kb_bi, kb_bs, kb_bl, kb_bt, kb_ib, kb_ii, kb_is, kb_il, kb_it, kb_sb, kb_si, kb_ss, kb_sl, kb_st, kb_lb, kb_li, kb_ls, kb_ll, kb_lt, kb_tb, kb_ti, kb_ts, kb_tl, kb_tt, kb_nb, kb_ni, kb_ns, kb_nl, kb_nt, nth0, nth1, nth2, nth3, mVar, mC, mBin, mUn, mNil, mCons, mCB, mTest, mAnd, mOr, mNot, mIf, mAndV, mOrV, mNotV, mTup, mLst, mChain, mCall, mCallK, reord, mYes, sNext, sSeq, sDrop, sRet, sRetN, sIf, sNever, sBreak, sCont, sAsg, sPar, sAug, sStore, gSet, gsNil, gsCons, gTupW, gStarW, qI2, qI, qNeg, qAbs, qStrI, iLst, iRgn, iRg2, iEnu, iTpl, mDT, mBM, mBM0, mSl, oNone, oSome, sMatch, mGo, mDNew, mDisp_eq, mPairs, EndsD, EndsW.turn, Rho.put, Rho.wipe, Rho.del, rho0, sp1_iff, sp2_iff, sp3_iff, sp4_iff, win, List.filterMap_cons, List.filterMap_nil, List.cons_append, List.nil_append, List.length_cons, List.length_nil, List.all_cons, List.all_nil, List.any_cons, List.any_nil, List.getElem?_cons_zero, List.getElem?_cons_succ, List.getElem?_nil, List.set_cons_zero, List.set_cons_succ, reduceIte, reduceCtorEq, Nat.reduceEqDiff, Nat.reduceAdd, Nat.reduceSub, Nat.reduceMul, Nat.reduceLeDiff, Int.reduceToNat, Int.cast_ofNat_Int, Int.natCast_zero, Int.natCast_one, Int.reduceLE, Int.reduceLT, Int.reduceNeg, Int.reduceAdd, Int.reduceSub, Int.reducePow, Int.reduceEq, Int.reduceNe, Int.toNat_zero, Int.toNat_one, Int.ofNat_eq_natCast, Nat.reducePow, Nat.le_refl, ge_iff_le, gt_iff_lt, List.mem_cons, List.not_mem_nil, or_false, false_or, or_true, true_or, Option.some.injEq, exists_eq_left', exists_eq_left, exists_eq', exists_eq, exists_and_left, exists_and_right, and_assoc, true_and, and_true, false_and, and_false, exists_false, exists_const, not_true_eq_false, not_false_eq_true, W.int.injEq, W.bl.injEq, W.str.injEq, W.ref.injEq, W.tup.injEq, List.cons.injEq, Bool.true_eq_false, Bool.false_eq_true, decide_eq_true_eq, decide_eq_false_iff_not, Bool.not_eq_true', Bool.not_eq_false', Bool.not_true, Bool.not_false, forall_const, true_implies, false_implies, implies_true, imp_self, decide_true, decide_false, Bool.and_true, Bool.true_and, Bool.and_false, Bool.false_and, Bool.or_false, Bool.or_true, Bool.false_or, Bool.true_or, beq_self_eq_true, pw_2_61, pw_10_18, pw_10_30, pw_10_29, pw_10_28, pw_10_40, pw_10_6, pw_10_9, lg_128, eq_self_iff_true, ne_eq, Int.not_lt, Int.not_le, Nat.not_lt, Nat.not_le, BEq.rfl]) | (refine ⟨_, (by first | exact lsAt_i | assumption), ?_⟩) | (refine ⟨mty_l, ?_⟩) | (refine ⟨mty_s, ?_⟩) | (refine ⟨_, ty_l (by first | exact lsAt_i | assumption), ?_⟩)))
  refine ⟨by split <;> omega, by split <;> omega, ?_⟩
  refine forB_i (fun i ρ C => ∃ S, I_law q [] (700 * i) ρ C S) ⟨S, rfl, ok, rfl⟩ (fun _ _ _ _ _ => trivial) ?_ ?_
  · rintro i w ρ C hi hw ⟨S, ⟨h1, ok, rfl⟩⟩
    dsimp only at hi
    have hi2 : i < 11 := by
      rw [List.length_map] at hi
      split at hi <;> omega
    (repeat (first | (simp only [h1, Int.zero_add, qIsN_n, qNotN_n, uIsi_r, nm_home, nm_fin, home_nm, fin_nm, sne_down_up, sne_down_right, sne_down_left, sne_down_home, sne_down_end, sne_up_down, sne_up_right, sne_up_left, sne_up_home, sne_up_end, sne_right_down, sne_right_up, sne_right_left, sne_right_home, sne_right_end, sne_left_down, sne_left_up, sne_left_right, sne_left_home, sne_left_end, sne_home_down, sne_home_up, sne_home_right, sne_home_left, sne_home_end, sne_end_down, sne_end_up, sne_end_right, sne_end_left, sne_end_home, sFor_eq, mLc_eq, uAdd_i, uAdd_s, uAdd_l, uMul_i, uMul_l, uEq_ii, uEq_ss, uEq_bb, uEq_nn, uEq_ni, uEq_in, uEq_ns, uEq_sn, uEq_is, uEq_si, uEq_rr, uEq_tt, uEq_rt, uEq_tr, uEq_tn, uEq_nt, uNe_ii, uNe_ss, uNe_bb, uNe_nn, uNe_ni, uNe_in, uNe_ns, uNe_sn, uNe_is, uNe_si, uNe_rr, uNe_tt, uNe_rt, uNe_tr, uNe_tn, uNe_nt, uIn_t, uIn_r, uIx_t, uIx_r, uIx_c, uIx_s, uLen_c, uLen_r, uLen_t, uLen_s, uMin_i, uMin_r, uMax_i, uMax_r, uInt_b, uInt_i, uInt_s, uList_r, uList_t, uIsi_n, uIsi_b, uIsi_i, uIsi_s, uIsi_t, uIsi_c, uSl_c, uSl_r, uSl_s, iOf_r, iOf_c, isNon_n, isNon_i, isNon_s, isNon_b, isNon_t, isNon_r, flat_s, flat_i, flat_b, flat_n, weq_ss, weq_ii, weq_ni, weq_in, weq_nn, kb_bb, kb_bi, kb_bs, kb_bl, kb_bt, kb_ib, kb_ii, kb_is, kb_il, kb_it, kb_sb, kb_si, kb_ss, kb_sl, kb_st, kb_lb, kb_li, kb_ls, kb_ll, kb_lt, kb_tb, kb_ti, kb_ts, kb_tl, kb_tt, kb_nb, kb_ni, kb_ns, kb_nl, kb_nt, nth0, nth1, nth2, nth3, mVar, mC, mBin, mUn, mNil, mCons, mCB, mTest, mAnd, mOr, mNot, mIf, mAndV, mOrV, mNotV, mTup, mLst, mChain, mCall, mCallK, reord, mYes, sNext, sSeq, sDrop, sRet, sRetN, sIf, sNever, sBreak, sCont, sAsg, sPar, sAug, sStore, gSet, gsNil, gsCons, gTupW, gStarW, qI2, qI, qNeg, qAbs, qStrI, iLst, iRgn, iRg2, iEnu, iTpl, mDT, mBM, mBM0, mSl, oNone, oSome, sMatch, mGo, mDNew, mDisp_eq, mPairs, EndsD, EndsW.turn, Rho.put, Rho.wipe, Rho.del, rho0, sp1_iff, sp2_iff, sp3_iff, sp4_iff, win, List.filterMap_cons, List.filterMap_nil, List.cons_append, List.nil_append, List.length_cons, List.length_nil, List.all_cons, List.all_nil, List.any_cons, List.any_nil, List.getElem?_cons_zero, List.getElem?_cons_succ, List.getElem?_nil, List.set_cons_zero, List.set_cons_succ, reduceIte, reduceCtorEq, Nat.reduceEqDiff, Nat.reduceAdd, Nat.reduceSub, Nat.reduceMul, Nat.reduceLeDiff, Int.reduceToNat, Int.cast_ofNat_Int, Int.natCast_zero, Int.natCast_one, Int.reduceLE, Int.reduceLT, Int.reduceNeg, Int.reduceAdd, Int.reduceSub, Int.reducePow, Int.reduceEq, Int.reduceNe, Int.toNat_zero, Int.toNat_one, Int.ofNat_eq_natCast, Nat.reducePow, Nat.le_refl, ge_iff_le, gt_iff_lt, List.mem_cons, List.not_mem_nil, or_false, false_or, or_true, true_or, Option.some.injEq, exists_eq_left', exists_eq_left, exists_eq', exists_eq, exists_and_left, exists_and_right, and_assoc, true_and, and_true, false_and, and_false, exists_false, exists_const, not_true_eq_false, not_false_eq_true, W.int.injEq, W.bl.injEq, W.str.injEq, W.ref.injEq, W.tup.injEq, List.cons.injEq, Bool.true_eq_false, Bool.false_eq_true, decide_eq_true_eq, decide_eq_false_iff_not, Bool.not_eq_true', Bool.not_eq_false', Bool.not_true, Bool.not_false, forall_const, true_implies, false_implies, implies_true, imp_self, decide_true, decide_false, Bool.and_true, Bool.true_and, Bool.and_false, Bool.false_and, Bool.or_false, Bool.or_true, Bool.false_or, Bool.true_or, beq_self_eq_true, pw_2_61, pw_10_18, pw_10_30, pw_10_29, pw_10_28, pw_10_40, pw_10_6, pw_10_9, lg_128, eq_self_iff_true, ne_eq, Int.not_lt, Int.not_le, Nat.not_lt, Nat.not_le, BEq.rfl]) | (refine ⟨_, (by first | exact lsAt_i | assumption), ?_⟩) | (refine ⟨mty_l, ?_⟩) | (refine ⟨mty_s, ?_⟩) | (refine ⟨_, ty_l (by first | exact lsAt_i | assumption), ?_⟩)))
    refine forB_i (fun j ρ C => ∃ S, I_law q [] (700 * i + 113 * j) ρ C S) ⟨S, h1, ok, rfl⟩ (fun _ _ _ _ _ => trivial) ?_ ?_
    · rintro j w2 ρ C hj hw2 ⟨S, ⟨h1, ok, rfl⟩⟩
      dsimp only at hj
      have hj2 : j < 6 := hj
      (repeat (first | (simp only [h1, Int.zero_add, qIsN_n, qNotN_n, uIsi_r, nm_home, nm_fin, home_nm, fin_nm, sne_down_up, sne_down_right, sne_down_left, sne_down_home, sne_down_end, sne_up_down, sne_up_right, sne_up_left, sne_up_home, sne_up_end, sne_right_down, sne_right_up, sne_right_left, sne_right_home, sne_right_end, sne_left_down, sne_left_up, sne_left_right, sne_left_home, sne_left_end, sne_home_down, sne_home_up, sne_home_right, sne_home_left, sne_home_end, sne_end_down, sne_end_up, sne_end_right, sne_end_left, sne_end_home, sFor_eq, mLc_eq, uAdd_i, uAdd_s, uAdd_l, uMul_i, uMul_l, uEq_ii, uEq_ss, uEq_bb, uEq_nn, uEq_ni, uEq_in, uEq_ns, uEq_sn, uEq_is, uEq_si, uEq_rr, uEq_tt, uEq_rt, uEq_tr, uEq_tn, uEq_nt, uNe_ii, uNe_ss, uNe_bb, uNe_nn, uNe_ni, uNe_in, uNe_ns, uNe_sn, uNe_is, uNe_si, uNe_rr, uNe_tt, uNe_rt, uNe_tr, uNe_tn, uNe_nt, uIn_t, uIn_r, uIx_t, uIx_r, uIx_c, uIx_s, uLen_c, uLen_r, uLen_t, uLen_s, uMin_i, uMin_r, uMax_i, uMax_r, uInt_b, uInt_i, uInt_s, uList_r, uList_t, uIsi_n, uIsi_b, uIsi_i, uIsi_s, uIsi_t, uIsi_c, uSl_c, uSl_r, uSl_s, iOf_r, iOf_c, isNon_n, isNon_i, isNon_s, isNon_b, isNon_t, isNon_r, flat_s, flat_i, flat_b, flat_n, weq_ss, weq_ii, weq_ni, weq_in, weq_nn, kb_bb, kb_bi, kb_bs, kb_bl, kb_bt, kb_ib, kb_ii, kb_is, kb_il, kb_it, kb_sb, kb_si, kb_ss, kb_sl, kb_st, kb_lb, kb_li, kb_ls, kb_ll, kb_lt, kb_tb, kb_ti, kb_ts, kb_tl, kb_tt, kb_nb, kb_ni, kb_ns, kb_nl, kb_nt, nth0, nth1, nth2, nth3, mVar, mC, mBin, mUn, mNil, mCons, mCB, mTest, mAnd, mOr, mNot, mIf, mAndV, mOrV, mNotV, mTup, mLst, mChain, mCall, mCallK, reord, mYes, sNext, sSeq, sDrop, sRet, sRetN, sIf, sNever, sBreak, sCont, sAsg, sPar, sAug, sStore, gSet, gsNil, gsCons, gTupW, gStarW, qI2, qI, qNeg, qAbs, qStrI, iLst, iRgn, iRg2, iEnu, iTpl, mDT, mBM, mBM0, mSl, oNone, oSome, sMatch, mGo, mDNew, mDisp_eq, mPairs, EndsD, EndsW.turn, Rho.put, Rho.wipe, Rho.del, rho0, sp1_iff, sp2_iff, sp3_iff, sp4_iff, win, List.filterMap_cons, List.filterMap_nil, List.cons_append, List.nil_append, List.length_cons, List.length_nil, List.all_cons, List.all_nil, List.any_cons, List.any_nil, List.getElem?_cons_zero, List.getElem?_cons_succ, List.getElem?_nil, List.set_cons_zero, List.set_cons_succ, reduceIte, reduceCtorEq, Nat.reduceEqDiff, Nat.reduceAdd, Nat.reduceSub, Nat.reduceMul, Nat.reduceLeDiff, Int.reduceToNat, Int.cast_ofNat_Int, Int.natCast_zero, Int.natCast_one, Int.reduceLE, Int.reduceLT, Int.reduceNeg, Int.reduceAdd, Int.reduceSub, Int.reducePow, Int.reduceEq, Int.reduceNe, Int.toNat_zero, Int.toNat_one, Int.ofNat_eq_natCast, Nat.reducePow, Nat.le_refl, ge_iff_le, gt_iff_lt, List.mem_cons, List.not_mem_nil, or_false, false_or, or_true, true_or, Option.some.injEq, exists_eq_left', exists_eq_left, exists_eq', exists_eq, exists_and_left, exists_and_right, and_assoc, true_and, and_true, false_and, and_false, exists_false, exists_const, not_true_eq_false, not_false_eq_true, W.int.injEq, W.bl.injEq, W.str.injEq, W.ref.injEq, W.tup.injEq, List.cons.injEq, Bool.true_eq_false, Bool.false_eq_true, decide_eq_true_eq, decide_eq_false_iff_not, Bool.not_eq_true', Bool.not_eq_false', Bool.not_true, Bool.not_false, forall_const, true_implies, false_implies, implies_true, imp_self, decide_true, decide_false, Bool.and_true, Bool.true_and, Bool.and_false, Bool.false_and, Bool.or_false, Bool.or_true, Bool.false_or, Bool.true_or, beq_self_eq_true, pw_2_61, pw_10_18, pw_10_30, pw_10_29, pw_10_28, pw_10_40, pw_10_6, pw_10_9, lg_128, eq_self_iff_true, ne_eq, Int.not_lt, Int.not_le, Nat.not_lt, Nat.not_le, BEq.rfl]) | (refine ⟨_, (by first | exact lsAt_i | assumption), ?_⟩) | (refine ⟨mty_l, ?_⟩) | (refine ⟨mty_s, ?_⟩) | (refine ⟨_, ty_l (by first | exact lsAt_i | assumption), ?_⟩)))
      intro pl
      (repeat (first | (simp only [h1, Int.zero_add, qIsN_n, qNotN_n, uIsi_r, nm_home, nm_fin, home_nm, fin_nm, sne_down_up, sne_down_right, sne_down_left, sne_down_home, sne_down_end, sne_up_down, sne_up_right, sne_up_left, sne_up_home, sne_up_end, sne_right_down, sne_right_up, sne_right_left, sne_right_home, sne_right_end, sne_left_down, sne_left_up, sne_left_right, sne_left_home, sne_left_end, sne_home_down, sne_home_up, sne_home_right, sne_home_left, sne_home_end, sne_end_down, sne_end_up, sne_end_right, sne_end_left, sne_end_home, sFor_eq, mLc_eq, uAdd_i, uAdd_s, uAdd_l, uMul_i, uMul_l, uEq_ii, uEq_ss, uEq_bb, uEq_nn, uEq_ni, uEq_in, uEq_ns, uEq_sn, uEq_is, uEq_si, uEq_rr, uEq_tt, uEq_rt, uEq_tr, uEq_tn, uEq_nt, uNe_ii, uNe_ss, uNe_bb, uNe_nn, uNe_ni, uNe_in, uNe_ns, uNe_sn, uNe_is, uNe_si, uNe_rr, uNe_tt, uNe_rt, uNe_tr, uNe_tn, uNe_nt, uIn_t, uIn_r, uIx_t, uIx_r, uIx_c, uIx_s, uLen_c, uLen_r, uLen_t, uLen_s, uMin_i, uMin_r, uMax_i, uMax_r, uInt_b, uInt_i, uInt_s, uList_r, uList_t, uIsi_n, uIsi_b, uIsi_i, uIsi_s, uIsi_t, uIsi_c, uSl_c, uSl_r, uSl_s, iOf_r, iOf_c, isNon_n, isNon_i, isNon_s, isNon_b, isNon_t, isNon_r, flat_s, flat_i, flat_b, flat_n, weq_ss, weq_ii, weq_ni, weq_in, weq_nn, kb_bb, kb_bi, kb_bs, kb_bl, kb_bt, kb_ib, kb_ii, kb_is, kb_il, kb_it, kb_sb, kb_si, kb_ss, kb_sl, kb_st, kb_lb, kb_li, kb_ls, kb_ll, kb_lt, kb_tb, kb_ti, kb_ts, kb_tl, kb_tt, kb_nb, kb_ni, kb_ns, kb_nl, kb_nt, nth0, nth1, nth2, nth3, mVar, mC, mBin, mUn, mNil, mCons, mCB, mTest, mAnd, mOr, mNot, mIf, mAndV, mOrV, mNotV, mTup, mLst, mChain, mCall, mCallK, reord, mYes, sNext, sSeq, sDrop, sRet, sRetN, sIf, sNever, sBreak, sCont, sAsg, sPar, sAug, sStore, gSet, gsNil, gsCons, gTupW, gStarW, qI2, qI, qNeg, qAbs, qStrI, iLst, iRgn, iRg2, iEnu, iTpl, mDT, mBM, mBM0, mSl, oNone, oSome, sMatch, mGo, mDNew, mDisp_eq, mPairs, EndsD, EndsW.turn, Rho.put, Rho.wipe, Rho.del, rho0, sp1_iff, sp2_iff, sp3_iff, sp4_iff, win, List.filterMap_cons, List.filterMap_nil, List.cons_append, List.nil_append, List.length_cons, List.length_nil, List.all_cons, List.all_nil, List.any_cons, List.any_nil, List.getElem?_cons_zero, List.getElem?_cons_succ, List.getElem?_nil, List.set_cons_zero, List.set_cons_succ, reduceIte, reduceCtorEq, Nat.reduceEqDiff, Nat.reduceAdd, Nat.reduceSub, Nat.reduceMul, Nat.reduceLeDiff, Int.reduceToNat, Int.cast_ofNat_Int, Int.natCast_zero, Int.natCast_one, Int.reduceLE, Int.reduceLT, Int.reduceNeg, Int.reduceAdd, Int.reduceSub, Int.reducePow, Int.reduceEq, Int.reduceNe, Int.toNat_zero, Int.toNat_one, Int.ofNat_eq_natCast, Nat.reducePow, Nat.le_refl, ge_iff_le, gt_iff_lt, List.mem_cons, List.not_mem_nil, or_false, false_or, or_true, true_or, Option.some.injEq, exists_eq_left', exists_eq_left, exists_eq', exists_eq, exists_and_left, exists_and_right, and_assoc, true_and, and_true, false_and, and_false, exists_false, exists_const, not_true_eq_false, not_false_eq_true, W.int.injEq, W.bl.injEq, W.str.injEq, W.ref.injEq, W.tup.injEq, List.cons.injEq, Bool.true_eq_false, Bool.false_eq_true, decide_eq_true_eq, decide_eq_false_iff_not, Bool.not_eq_true', Bool.not_eq_false', Bool.not_true, Bool.not_false, forall_const, true_implies, false_implies, implies_true, imp_self, decide_true, decide_false, Bool.and_true, Bool.true_and, Bool.and_false, Bool.false_and, Bool.or_false, Bool.or_true, Bool.false_or, Bool.true_or, beq_self_eq_true, pw_2_61, pw_10_18, pw_10_30, pw_10_29, pw_10_28, pw_10_40, pw_10_6, pw_10_9, lg_128, eq_self_iff_true, ne_eq, Int.not_lt, Int.not_le, Nat.not_lt, Nat.not_le, BEq.rfl]) | (refine ⟨_, (by first | exact lsAt_i | assumption), ?_⟩) | (refine ⟨mty_l, ?_⟩) | (refine ⟨mty_s, ?_⟩) | (refine ⟨_, ty_l (by first | exact lsAt_i | assumption), ?_⟩)))
      refine draw_i (by decide) (by decide) ok (by omega) fun r S1 h0 h2 ok1 => ?_
      (repeat (first | (simp only [h1, Int.zero_add, qIsN_n, qNotN_n, uIsi_r, nm_home, nm_fin, home_nm, fin_nm, sne_down_up, sne_down_right, sne_down_left, sne_down_home, sne_down_end, sne_up_down, sne_up_right, sne_up_left, sne_up_home, sne_up_end, sne_right_down, sne_right_up, sne_right_left, sne_right_home, sne_right_end, sne_left_down, sne_left_up, sne_left_right, sne_left_home, sne_left_end, sne_home_down, sne_home_up, sne_home_right, sne_home_left, sne_home_end, sne_end_down, sne_end_up, sne_end_right, sne_end_left, sne_end_home, sFor_eq, mLc_eq, uAdd_i, uAdd_s, uAdd_l, uMul_i, uMul_l, uEq_ii, uEq_ss, uEq_bb, uEq_nn, uEq_ni, uEq_in, uEq_ns, uEq_sn, uEq_is, uEq_si, uEq_rr, uEq_tt, uEq_rt, uEq_tr, uEq_tn, uEq_nt, uNe_ii, uNe_ss, uNe_bb, uNe_nn, uNe_ni, uNe_in, uNe_ns, uNe_sn, uNe_is, uNe_si, uNe_rr, uNe_tt, uNe_rt, uNe_tr, uNe_tn, uNe_nt, uIn_t, uIn_r, uIx_t, uIx_r, uIx_c, uIx_s, uLen_c, uLen_r, uLen_t, uLen_s, uMin_i, uMin_r, uMax_i, uMax_r, uInt_b, uInt_i, uInt_s, uList_r, uList_t, uIsi_n, uIsi_b, uIsi_i, uIsi_s, uIsi_t, uIsi_c, uSl_c, uSl_r, uSl_s, iOf_r, iOf_c, isNon_n, isNon_i, isNon_s, isNon_b, isNon_t, isNon_r, flat_s, flat_i, flat_b, flat_n, weq_ss, weq_ii, weq_ni, weq_in, weq_nn, kb_bb, kb_bi, kb_bs, kb_bl, kb_bt, kb_ib, kb_ii, kb_is, kb_il, kb_it, kb_sb, kb_si, kb_ss, kb_sl, kb_st, kb_lb, kb_li, kb_ls, kb_ll, kb_lt, kb_tb, kb_ti, kb_ts, kb_tl, kb_tt, kb_nb, kb_ni, kb_ns, kb_nl, kb_nt, nth0, nth1, nth2, nth3, mVar, mC, mBin, mUn, mNil, mCons, mCB, mTest, mAnd, mOr, mNot, mIf, mAndV, mOrV, mNotV, mTup, mLst, mChain, mCall, mCallK, reord, mYes, sNext, sSeq, sDrop, sRet, sRetN, sIf, sNever, sBreak, sCont, sAsg, sPar, sAug, sStore, gSet, gsNil, gsCons, gTupW, gStarW, qI2, qI, qNeg, qAbs, qStrI, iLst, iRgn, iRg2, iEnu, iTpl, mDT, mBM, mBM0, mSl, oNone, oSome, sMatch, mGo, mDNew, mDisp_eq, mPairs, EndsD, EndsW.turn, Rho.put, Rho.wipe, Rho.del, rho0, sp1_iff, sp2_iff, sp3_iff, sp4_iff, win, List.filterMap_cons, List.filterMap_nil, List.cons_append, List.nil_append, List.length_cons, List.length_nil, List.all_cons, List.all_nil, List.any_cons, List.any_nil, List.getElem?_cons_zero, List.getElem?_cons_succ, List.getElem?_nil, List.set_cons_zero, List.set_cons_succ, reduceIte, reduceCtorEq, Nat.reduceEqDiff, Nat.reduceAdd, Nat.reduceSub, Nat.reduceMul, Nat.reduceLeDiff, Int.reduceToNat, Int.cast_ofNat_Int, Int.natCast_zero, Int.natCast_one, Int.reduceLE, Int.reduceLT, Int.reduceNeg, Int.reduceAdd, Int.reduceSub, Int.reducePow, Int.reduceEq, Int.reduceNe, Int.toNat_zero, Int.toNat_one, Int.ofNat_eq_natCast, Nat.reducePow, Nat.le_refl, ge_iff_le, gt_iff_lt, List.mem_cons, List.not_mem_nil, or_false, false_or, or_true, true_or, Option.some.injEq, exists_eq_left', exists_eq_left, exists_eq', exists_eq, exists_and_left, exists_and_right, and_assoc, true_and, and_true, false_and, and_false, exists_false, exists_const, not_true_eq_false, not_false_eq_true, W.int.injEq, W.bl.injEq, W.str.injEq, W.ref.injEq, W.tup.injEq, List.cons.injEq, Bool.true_eq_false, Bool.false_eq_true, decide_eq_true_eq, decide_eq_false_iff_not, Bool.not_eq_true', Bool.not_eq_false', Bool.not_true, Bool.not_false, forall_const, true_implies, false_implies, implies_true, imp_self, decide_true, decide_false, Bool.and_true, Bool.true_and, Bool.and_false, Bool.false_and, Bool.or_false, Bool.or_true, Bool.false_or, Bool.true_or, beq_self_eq_true, pw_2_61, pw_10_18, pw_10_30, pw_10_29, pw_10_28, pw_10_40, pw_10_6, pw_10_9, lg_128, eq_self_iff_true, ne_eq, Int.not_lt, Int.not_le, Nat.not_lt, Nat.not_le, BEq.rfl]) | (refine ⟨_, (by first | exact lsAt_i | assumption), ?_⟩) | (refine ⟨mty_l, ?_⟩) | (refine ⟨mty_s, ?_⟩) | (refine ⟨_, ty_l (by first | exact lsAt_i | assumption), ?_⟩)))
      refine nth_i h0 h2 fun w hw => ?_
      obtain ⟨m, rfl, hm⟩ : ∃ m : Nat, w = .int m ∧ m ≤ 20 := by
        simp only [List.mem_cons, List.not_mem_nil, or_false] at hw
        rcases hw with rfl | rfl
        · exact ⟨3, rfl, by decide⟩
        · exact ⟨20, rfl, by decide⟩
      refine commands_i (by omega) ok1 (by omega) fun p1 cs S2 hcl hcs ok2 => ?_
      (repeat (first | (simp only [h1, Int.zero_add, qIsN_n, qNotN_n, uIsi_r, nm_home, nm_fin, home_nm, fin_nm, sne_down_up, sne_down_right, sne_down_left, sne_down_home, sne_down_end, sne_up_down, sne_up_right, sne_up_left, sne_up_home, sne_up_end, sne_right_down, sne_right_up, sne_right_left, sne_right_home, sne_right_end, sne_left_down, sne_left_up, sne_left_right, sne_left_home, sne_left_end, sne_home_down, sne_home_up, sne_home_right, sne_home_left, sne_home_end, sne_end_down, sne_end_up, sne_end_right, sne_end_left, sne_end_home, sFor_eq, mLc_eq, uAdd_i, uAdd_s, uAdd_l, uMul_i, uMul_l, uEq_ii, uEq_ss, uEq_bb, uEq_nn, uEq_ni, uEq_in, uEq_ns, uEq_sn, uEq_is, uEq_si, uEq_rr, uEq_tt, uEq_rt, uEq_tr, uEq_tn, uEq_nt, uNe_ii, uNe_ss, uNe_bb, uNe_nn, uNe_ni, uNe_in, uNe_ns, uNe_sn, uNe_is, uNe_si, uNe_rr, uNe_tt, uNe_rt, uNe_tr, uNe_tn, uNe_nt, uIn_t, uIn_r, uIx_t, uIx_r, uIx_c, uIx_s, uLen_c, uLen_r, uLen_t, uLen_s, uMin_i, uMin_r, uMax_i, uMax_r, uInt_b, uInt_i, uInt_s, uList_r, uList_t, uIsi_n, uIsi_b, uIsi_i, uIsi_s, uIsi_t, uIsi_c, uSl_c, uSl_r, uSl_s, iOf_r, iOf_c, isNon_n, isNon_i, isNon_s, isNon_b, isNon_t, isNon_r, flat_s, flat_i, flat_b, flat_n, weq_ss, weq_ii, weq_ni, weq_in, weq_nn, kb_bb, kb_bi, kb_bs, kb_bl, kb_bt, kb_ib, kb_ii, kb_is, kb_il, kb_it, kb_sb, kb_si, kb_ss, kb_sl, kb_st, kb_lb, kb_li, kb_ls, kb_ll, kb_lt, kb_tb, kb_ti, kb_ts, kb_tl, kb_tt, kb_nb, kb_ni, kb_ns, kb_nl, kb_nt, nth0, nth1, nth2, nth3, mVar, mC, mBin, mUn, mNil, mCons, mCB, mTest, mAnd, mOr, mNot, mIf, mAndV, mOrV, mNotV, mTup, mLst, mChain, mCall, mCallK, reord, mYes, sNext, sSeq, sDrop, sRet, sRetN, sIf, sNever, sBreak, sCont, sAsg, sPar, sAug, sStore, gSet, gsNil, gsCons, gTupW, gStarW, qI2, qI, qNeg, qAbs, qStrI, iLst, iRgn, iRg2, iEnu, iTpl, mDT, mBM, mBM0, mSl, oNone, oSome, sMatch, mGo, mDNew, mDisp_eq, mPairs, EndsD, EndsW.turn, Rho.put, Rho.wipe, Rho.del, rho0, sp1_iff, sp2_iff, sp3_iff, sp4_iff, win, List.filterMap_cons, List.filterMap_nil, List.cons_append, List.nil_append, List.length_cons, List.length_nil, List.all_cons, List.all_nil, List.any_cons, List.any_nil, List.getElem?_cons_zero, List.getElem?_cons_succ, List.getElem?_nil, List.set_cons_zero, List.set_cons_succ, reduceIte, reduceCtorEq, Nat.reduceEqDiff, Nat.reduceAdd, Nat.reduceSub, Nat.reduceMul, Nat.reduceLeDiff, Int.reduceToNat, Int.cast_ofNat_Int, Int.natCast_zero, Int.natCast_one, Int.reduceLE, Int.reduceLT, Int.reduceNeg, Int.reduceAdd, Int.reduceSub, Int.reducePow, Int.reduceEq, Int.reduceNe, Int.toNat_zero, Int.toNat_one, Int.ofNat_eq_natCast, Nat.reducePow, Nat.le_refl, ge_iff_le, gt_iff_lt, List.mem_cons, List.not_mem_nil, or_false, false_or, or_true, true_or, Option.some.injEq, exists_eq_left', exists_eq_left, exists_eq', exists_eq, exists_and_left, exists_and_right, and_assoc, true_and, and_true, false_and, and_false, exists_false, exists_const, not_true_eq_false, not_false_eq_true, W.int.injEq, W.bl.injEq, W.str.injEq, W.ref.injEq, W.tup.injEq, List.cons.injEq, Bool.true_eq_false, Bool.false_eq_true, decide_eq_true_eq, decide_eq_false_iff_not, Bool.not_eq_true', Bool.not_eq_false', Bool.not_true, Bool.not_false, forall_const, true_implies, false_implies, implies_true, imp_self, decide_true, decide_false, Bool.and_true, Bool.true_and, Bool.and_false, Bool.false_and, Bool.or_false, Bool.or_true, Bool.false_or, Bool.true_or, beq_self_eq_true, pw_2_61, pw_10_18, pw_10_30, pw_10_29, pw_10_28, pw_10_40, pw_10_6, pw_10_9, lg_128, eq_self_iff_true, ne_eq, Int.not_lt, Int.not_le, Nat.not_lt, Nat.not_le, BEq.rfl]) | (refine ⟨_, (by first | exact lsAt_i | assumption), ?_⟩) | (refine ⟨mty_l, ?_⟩) | (refine ⟨mty_s, ?_⟩) | (refine ⟨_, ty_l (by first | exact lsAt_i | assumption), ?_⟩)))
      refine commands_i (many := 2) (by omega) ok2 (by omega) fun p2 ds S3 hdl hds ok3 => ?_
      (repeat (first | (simp only [h1, Int.zero_add, qIsN_n, qNotN_n, uIsi_r, nm_home, nm_fin, home_nm, fin_nm, sne_down_up, sne_down_right, sne_down_left, sne_down_home, sne_down_end, sne_up_down, sne_up_right, sne_up_left, sne_up_home, sne_up_end, sne_right_down, sne_right_up, sne_right_left, sne_right_home, sne_right_end, sne_left_down, sne_left_up, sne_left_right, sne_left_home, sne_left_end, sne_home_down, sne_home_up, sne_home_right, sne_home_left, sne_home_end, sne_end_down, sne_end_up, sne_end_right, sne_end_left, sne_end_home, sFor_eq, mLc_eq, uAdd_i, uAdd_s, uAdd_l, uMul_i, uMul_l, uEq_ii, uEq_ss, uEq_bb, uEq_nn, uEq_ni, uEq_in, uEq_ns, uEq_sn, uEq_is, uEq_si, uEq_rr, uEq_tt, uEq_rt, uEq_tr, uEq_tn, uEq_nt, uNe_ii, uNe_ss, uNe_bb, uNe_nn, uNe_ni, uNe_in, uNe_ns, uNe_sn, uNe_is, uNe_si, uNe_rr, uNe_tt, uNe_rt, uNe_tr, uNe_tn, uNe_nt, uIn_t, uIn_r, uIx_t, uIx_r, uIx_c, uIx_s, uLen_c, uLen_r, uLen_t, uLen_s, uMin_i, uMin_r, uMax_i, uMax_r, uInt_b, uInt_i, uInt_s, uList_r, uList_t, uIsi_n, uIsi_b, uIsi_i, uIsi_s, uIsi_t, uIsi_c, uSl_c, uSl_r, uSl_s, iOf_r, iOf_c, isNon_n, isNon_i, isNon_s, isNon_b, isNon_t, isNon_r, flat_s, flat_i, flat_b, flat_n, weq_ss, weq_ii, weq_ni, weq_in, weq_nn, kb_bb, kb_bi, kb_bs, kb_bl, kb_bt, kb_ib, kb_ii, kb_is, kb_il, kb_it, kb_sb, kb_si, kb_ss, kb_sl, kb_st, kb_lb, kb_li, kb_ls, kb_ll, kb_lt, kb_tb, kb_ti, kb_ts, kb_tl, kb_tt, kb_nb, kb_ni, kb_ns, kb_nl, kb_nt, nth0, nth1, nth2, nth3, mVar, mC, mBin, mUn, mNil, mCons, mCB, mTest, mAnd, mOr, mNot, mIf, mAndV, mOrV, mNotV, mTup, mLst, mChain, mCall, mCallK, reord, mYes, sNext, sSeq, sDrop, sRet, sRetN, sIf, sNever, sBreak, sCont, sAsg, sPar, sAug, sStore, gSet, gsNil, gsCons, gTupW, gStarW, qI2, qI, qNeg, qAbs, qStrI, iLst, iRgn, iRg2, iEnu, iTpl, mDT, mBM, mBM0, mSl, oNone, oSome, sMatch, mGo, mDNew, mDisp_eq, mPairs, EndsD, EndsW.turn, Rho.put, Rho.wipe, Rho.del, rho0, sp1_iff, sp2_iff, sp3_iff, sp4_iff, win, List.filterMap_cons, List.filterMap_nil, List.cons_append, List.nil_append, List.length_cons, List.length_nil, List.all_cons, List.all_nil, List.any_cons, List.any_nil, List.getElem?_cons_zero, List.getElem?_cons_succ, List.getElem?_nil, List.set_cons_zero, List.set_cons_succ, reduceIte, reduceCtorEq, Nat.reduceEqDiff, Nat.reduceAdd, Nat.reduceSub, Nat.reduceMul, Nat.reduceLeDiff, Int.reduceToNat, Int.cast_ofNat_Int, Int.natCast_zero, Int.natCast_one, Int.reduceLE, Int.reduceLT, Int.reduceNeg, Int.reduceAdd, Int.reduceSub, Int.reducePow, Int.reduceEq, Int.reduceNe, Int.toNat_zero, Int.toNat_one, Int.ofNat_eq_natCast, Nat.reducePow, Nat.le_refl, ge_iff_le, gt_iff_lt, List.mem_cons, List.not_mem_nil, or_false, false_or, or_true, true_or, Option.some.injEq, exists_eq_left', exists_eq_left, exists_eq', exists_eq, exists_and_left, exists_and_right, and_assoc, true_and, and_true, false_and, and_false, exists_false, exists_const, not_true_eq_false, not_false_eq_true, W.int.injEq, W.bl.injEq, W.str.injEq, W.ref.injEq, W.tup.injEq, List.cons.injEq, Bool.true_eq_false, Bool.false_eq_true, decide_eq_true_eq, decide_eq_false_iff_not, Bool.not_eq_true', Bool.not_eq_false', Bool.not_true, Bool.not_false, forall_const, true_implies, false_implies, implies_true, imp_self, decide_true, decide_false, Bool.and_true, Bool.true_and, Bool.and_false, Bool.false_and, Bool.or_false, Bool.or_true, Bool.false_or, Bool.true_or, beq_self_eq_true, pw_2_61, pw_10_18, pw_10_30, pw_10_29, pw_10_28, pw_10_40, pw_10_6, pw_10_9, lg_128, eq_self_iff_true, ne_eq, Int.not_lt, Int.not_le, Nat.not_lt, Nat.not_le, BEq.rfl]) | (refine ⟨_, (by first | exact lsAt_i | assumption), ?_⟩) | (refine ⟨mty_l, ?_⟩) | (refine ⟨mty_s, ?_⟩) | (refine ⟨_, ty_l (by first | exact lsAt_i | assumption), ?_⟩)))
      have hcs' : ∀ c, c ∈ cs → c.ok BIG := fun c hc => (hcs c hc).up (by decide)
      have hds' : ∀ c, c ∈ ds → c.ok BIG := fun c hc => (hds c hc).up (by decide)
      refine repr_cmds lsAt_i (by omega) hcs' ?_
      (repeat (first | (simp only [h1, Int.zero_add, qIsN_n, qNotN_n, uIsi_r, nm_home, nm_fin, home_nm, fin_nm, sne_down_up, sne_down_right, sne_down_left, sne_down_home, sne_down_end, sne_up_down, sne_up_right, sne_up_left, sne_up_home, sne_up_end, sne_right_down, sne_right_up, sne_right_left, sne_right_home, sne_right_end, sne_left_down, sne_left_up, sne_left_right, sne_left_home, sne_left_end, sne_home_down, sne_home_up, sne_home_right, sne_home_left, sne_home_end, sne_end_down, sne_end_up, sne_end_right, sne_end_left, sne_end_home, sFor_eq, mLc_eq, uAdd_i, uAdd_s, uAdd_l, uMul_i, uMul_l, uEq_ii, uEq_ss, uEq_bb, uEq_nn, uEq_ni, uEq_in, uEq_ns, uEq_sn, uEq_is, uEq_si, uEq_rr, uEq_tt, uEq_rt, uEq_tr, uEq_tn, uEq_nt, uNe_ii, uNe_ss, uNe_bb, uNe_nn, uNe_ni, uNe_in, uNe_ns, uNe_sn, uNe_is, uNe_si, uNe_rr, uNe_tt, uNe_rt, uNe_tr, uNe_tn, uNe_nt, uIn_t, uIn_r, uIx_t, uIx_r, uIx_c, uIx_s, uLen_c, uLen_r, uLen_t, uLen_s, uMin_i, uMin_r, uMax_i, uMax_r, uInt_b, uInt_i, uInt_s, uList_r, uList_t, uIsi_n, uIsi_b, uIsi_i, uIsi_s, uIsi_t, uIsi_c, uSl_c, uSl_r, uSl_s, iOf_r, iOf_c, isNon_n, isNon_i, isNon_s, isNon_b, isNon_t, isNon_r, flat_s, flat_i, flat_b, flat_n, weq_ss, weq_ii, weq_ni, weq_in, weq_nn, kb_bb, kb_bi, kb_bs, kb_bl, kb_bt, kb_ib, kb_ii, kb_is, kb_il, kb_it, kb_sb, kb_si, kb_ss, kb_sl, kb_st, kb_lb, kb_li, kb_ls, kb_ll, kb_lt, kb_tb, kb_ti, kb_ts, kb_tl, kb_tt, kb_nb, kb_ni, kb_ns, kb_nl, kb_nt, nth0, nth1, nth2, nth3, mVar, mC, mBin, mUn, mNil, mCons, mCB, mTest, mAnd, mOr, mNot, mIf, mAndV, mOrV, mNotV, mTup, mLst, mChain, mCall, mCallK, reord, mYes, sNext, sSeq, sDrop, sRet, sRetN, sIf, sNever, sBreak, sCont, sAsg, sPar, sAug, sStore, gSet, gsNil, gsCons, gTupW, gStarW, qI2, qI, qNeg, qAbs, qStrI, iLst, iRgn, iRg2, iEnu, iTpl, mDT, mBM, mBM0, mSl, oNone, oSome, sMatch, mGo, mDNew, mDisp_eq, mPairs, EndsD, EndsW.turn, Rho.put, Rho.wipe, Rho.del, rho0, sp1_iff, sp2_iff, sp3_iff, sp4_iff, win, List.filterMap_cons, List.filterMap_nil, List.cons_append, List.nil_append, List.length_cons, List.length_nil, List.all_cons, List.all_nil, List.any_cons, List.any_nil, List.getElem?_cons_zero, List.getElem?_cons_succ, List.getElem?_nil, List.set_cons_zero, List.set_cons_succ, reduceIte, reduceCtorEq, Nat.reduceEqDiff, Nat.reduceAdd, Nat.reduceSub, Nat.reduceMul, Nat.reduceLeDiff, Int.reduceToNat, Int.cast_ofNat_Int, Int.natCast_zero, Int.natCast_one, Int.reduceLE, Int.reduceLT, Int.reduceNeg, Int.reduceAdd, Int.reduceSub, Int.reducePow, Int.reduceEq, Int.reduceNe, Int.toNat_zero, Int.toNat_one, Int.ofNat_eq_natCast, Nat.reducePow, Nat.le_refl, ge_iff_le, gt_iff_lt, List.mem_cons, List.not_mem_nil, or_false, false_or, or_true, true_or, Option.some.injEq, exists_eq_left', exists_eq_left, exists_eq', exists_eq, exists_and_left, exists_and_right, and_assoc, true_and, and_true, false_and, and_false, exists_false, exists_const, not_true_eq_false, not_false_eq_true, W.int.injEq, W.bl.injEq, W.str.injEq, W.ref.injEq, W.tup.injEq, List.cons.injEq, Bool.true_eq_false, Bool.false_eq_true, decide_eq_true_eq, decide_eq_false_iff_not, Bool.not_eq_true', Bool.not_eq_false', Bool.not_true, Bool.not_false, forall_const, true_implies, false_implies, implies_true, imp_self, decide_true, decide_false, Bool.and_true, Bool.true_and, Bool.and_false, Bool.false_and, Bool.or_false, Bool.or_true, Bool.false_or, Bool.true_or, beq_self_eq_true, pw_2_61, pw_10_18, pw_10_30, pw_10_29, pw_10_28, pw_10_40, pw_10_6, pw_10_9, lg_128, eq_self_iff_true, ne_eq, Int.not_lt, Int.not_le, Nat.not_lt, Nat.not_le, BEq.rfl]) | (refine ⟨_, (by first | exact lsAt_i | assumption), ?_⟩) | (refine ⟨mty_l, ?_⟩) | (refine ⟨mty_s, ?_⟩) | (refine ⟨_, ty_l (by first | exact lsAt_i | assumption), ?_⟩)))
      refine cl_h ⟨_, rfl, p1, cs, rfl, lsAt_i, by omega, hcs', ?_⟩
      (repeat (first | (simp only [h1, Int.zero_add, qIsN_n, qNotN_n, uIsi_r, nm_home, nm_fin, home_nm, fin_nm, sne_down_up, sne_down_right, sne_down_left, sne_down_home, sne_down_end, sne_up_down, sne_up_right, sne_up_left, sne_up_home, sne_up_end, sne_right_down, sne_right_up, sne_right_left, sne_right_home, sne_right_end, sne_left_down, sne_left_up, sne_left_right, sne_left_home, sne_left_end, sne_home_down, sne_home_up, sne_home_right, sne_home_left, sne_home_end, sne_end_down, sne_end_up, sne_end_right, sne_end_left, sne_end_home, sFor_eq, mLc_eq, uAdd_i, uAdd_s, uAdd_l, uMul_i, uMul_l, uEq_ii, uEq_ss, uEq_bb, uEq_nn, uEq_ni, uEq_in, uEq_ns, uEq_sn, uEq_is, uEq_si, uEq_rr, uEq_tt, uEq_rt, uEq_tr, uEq_tn, uEq_nt, uNe_ii, uNe_ss, uNe_bb, uNe_nn, uNe_ni, uNe_in, uNe_ns, uNe_sn, uNe_is, uNe_si, uNe_rr, uNe_tt, uNe_rt, uNe_tr, uNe_tn, uNe_nt, uIn_t, uIn_r, uIx_t, uIx_r, uIx_c, uIx_s, uLen_c, uLen_r, uLen_t, uLen_s, uMin_i, uMin_r, uMax_i, uMax_r, uInt_b, uInt_i, uInt_s, uList_r, uList_t, uIsi_n, uIsi_b, uIsi_i, uIsi_s, uIsi_t, uIsi_c, uSl_c, uSl_r, uSl_s, iOf_r, iOf_c, isNon_n, isNon_i, isNon_s, isNon_b, isNon_t, isNon_r, flat_s, flat_i, flat_b, flat_n, weq_ss, weq_ii, weq_ni, weq_in, weq_nn, kb_bb, kb_bi, kb_bs, kb_bl, kb_bt, kb_ib, kb_ii, kb_is, kb_il, kb_it, kb_sb, kb_si, kb_ss, kb_sl, kb_st, kb_lb, kb_li, kb_ls, kb_ll, kb_lt, kb_tb, kb_ti, kb_ts, kb_tl, kb_tt, kb_nb, kb_ni, kb_ns, kb_nl, kb_nt, nth0, nth1, nth2, nth3, mVar, mC, mBin, mUn, mNil, mCons, mCB, mTest, mAnd, mOr, mNot, mIf, mAndV, mOrV, mNotV, mTup, mLst, mChain, mCall, mCallK, reord, mYes, sNext, sSeq, sDrop, sRet, sRetN, sIf, sNever, sBreak, sCont, sAsg, sPar, sAug, sStore, gSet, gsNil, gsCons, gTupW, gStarW, qI2, qI, qNeg, qAbs, qStrI, iLst, iRgn, iRg2, iEnu, iTpl, mDT, mBM, mBM0, mSl, oNone, oSome, sMatch, mGo, mDNew, mDisp_eq, mPairs, EndsD, EndsW.turn, Rho.put, Rho.wipe, Rho.del, rho0, sp1_iff, sp2_iff, sp3_iff, sp4_iff, win, List.filterMap_cons, List.filterMap_nil, List.cons_append, List.nil_append, List.length_cons, List.length_nil, List.all_cons, List.all_nil, List.any_cons, List.any_nil, List.getElem?_cons_zero, List.getElem?_cons_succ, List.getElem?_nil, List.set_cons_zero, List.set_cons_succ, reduceIte, reduceCtorEq, Nat.reduceEqDiff, Nat.reduceAdd, Nat.reduceSub, Nat.reduceMul, Nat.reduceLeDiff, Int.reduceToNat, Int.cast_ofNat_Int, Int.natCast_zero, Int.natCast_one, Int.reduceLE, Int.reduceLT, Int.reduceNeg, Int.reduceAdd, Int.reduceSub, Int.reducePow, Int.reduceEq, Int.reduceNe, Int.toNat_zero, Int.toNat_one, Int.ofNat_eq_natCast, Nat.reducePow, Nat.le_refl, ge_iff_le, gt_iff_lt, List.mem_cons, List.not_mem_nil, or_false, false_or, or_true, true_or, Option.some.injEq, exists_eq_left', exists_eq_left, exists_eq', exists_eq, exists_and_left, exists_and_right, and_assoc, true_and, and_true, false_and, and_false, exists_false, exists_const, not_true_eq_false, not_false_eq_true, W.int.injEq, W.bl.injEq, W.str.injEq, W.ref.injEq, W.tup.injEq, List.cons.injEq, Bool.true_eq_false, Bool.false_eq_true, decide_eq_true_eq, decide_eq_false_iff_not, Bool.not_eq_true', Bool.not_eq_false', Bool.not_true, Bool.not_false, forall_const, true_implies, false_implies, implies_true, imp_self, decide_true, decide_false, Bool.and_true, Bool.true_and, Bool.and_false, Bool.false_and, Bool.or_false, Bool.or_true, Bool.false_or, Bool.true_or, beq_self_eq_true, pw_2_61, pw_10_18, pw_10_30, pw_10_29, pw_10_28, pw_10_40, pw_10_6, pw_10_9, lg_128, eq_self_iff_true, ne_eq, Int.not_lt, Int.not_le, Nat.not_lt, Nat.not_le, BEq.rfl]) | (refine ⟨_, (by first | exact lsAt_i | assumption), ?_⟩) | (refine ⟨mty_l, ?_⟩) | (refine ⟨mty_s, ?_⟩) | (refine ⟨_, ty_l (by first | exact lsAt_i | assumption), ?_⟩)))
      refine cl_h ⟨_, rfl, p1, cs, rfl, lsAt_i, by omega, hcs', ?_⟩
      (repeat (first | (simp only [h1, Int.zero_add, qIsN_n, qNotN_n, uIsi_r, nm_home, nm_fin, home_nm, fin_nm, sne_down_up, sne_down_right, sne_down_left, sne_down_home, sne_down_end, sne_up_down, sne_up_right, sne_up_left, sne_up_home, sne_up_end, sne_right_down, sne_right_up, sne_right_left, sne_right_home, sne_right_end, sne_left_down, sne_left_up, sne_left_right, sne_left_home, sne_left_end, sne_home_down, sne_home_up, sne_home_right, sne_home_left, sne_home_end, sne_end_down, sne_end_up, sne_end_right, sne_end_left, sne_end_home, sFor_eq, mLc_eq, uAdd_i, uAdd_s, uAdd_l, uMul_i, uMul_l, uEq_ii, uEq_ss, uEq_bb, uEq_nn, uEq_ni, uEq_in, uEq_ns, uEq_sn, uEq_is, uEq_si, uEq_rr, uEq_tt, uEq_rt, uEq_tr, uEq_tn, uEq_nt, uNe_ii, uNe_ss, uNe_bb, uNe_nn, uNe_ni, uNe_in, uNe_ns, uNe_sn, uNe_is, uNe_si, uNe_rr, uNe_tt, uNe_rt, uNe_tr, uNe_tn, uNe_nt, uIn_t, uIn_r, uIx_t, uIx_r, uIx_c, uIx_s, uLen_c, uLen_r, uLen_t, uLen_s, uMin_i, uMin_r, uMax_i, uMax_r, uInt_b, uInt_i, uInt_s, uList_r, uList_t, uIsi_n, uIsi_b, uIsi_i, uIsi_s, uIsi_t, uIsi_c, uSl_c, uSl_r, uSl_s, iOf_r, iOf_c, isNon_n, isNon_i, isNon_s, isNon_b, isNon_t, isNon_r, flat_s, flat_i, flat_b, flat_n, weq_ss, weq_ii, weq_ni, weq_in, weq_nn, kb_bb, kb_bi, kb_bs, kb_bl, kb_bt, kb_ib, kb_ii, kb_is, kb_il, kb_it, kb_sb, kb_si, kb_ss, kb_sl, kb_st, kb_lb, kb_li, kb_ls, kb_ll, kb_lt, kb_tb, kb_ti, kb_ts, kb_tl, kb_tt, kb_nb, kb_ni, kb_ns, kb_nl, kb_nt, nth0, nth1, nth2, nth3, mVar, mC, mBin, mUn, mNil, mCons, mCB, mTest, mAnd, mOr, mNot, mIf, mAndV, mOrV, mNotV, mTup, mLst, mChain, mCall, mCallK, reord, mYes, sNext, sSeq, sDrop, sRet, sRetN, sIf, sNever, sBreak, sCont, sAsg, sPar, sAug, sStore, gSet, gsNil, gsCons, gTupW, gStarW, qI2, qI, qNeg, qAbs, qStrI, iLst, iRgn, iRg2, iEnu, iTpl, mDT, mBM, mBM0, mSl, oNone, oSome, sMatch, mGo, mDNew, mDisp_eq, mPairs, EndsD, EndsW.turn, Rho.put, Rho.wipe, Rho.del, rho0, sp1_iff, sp2_iff, sp3_iff, sp4_iff, win, List.filterMap_cons, List.filterMap_nil, List.cons_append, List.nil_append, List.length_cons, List.length_nil, List.all_cons, List.all_nil, List.any_cons, List.any_nil, List.getElem?_cons_zero, List.getElem?_cons_succ, List.getElem?_nil, List.set_cons_zero, List.set_cons_succ, reduceIte, reduceCtorEq, Nat.reduceEqDiff, Nat.reduceAdd, Nat.reduceSub, Nat.reduceMul, Nat.reduceLeDiff, Int.reduceToNat, Int.cast_ofNat_Int, Int.natCast_zero, Int.natCast_one, Int.reduceLE, Int.reduceLT, Int.reduceNeg, Int.reduceAdd, Int.reduceSub, Int.reducePow, Int.reduceEq, Int.reduceNe, Int.toNat_zero, Int.toNat_one, Int.ofNat_eq_natCast, Nat.reducePow, Nat.le_refl, ge_iff_le, gt_iff_lt, List.mem_cons, List.not_mem_nil, or_false, false_or, or_true, true_or, Option.some.injEq, exists_eq_left', exists_eq_left, exists_eq', exists_eq, exists_and_left, exists_and_right, and_assoc, true_and, and_true, false_and, and_false, exists_false, exists_const, not_true_eq_false, not_false_eq_true, W.int.injEq, W.bl.injEq, W.str.injEq, W.ref.injEq, W.tup.injEq, List.cons.injEq, Bool.true_eq_false, Bool.false_eq_true, decide_eq_true_eq, decide_eq_false_iff_not, Bool.not_eq_true', Bool.not_eq_false', Bool.not_true, Bool.not_false, forall_const, true_implies, false_implies, implies_true, imp_self, decide_true, decide_false, Bool.and_true, Bool.true_and, Bool.and_false, Bool.false_and, Bool.or_false, Bool.or_true, Bool.false_or, Bool.true_or, beq_self_eq_true, pw_2_61, pw_10_18, pw_10_30, pw_10_29, pw_10_28, pw_10_40, pw_10_6, pw_10_9, lg_128, eq_self_iff_true, ne_eq, Int.not_lt, Int.not_le, Nat.not_lt, Nat.not_le, BEq.rfl]) | (refine ⟨_, (by first | exact lsAt_i | assumption), ?_⟩) | (refine ⟨mty_l, ?_⟩) | (refine ⟨mty_s, ?_⟩) | (refine ⟨_, ty_l (by first | exact lsAt_i | assumption), ?_⟩)))
      intro p3
      (repeat (first | (simp only [h1, Int.zero_add, qIsN_n, qNotN_n, uIsi_r, nm_home, nm_fin, home_nm, fin_nm, sne_down_up, sne_down_right, sne_down_left, sne_down_home, sne_down_end, sne_up_down, sne_up_right, sne_up_left, sne_up_home, sne_up_end, sne_right_down, sne_right_up, sne_right_left, sne_right_home, sne_right_end, sne_left_down, sne_left_up, sne_left_right, sne_left_home, sne_left_end, sne_home_down, sne_home_up, sne_home_right, sne_home_left, sne_home_end, sne_end_down, sne_end_up, sne_end_right, sne_end_left, sne_end_home, sFor_eq, mLc_eq, uAdd_i, uAdd_s, uAdd_l, uMul_i, uMul_l, uEq_ii, uEq_ss, uEq_bb, uEq_nn, uEq_ni, uEq_in, uEq_ns, uEq_sn, uEq_is, uEq_si, uEq_rr, uEq_tt, uEq_rt, uEq_tr, uEq_tn, uEq_nt, uNe_ii, uNe_ss, uNe_bb, uNe_nn, uNe_ni, uNe_in, uNe_ns, uNe_sn, uNe_is, uNe_si, uNe_rr, uNe_tt, uNe_rt, uNe_tr, uNe_tn, uNe_nt, uIn_t, uIn_r, uIx_t, uIx_r, uIx_c, uIx_s, uLen_c, uLen_r, uLen_t, uLen_s, uMin_i, uMin_r, uMax_i, uMax_r, uInt_b, uInt_i, uInt_s, uList_r, uList_t, uIsi_n, uIsi_b, uIsi_i, uIsi_s, uIsi_t, uIsi_c, uSl_c, uSl_r, uSl_s, iOf_r, iOf_c, isNon_n, isNon_i, isNon_s, isNon_b, isNon_t, isNon_r, flat_s, flat_i, flat_b, flat_n, weq_ss, weq_ii, weq_ni, weq_in, weq_nn, kb_bb, kb_bi, kb_bs, kb_bl, kb_bt, kb_ib, kb_ii, kb_is, kb_il, kb_it, kb_sb, kb_si, kb_ss, kb_sl, kb_st, kb_lb, kb_li, kb_ls, kb_ll, kb_lt, kb_tb, kb_ti, kb_ts, kb_tl, kb_tt, kb_nb, kb_ni, kb_ns, kb_nl, kb_nt, nth0, nth1, nth2, nth3, mVar, mC, mBin, mUn, mNil, mCons, mCB, mTest, mAnd, mOr, mNot, mIf, mAndV, mOrV, mNotV, mTup, mLst, mChain, mCall, mCallK, reord, mYes, sNext, sSeq, sDrop, sRet, sRetN, sIf, sNever, sBreak, sCont, sAsg, sPar, sAug, sStore, gSet, gsNil, gsCons, gTupW, gStarW, qI2, qI, qNeg, qAbs, qStrI, iLst, iRgn, iRg2, iEnu, iTpl, mDT, mBM, mBM0, mSl, oNone, oSome, sMatch, mGo, mDNew, mDisp_eq, mPairs, EndsD, EndsW.turn, Rho.put, Rho.wipe, Rho.del, rho0, sp1_iff, sp2_iff, sp3_iff, sp4_iff, win, List.filterMap_cons, List.filterMap_nil, List.cons_append, List.nil_append, List.length_cons, List.length_nil, List.all_cons, List.all_nil, List.any_cons, List.any_nil, List.getElem?_cons_zero, List.getElem?_cons_succ, List.getElem?_nil, List.set_cons_zero, List.set_cons_succ, reduceIte, reduceCtorEq, Nat.reduceEqDiff, Nat.reduceAdd, Nat.reduceSub, Nat.reduceMul, Nat.reduceLeDiff, Int.reduceToNat, Int.cast_ofNat_Int, Int.natCast_zero, Int.natCast_one, Int.reduceLE, Int.reduceLT, Int.reduceNeg, Int.reduceAdd, Int.reduceSub, Int.reducePow, Int.reduceEq, Int.reduceNe, Int.toNat_zero, Int.toNat_one, Int.ofNat_eq_natCast, Nat.reducePow, Nat.le_refl, ge_iff_le, gt_iff_lt, List.mem_cons, List.not_mem_nil, or_false, false_or, or_true, true_or, Option.some.injEq, exists_eq_left', exists_eq_left, exists_eq', exists_eq, exists_and_left, exists_and_right, and_assoc, true_and, and_true, false_and, and_false, exists_false, exists_const, not_true_eq_false, not_false_eq_true, W.int.injEq, W.bl.injEq, W.str.injEq, W.ref.injEq, W.tup.injEq, List.cons.injEq, Bool.true_eq_false, Bool.false_eq_true, decide_eq_true_eq, decide_eq_false_iff_not, Bool.not_eq_true', Bool.not_eq_false', Bool.not_true, Bool.not_false, forall_const, true_implies, false_implies, implies_true, imp_self, decide_true, decide_false, Bool.and_true, Bool.true_and, Bool.and_false, Bool.false_and, Bool.or_false, Bool.or_true, Bool.false_or, Bool.true_or, beq_self_eq_true, pw_2_61, pw_10_18, pw_10_30, pw_10_29, pw_10_28, pw_10_40, pw_10_6, pw_10_9, lg_128, eq_self_iff_true, ne_eq, Int.not_lt, Int.not_le, Nat.not_lt, Nat.not_le, BEq.rfl]) | (refine ⟨_, (by first | exact lsAt_i | assumption), ?_⟩) | (refine ⟨mty_l, ?_⟩) | (refine ⟨mty_s, ?_⟩) | (refine ⟨_, ty_l (by first | exact lsAt_i | assumption), ?_⟩)))
      refine cl_h ⟨_, rfl, p1, cs, rfl, lsAt_i, by omega, hcs', ?_⟩
      (repeat (first | (simp only [h1, Int.zero_add, qIsN_n, qNotN_n, uIsi_r, nm_home, nm_fin, home_nm, fin_nm, sne_down_up, sne_down_right, sne_down_left, sne_down_home, sne_down_end, sne_up_down, sne_up_right, sne_up_left, sne_up_home, sne_up_end, sne_right_down, sne_right_up, sne_right_left, sne_right_home, sne_right_end, sne_left_down, sne_left_up, sne_left_right, sne_left_home, sne_left_end, sne_home_down, sne_home_up, sne_home_right, sne_home_left, sne_home_end, sne_end_down, sne_end_up, sne_end_right, sne_end_left, sne_end_home, sFor_eq, mLc_eq, uAdd_i, uAdd_s, uAdd_l, uMul_i, uMul_l, uEq_ii, uEq_ss, uEq_bb, uEq_nn, uEq_ni, uEq_in, uEq_ns, uEq_sn, uEq_is, uEq_si, uEq_rr, uEq_tt, uEq_rt, uEq_tr, uEq_tn, uEq_nt, uNe_ii, uNe_ss, uNe_bb, uNe_nn, uNe_ni, uNe_in, uNe_ns, uNe_sn, uNe_is, uNe_si, uNe_rr, uNe_tt, uNe_rt, uNe_tr, uNe_tn, uNe_nt, uIn_t, uIn_r, uIx_t, uIx_r, uIx_c, uIx_s, uLen_c, uLen_r, uLen_t, uLen_s, uMin_i, uMin_r, uMax_i, uMax_r, uInt_b, uInt_i, uInt_s, uList_r, uList_t, uIsi_n, uIsi_b, uIsi_i, uIsi_s, uIsi_t, uIsi_c, uSl_c, uSl_r, uSl_s, iOf_r, iOf_c, isNon_n, isNon_i, isNon_s, isNon_b, isNon_t, isNon_r, flat_s, flat_i, flat_b, flat_n, weq_ss, weq_ii, weq_ni, weq_in, weq_nn, kb_bb, kb_bi, kb_bs, kb_bl, kb_bt, kb_ib, kb_ii, kb_is, kb_il, kb_it, kb_sb, kb_si, kb_ss, kb_sl, kb_st, kb_lb, kb_li, kb_ls, kb_ll, kb_lt, kb_tb, kb_ti, kb_ts, kb_tl, kb_tt, kb_nb, kb_ni, kb_ns, kb_nl, kb_nt, nth0, nth1, nth2, nth3, mVar, mC, mBin, mUn, mNil, mCons, mCB, mTest, mAnd, mOr, mNot, mIf, mAndV, mOrV, mNotV, mTup, mLst, mChain, mCall, mCallK, reord, mYes, sNext, sSeq, sDrop, sRet, sRetN, sIf, sNever, sBreak, sCont, sAsg, sPar, sAug, sStore, gSet, gsNil, gsCons, gTupW, gStarW, qI2, qI, qNeg, qAbs, qStrI, iLst, iRgn, iRg2, iEnu, iTpl, mDT, mBM, mBM0, mSl, oNone, oSome, sMatch, mGo, mDNew, mDisp_eq, mPairs, EndsD, EndsW.turn, Rho.put, Rho.wipe, Rho.del, rho0, sp1_iff, sp2_iff, sp3_iff, sp4_iff, win, List.filterMap_cons, List.filterMap_nil, List.cons_append, List.nil_append, List.length_cons, List.length_nil, List.all_cons, List.all_nil, List.any_cons, List.any_nil, List.getElem?_cons_zero, List.getElem?_cons_succ, List.getElem?_nil, List.set_cons_zero, List.set_cons_succ, reduceIte, reduceCtorEq, Nat.reduceEqDiff, Nat.reduceAdd, Nat.reduceSub, Nat.reduceMul, Nat.reduceLeDiff, Int.reduceToNat, Int.cast_ofNat_Int, Int.natCast_zero, Int.natCast_one, Int.reduceLE, Int.reduceLT, Int.reduceNeg, Int.reduceAdd, Int.reduceSub, Int.reducePow, Int.reduceEq, Int.reduceNe, Int.toNat_zero, Int.toNat_one, Int.ofNat_eq_natCast, Nat.reducePow, Nat.le_refl, ge_iff_le, gt_iff_lt, List.mem_cons, List.not_mem_nil, or_false, false_or, or_true, true_or, Option.some.injEq, exists_eq_left', exists_eq_left, exists_eq', exists_eq, exists_and_left, exists_and_right, and_assoc, true_and, and_true, false_and, and_false, exists_false, exists_const, not_true_eq_false, not_false_eq_true, W.int.injEq, W.bl.injEq, W.str.injEq, W.ref.injEq, W.tup.injEq, List.cons.injEq, Bool.true_eq_false, Bool.false_eq_true, decide_eq_true_eq, decide_eq_false_iff_not, Bool.not_eq_true', Bool.not_eq_false', Bool.not_true, Bool.not_false, forall_const, true_implies, false_implies, implies_true, imp_self, decide_true, decide_false, Bool.and_true, Bool.true_and, Bool.and_false, Bool.false_and, Bool.or_false, Bool.or_true, Bool.false_or, Bool.true_or, beq_self_eq_true, pw_2_61, pw_10_18, pw_10_30, pw_10_29, pw_10_28, pw_10_40, pw_10_6, pw_10_9, lg_128, eq_self_iff_true, ne_eq, Int.not_lt, Int.not_le, Nat.not_lt, Nat.not_le, BEq.rfl]) | (refine ⟨_, (by first | exact lsAt_i | assumption), ?_⟩) | (refine ⟨mty_l, ?_⟩) | (refine ⟨mty_s, ?_⟩) | (refine ⟨_, ty_l (by first | exact lsAt_i | assumption), ?_⟩)))
      intro p4
      (repeat (first | (simp only [h1, Int.zero_add, qIsN_n, qNotN_n, uIsi_r, nm_home, nm_fin, home_nm, fin_nm, sne_down_up, sne_down_right, sne_down_left, sne_down_home, sne_down_end, sne_up_down, sne_up_right, sne_up_left, sne_up_home, sne_up_end, sne_right_down, sne_right_up, sne_right_left, sne_right_home, sne_right_end, sne_left_down, sne_left_up, sne_left_right, sne_left_home, sne_left_end, sne_home_down, sne_home_up, sne_home_right, sne_home_left, sne_home_end, sne_end_down, sne_end_up, sne_end_right, sne_end_left, sne_end_home, sFor_eq, mLc_eq, uAdd_i, uAdd_s, uAdd_l, uMul_i, uMul_l, uEq_ii, uEq_ss, uEq_bb, uEq_nn, uEq_ni, uEq_in, uEq_ns, uEq_sn, uEq_is, uEq_si, uEq_rr, uEq_tt, uEq_rt, uEq_tr, uEq_tn, uEq_nt, uNe_ii, uNe_ss, uNe_bb, uNe_nn, uNe_ni, uNe_in, uNe_ns, uNe_sn, uNe_is, uNe_si, uNe_rr, uNe_tt, uNe_rt, uNe_tr, uNe_tn, uNe_nt, uIn_t, uIn_r, uIx_t, uIx_r, uIx_c, uIx_s, uLen_c, uLen_r, uLen_t, uLen_s, uMin_i, uMin_r, uMax_i, uMax_r, uInt_b, uInt_i, uInt_s, uList_r, uList_t, uIsi_n, uIsi_b, uIsi_i, uIsi_s, uIsi_t, uIsi_c, uSl_c, uSl_r, uSl_s, iOf_r, iOf_c, isNon_n, isNon_i, isNon_s, isNon_b, isNon_t, isNon_r, flat_s, flat_i, flat_b, flat_n, weq_ss, weq_ii, weq_ni, weq_in, weq_nn, kb_bb, kb_bi, kb_bs, kb_bl, kb_bt, kb_ib, kb_ii, kb_is, kb_il, kb_it, kb_sb, kb_si, kb_ss, kb_sl, kb_st, kb_lb, kb_li, kb_ls, kb_ll, kb_lt, kb_tb, kb_ti, kb_ts, kb_tl, kb_tt, kb_nb, kb_ni, kb_ns, kb_nl, kb_nt, nth0, nth1, nth2, nth3, mVar, mC, mBin, mUn, mNil, mCons, mCB, mTest, mAnd, mOr, mNot, mIf, mAndV, mOrV, mNotV, mTup, mLst, mChain, mCall, mCallK, reord, mYes, sNext, sSeq, sDrop, sRet, sRetN, sIf, sNever, sBreak, sCont, sAsg, sPar, sAug, sStore, gSet, gsNil, gsCons, gTupW, gStarW, qI2, qI, qNeg, qAbs, qStrI, iLst, iRgn, iRg2, iEnu, iTpl, mDT, mBM, mBM0, mSl, oNone, oSome, sMatch, mGo, mDNew, mDisp_eq, mPairs, EndsD, EndsW.turn, Rho.put, Rho.wipe, Rho.del, rho0, sp1_iff, sp2_iff, sp3_iff, sp4_iff, win, List.filterMap_cons, List.filterMap_nil, List.cons_append, List.nil_append, List.length_cons, List.length_nil, List.all_cons, List.all_nil, List.any_cons, List.any_nil, List.getElem?_cons_zero, List.getElem?_cons_succ, List.getElem?_nil, List.set_cons_zero, List.set_cons_succ, reduceIte, reduceCtorEq, Nat.reduceEqDiff, Nat.reduceAdd, Nat.reduceSub, Nat.reduceMul, Nat.reduceLeDiff, Int.reduceToNat, Int.cast_ofNat_Int, Int.natCast_zero, Int.natCast_one, Int.reduceLE, Int.reduceLT, Int.reduceNeg, Int.reduceAdd, Int.reduceSub, Int.reducePow, Int.reduceEq, Int.reduceNe, Int.toNat_zero, Int.toNat_one, Int.ofNat_eq_natCast, Nat.reducePow, Nat.le_refl, ge_iff_le, gt_iff_lt, List.mem_cons, List.not_mem_nil, or_false, false_or, or_true, true_or, Option.some.injEq, exists_eq_left', exists_eq_left, exists_eq', exists_eq, exists_and_left, exists_and_right, and_assoc, true_and, and_true, false_and, and_false, exists_false, exists_const, not_true_eq_false, not_false_eq_true, W.int.injEq, W.bl.injEq, W.str.injEq, W.ref.injEq, W.tup.injEq, List.cons.injEq, Bool.true_eq_false, Bool.false_eq_true, decide_eq_true_eq, decide_eq_false_iff_not, Bool.not_eq_true', Bool.not_eq_false', Bool.not_true, Bool.not_false, forall_const, true_implies, false_implies, implies_true, imp_self, decide_true, decide_false, Bool.and_true, Bool.true_and, Bool.and_false, Bool.false_and, Bool.or_false, Bool.or_true, Bool.false_or, Bool.true_or, beq_self_eq_true, pw_2_61, pw_10_18, pw_10_30, pw_10_29, pw_10_28, pw_10_40, pw_10_6, pw_10_9, lg_128, eq_self_iff_true, ne_eq, Int.not_lt, Int.not_le, Nat.not_lt, Nat.not_le, BEq.rfl]) | (refine ⟨_, (by first | exact lsAt_i | assumption), ?_⟩) | (refine ⟨mty_l, ?_⟩) | (refine ⟨mty_s, ?_⟩) | (refine ⟨_, ty_l (by first | exact lsAt_i | assumption), ?_⟩)))
      intro p5
      have dt : Dw ((p5, MO.lst (List.replicate 2 [W.str (txt (cmdsTx cs))]).flatten) :: (p4, MO.lst [W.str (txt (cmdsTx cs))]) :: (p3, MO.lst [W.str (txt (cmdsTx cs)), W.str (txt (cmdsTx cs))]) :: (p2, MO.lst (ds.map Cmd.w)) :: (S3.at_ q ++ [(p1, MO.lst (cs.map Cmd.w)), (pl, MO.lst [W.int 3, W.int 20])])) (.ref p3) (.list ([W.str (txt (cmdsTx cs)), W.str (txt (cmdsTx cs))].map dW)) := .lflat lsAt_i rfl
      have dw : Dw ((p5, MO.lst (List.replicate 2 [W.str (txt (cmdsTx cs))]).flatten) :: (p4, MO.lst [W.str (txt (cmdsTx cs))]) :: (p3, MO.lst [W.str (txt (cmdsTx cs)), W.str (txt (cmdsTx cs))]) :: (p2, MO.lst (ds.map Cmd.w)) :: (S3.at_ q ++ [(p1, MO.lst (cs.map Cmd.w)), (pl, MO.lst [W.int 3, W.int 20])])) (.ref p5) (.list ([W.str (txt (cmdsTx cs)), W.str (txt (cmdsTx cs))].map dW)) := .lflat lsAt_i rfl
      refine same_i dt dw ⟨by simp, fun x hx => ?_⟩ fun b hb => ?_
      · simp only [List.map_cons, List.map_nil, List.mem_cons, List.not_mem_nil, or_false, or_self] at hx
        subst hx
        rw [dW]
        exact trivial
      have hb' : b = true := hb.mpr rfl
      subst hb'
      (repeat (first | (simp only [h1, Int.zero_add, qIsN_n, qNotN_n, uIsi_r, nm_home, nm_fin, home_nm, fin_nm, sne_down_up, sne_down_right, sne_down_left, sne_down_home, sne_down_end, sne_up_down, sne_up_right, sne_up_left, sne_up_home, sne_up_end, sne_right_down, sne_right_up, sne_right_left, sne_right_home, sne_right_end, sne_left_down, sne_left_up, sne_left_right, sne_left_home, sne_left_end, sne_home_down, sne_home_up, sne_home_right, sne_home_left, sne_home_end, sne_end_down, sne_end_up, sne_end_right, sne_end_left, sne_end_home, sFor_eq, mLc_eq, uAdd_i, uAdd_s, uAdd_l, uMul_i, uMul_l, uEq_ii, uEq_ss, uEq_bb, uEq_nn, uEq_ni, uEq_in, uEq_ns, uEq_sn, uEq_is, uEq_si, uEq_rr, uEq_tt, uEq_rt, uEq_tr, uEq_tn, uEq_nt, uNe_ii, uNe_ss, uNe_bb, uNe_nn, uNe_ni, uNe_in, uNe_ns, uNe_sn, uNe_is, uNe_si, uNe_rr, uNe_tt, uNe_rt, uNe_tr, uNe_tn, uNe_nt, uIn_t, uIn_r, uIx_t, uIx_r, uIx_c, uIx_s, uLen_c, uLen_r, uLen_t, uLen_s, uMin_i, uMin_r, uMax_i, uMax_r, uInt_b, uInt_i, uInt_s, uList_r, uList_t, uIsi_n, uIsi_b, uIsi_i, uIsi_s, uIsi_t, uIsi_c, uSl_c, uSl_r, uSl_s, iOf_r, iOf_c, isNon_n, isNon_i, isNon_s, isNon_b, isNon_t, isNon_r, flat_s, flat_i, flat_b, flat_n, weq_ss, weq_ii, weq_ni, weq_in, weq_nn, kb_bb, kb_bi, kb_bs, kb_bl, kb_bt, kb_ib, kb_ii, kb_is, kb_il, kb_it, kb_sb, kb_si, kb_ss, kb_sl, kb_st, kb_lb, kb_li, kb_ls, kb_ll, kb_lt, kb_tb, kb_ti, kb_ts, kb_tl, kb_tt, kb_nb, kb_ni, kb_ns, kb_nl, kb_nt, nth0, nth1, nth2, nth3, mVar, mC, mBin, mUn, mNil, mCons, mCB, mTest, mAnd, mOr, mNot, mIf, mAndV, mOrV, mNotV, mTup, mLst, mChain, mCall, mCallK, reord, mYes, sNext, sSeq, sDrop, sRet, sRetN, sIf, sNever, sBreak, sCont, sAsg, sPar, sAug, sStore, gSet, gsNil, gsCons, gTupW, gStarW, qI2, qI, qNeg, qAbs, qStrI, iLst, iRgn, iRg2, iEnu, iTpl, mDT, mBM, mBM0, mSl, oNone, oSome, sMatch, mGo, mDNew, mDisp_eq, mPairs, EndsD, EndsW.turn, Rho.put, Rho.wipe, Rho.del, rho0, sp1_iff, sp2_iff, sp3_iff, sp4_iff, win, List.filterMap_cons, List.filterMap_nil, List.cons_append, List.nil_append, List.length_cons, List.length_nil, List.all_cons, List.all_nil, List.any_cons, List.any_nil, List.getElem?_cons_zero, List.getElem?_cons_succ, List.getElem?_nil, List.set_cons_zero, List.set_cons_succ, reduceIte, reduceCtorEq, Nat.reduceEqDiff, Nat.reduceAdd, Nat.reduceSub, Nat.reduceMul, Nat.reduceLeDiff, Int.reduceToNat, Int.cast_ofNat_Int, Int.natCast_zero, Int.natCast_one, Int.reduceLE, Int.reduceLT, Int.reduceNeg, Int.reduceAdd, Int.reduceSub, Int.reducePow, Int.reduceEq, Int.reduceNe, Int.toNat_zero, Int.toNat_one, Int.ofNat_eq_natCast, Nat.reducePow, Nat.le_refl, ge_iff_le, gt_iff_lt, List.mem_cons, List.not_mem_nil, or_false, false_or, or_true, true_or, Option.some.injEq, exists_eq_left', exists_eq_left, exists_eq', exists_eq, exists_and_left, exists_and_right, and_assoc, true_and, and_true, false_and, and_false, exists_false, exists_const, not_true_eq_false, not_false_eq_true, W.int.injEq, W.bl.injEq, W.str.injEq, W.ref.injEq, W.tup.injEq, List.cons.injEq, Bool.true_eq_false, Bool.false_eq_true, decide_eq_true_eq, decide_eq_false_iff_not, Bool.not_eq_true', Bool.not_eq_false', Bool.not_true, Bool.not_false, forall_const, true_implies, false_implies, implies_true, imp_self, decide_true, decide_false, Bool.and_true, Bool.true_and, Bool.and_false, Bool.false_and, Bool.or_false, Bool.or_true, Bool.false_or, Bool.true_or, beq_self_eq_true, pw_2_61, pw_10_18, pw_10_30, pw_10_29, pw_10_28, pw_10_40, pw_10_6, pw_10_9, lg_128, eq_self_iff_true, ne_eq, Int.not_lt, Int.not_le, Nat.not_lt, Nat.not_le, BEq.rfl]) | (refine ⟨_, (by first | exact lsAt_i | assumption), ?_⟩) | (refine ⟨mty_l, ?_⟩) | (refine ⟨mty_s, ?_⟩) | (refine ⟨_, ty_l (by first | exact lsAt_i | assumption), ?_⟩)))
      refine repr_cmds lsAt_i (by omega) hcs' ?_
      (repeat (first | (simp only [h1, Int.zero_add, qIsN_n, qNotN_n, uIsi_r, nm_home, nm_fin, home_nm, fin_nm, sne_down_up, sne_down_right, sne_down_left, sne_down_home, sne_down_end, sne_up_down, sne_up_right, sne_up_left, sne_up_home, sne_up_end, sne_right_down, sne_right_up, sne_right_left, sne_right_home, sne_right_end, sne_left_down, sne_left_up, sne_left_right, sne_left_home, sne_left_end, sne_home_down, sne_home_up, sne_home_right, sne_home_left, sne_home_end, sne_end_down, sne_end_up, sne_end_right, sne_end_left, sne_end_home, sFor_eq, mLc_eq, uAdd_i, uAdd_s, uAdd_l, uMul_i, uMul_l, uEq_ii, uEq_ss, uEq_bb, uEq_nn, uEq_ni, uEq_in, uEq_ns, uEq_sn, uEq_is, uEq_si, uEq_rr, uEq_tt, uEq_rt, uEq_tr, uEq_tn, uEq_nt, uNe_ii, uNe_ss, uNe_bb, uNe_nn, uNe_ni, uNe_in, uNe_ns, uNe_sn, uNe_is, uNe_si, uNe_rr, uNe_tt, uNe_rt, uNe_tr, uNe_tn, uNe_nt, uIn_t, uIn_r, uIx_t, uIx_r, uIx_c, uIx_s, uLen_c, uLen_r, uLen_t, uLen_s, uMin_i, uMin_r, uMax_i, uMax_r, uInt_b, uInt_i, uInt_s, uList_r, uList_t, uIsi_n, uIsi_b, uIsi_i, uIsi_s, uIsi_t, uIsi_c, uSl_c, uSl_r, uSl_s, iOf_r, iOf_c, isNon_n, isNon_i, isNon_s, isNon_b, isNon_t, isNon_r, flat_s, flat_i, flat_b, flat_n, weq_ss, weq_ii, weq_ni, weq_in, weq_nn, kb_bb, kb_bi, kb_bs, kb_bl, kb_bt, kb_ib, kb_ii, kb_is, kb_il, kb_it, kb_sb, kb_si, kb_ss, kb_sl, kb_st, kb_lb, kb_li, kb_ls, kb_ll, kb_lt, kb_tb, kb_ti, kb_ts, kb_tl, kb_tt, kb_nb, kb_ni, kb_ns, kb_nl, kb_nt, nth0, nth1, nth2, nth3, mVar, mC, mBin, mUn, mNil, mCons, mCB, mTest, mAnd, mOr, mNot, mIf, mAndV, mOrV, mNotV, mTup, mLst, mChain, mCall, mCallK, reord, mYes, sNext, sSeq, sDrop, sRet, sRetN, sIf, sNever, sBreak, sCont, sAsg, sPar, sAug, sStore, gSet, gsNil, gsCons, gTupW, gStarW, qI2, qI, qNeg, qAbs, qStrI, iLst, iRgn, iRg2, iEnu, iTpl, mDT, mBM, mBM0, mSl, oNone, oSome, sMatch, mGo, mDNew, mDisp_eq, mPairs, EndsD, EndsW.turn, Rho.put, Rho.wipe, Rho.del, rho0, sp1_iff, sp2_iff, sp3_iff, sp4_iff, win, List.filterMap_cons, List.filterMap_nil, List.cons_append, List.nil_append, List.length_cons, List.length_nil, List.all_cons, List.all_nil, List.any_cons, List.any_nil, List.getElem?_cons_zero, List.getElem?_cons_succ, List.getElem?_nil, List.set_cons_zero, List.set_cons_succ, reduceIte, reduceCtorEq, Nat.reduceEqDiff, Nat.reduceAdd, Nat.reduceSub, Nat.reduceMul, Nat.reduceLeDiff, Int.reduceToNat, Int.cast_ofNat_Int, Int.natCast_zero, Int.natCast_one, Int.reduceLE, Int.reduceLT, Int.reduceNeg, Int.reduceAdd, Int.reduceSub, Int.reducePow, Int.reduceEq, Int.reduceNe, Int.toNat_zero, Int.toNat_one, Int.ofNat_eq_natCast, Nat.reducePow, Nat.le_refl, ge_iff_le, gt_iff_lt, List.mem_cons, List.not_mem_nil, or_false, false_or, or_true, true_or, Option.some.injEq, exists_eq_left', exists_eq_left, exists_eq', exists_eq, exists_and_left, exists_and_right, and_assoc, true_and, and_true, false_and, and_false, exists_false, exists_const, not_true_eq_false, not_false_eq_true, W.int.injEq, W.bl.injEq, W.str.injEq, W.ref.injEq, W.tup.injEq, List.cons.injEq, Bool.true_eq_false, Bool.false_eq_true, decide_eq_true_eq, decide_eq_false_iff_not, Bool.not_eq_true', Bool.not_eq_false', Bool.not_true, Bool.not_false, forall_const, true_implies, false_implies, implies_true, imp_self, decide_true, decide_false, Bool.and_true, Bool.true_and, Bool.and_false, Bool.false_and, Bool.or_false, Bool.or_true, Bool.false_or, Bool.true_or, beq_self_eq_true, pw_2_61, pw_10_18, pw_10_30, pw_10_29, pw_10_28, pw_10_40, pw_10_6, pw_10_9, lg_128, eq_self_iff_true, ne_eq, Int.not_lt, Int.not_le, Nat.not_lt, Nat.not_le, BEq.rfl]) | (refine ⟨_, (by first | exact lsAt_i | assumption), ?_⟩) | (refine ⟨mty_l, ?_⟩) | (refine ⟨mty_s, ?_⟩) | (refine ⟨_, ty_l (by first | exact lsAt_i | assumption), ?_⟩)))
      refine cl_h ⟨_, rfl, p2, ds, rfl, lsAt_i, by omega, hds', ?_⟩
      (repeat (first | (simp only [h1, Int.zero_add, qIsN_n, qNotN_n, uIsi_r, nm_home, nm_fin, home_nm, fin_nm, sne_down_up, sne_down_right, sne_down_left, sne_down_home, sne_down_end, sne_up_down, sne_up_right, sne_up_left, sne_up_home, sne_up_end, sne_right_down, sne_right_up, sne_right_left, sne_right_home, sne_right_end, sne_left_down, sne_left_up, sne_left_right, sne_left_home, sne_left_end, sne_home_down, sne_home_up, sne_home_right, sne_home_left, sne_home_end, sne_end_down, sne_end_up, sne_end_right, sne_end_left, sne_end_home, sFor_eq, mLc_eq, uAdd_i, uAdd_s, uAdd_l, uMul_i, uMul_l, uEq_ii, uEq_ss, uEq_bb, uEq_nn, uEq_ni, uEq_in, uEq_ns, uEq_sn, uEq_is, uEq_si, uEq_rr, uEq_tt, uEq_rt, uEq_tr, uEq_tn, uEq_nt, uNe_ii, uNe_ss, uNe_bb, uNe_nn, uNe_ni, uNe_in, uNe_ns, uNe_sn, uNe_is, uNe_si, uNe_rr, uNe_tt, uNe_rt, uNe_tr, uNe_tn, uNe_nt, uIn_t, uIn_r, uIx_t, uIx_r, uIx_c, uIx_s, uLen_c, uLen_r, uLen_t, uLen_s, uMin_i, uMin_r, uMax_i, uMax_r, uInt_b, uInt_i, uInt_s, uList_r, uList_t, uIsi_n, uIsi_b, uIsi_i, uIsi_s, uIsi_t, uIsi_c, uSl_c, uSl_r, uSl_s, iOf_r, iOf_c, isNon_n, isNon_i, isNon_s, isNon_b, isNon_t, isNon_r, flat_s, flat_i, flat_b, flat_n, weq_ss, weq_ii, weq_ni, weq_in, weq_nn, kb_bb, kb_bi, kb_bs, kb_bl, kb_bt, kb_ib, kb_ii, kb_is, kb_il, kb_it, kb_sb, kb_si, kb_ss, kb_sl, kb_st, kb_lb, kb_li, kb_ls, kb_ll, kb_lt, kb_tb, kb_ti, kb_ts, kb_tl, kb_tt, kb_nb, kb_ni, kb_ns, kb_nl, kb_nt, nth0, nth1, nth2, nth3, mVar, mC, mBin, mUn, mNil, mCons, mCB, mTest, mAnd, mOr, mNot, mIf, mAndV, mOrV, mNotV, mTup, mLst, mChain, mCall, mCallK, reord, mYes, sNext, sSeq, sDrop, sRet, sRetN, sIf, sNever, sBreak, sCont, sAsg, sPar, sAug, sStore, gSet, gsNil, gsCons, gTupW, gStarW, qI2, qI, qNeg, qAbs, qStrI, iLst, iRgn, iRg2, iEnu, iTpl, mDT, mBM, mBM0, mSl, oNone, oSome, sMatch, mGo, mDNew, mDisp_eq, mPairs, EndsD, EndsW.turn, Rho.put, Rho.wipe, Rho.del, rho0, sp1_iff, sp2_iff, sp3_iff, sp4_iff, win, List.filterMap_cons, List.filterMap_nil, List.cons_append, List.nil_append, List.length_cons, List.length_nil, List.all_cons, List.all_nil, List.any_cons, List.any_nil, List.getElem?_cons_zero, List.getElem?_cons_succ, List.getElem?_nil, List.set_cons_zero, List.set_cons_succ, reduceIte, reduceCtorEq, Nat.reduceEqDiff, Nat.reduceAdd, Nat.reduceSub, Nat.reduceMul, Nat.reduceLeDiff, Int.reduceToNat, Int.cast_ofNat_Int, Int.natCast_zero, Int.natCast_one, Int.reduceLE, Int.reduceLT, Int.reduceNeg, Int.reduceAdd, Int.reduceSub, Int.reducePow, Int.reduceEq, Int.reduceNe, Int.toNat_zero, Int.toNat_one, Int.ofNat_eq_natCast, Nat.reducePow, Nat.le_refl, ge_iff_le, gt_iff_lt, List.mem_cons, List.not_mem_nil, or_false, false_or, or_true, true_or, Option.some.injEq, exists_eq_left', exists_eq_left, exists_eq', exists_eq, exists_and_left, exists_and_right, and_assoc, true_and, and_true, false_and, and_false, exists_false, exists_const, not_true_eq_false, not_false_eq_true, W.int.injEq, W.bl.injEq, W.str.injEq, W.ref.injEq, W.tup.injEq, List.cons.injEq, Bool.true_eq_false, Bool.false_eq_true, decide_eq_true_eq, decide_eq_false_iff_not, Bool.not_eq_true', Bool.not_eq_false', Bool.not_true, Bool.not_false, forall_const, true_implies, false_implies, implies_true, imp_self, decide_true, decide_false, Bool.and_true, Bool.true_and, Bool.and_false, Bool.false_and, Bool.or_false, Bool.or_true, Bool.false_or, Bool.true_or, beq_self_eq_true, pw_2_61, pw_10_18, pw_10_30, pw_10_29, pw_10_28, pw_10_40, pw_10_6, pw_10_9, lg_128, eq_self_iff_true, ne_eq, Int.not_lt, Int.not_le, Nat.not_lt, Nat.not_le, BEq.rfl]) | (refine ⟨_, (by first | exact lsAt_i | assumption), ?_⟩) | (refine ⟨mty_l, ?_⟩) | (refine ⟨mty_s, ?_⟩) | (refine ⟨_, ty_l (by first | exact lsAt_i | assumption), ?_⟩)))
      refine eqL_i (n := 1) (by decide) lsAt_i lsAt_i dok_cmds dok_cmds fun b hb => ?_
      have hbb : b = decide (txt (cmdsTx ds) = txt (cmdsTx cs)) := by
        refine dec_iff (hb.trans ⟨fun e => by rw [map_w_inj e], fun e => ?_⟩)
        rw [cmdsTx_inj hds' hcs' (txt_inj.mp e)]
      subst hbb
      (repeat (first | (simp only [h1, Int.zero_add, qIsN_n, qNotN_n, uIsi_r, nm_home, nm_fin, home_nm, fin_nm, sne_down_up, sne_down_right, sne_down_left, sne_down_home, sne_down_end, sne_up_down, sne_up_right, sne_up_left, sne_up_home, sne_up_end, sne_right_down, sne_right_up, sne_right_left, sne_right_home, sne_right_end, sne_left_down, sne_left_up, sne_left_right, sne_left_home, sne_left_end, sne_home_down, sne_home_up, sne_home_right, sne_home_left, sne_home_end, sne_end_down, sne_end_up, sne_end_right, sne_end_left, sne_end_home, sFor_eq, mLc_eq, uAdd_i, uAdd_s, uAdd_l, uMul_i, uMul_l, uEq_ii, uEq_ss, uEq_bb, uEq_nn, uEq_ni, uEq_in, uEq_ns, uEq_sn, uEq_is, uEq_si, uEq_rr, uEq_tt, uEq_rt, uEq_tr, uEq_tn, uEq_nt, uNe_ii, uNe_ss, uNe_bb, uNe_nn, uNe_ni, uNe_in, uNe_ns, uNe_sn, uNe_is, uNe_si, uNe_rr, uNe_tt, uNe_rt, uNe_tr, uNe_tn, uNe_nt, uIn_t, uIn_r, uIx_t, uIx_r, uIx_c, uIx_s, uLen_c, uLen_r, uLen_t, uLen_s, uMin_i, uMin_r, uMax_i, uMax_r, uInt_b, uInt_i, uInt_s, uList_r, uList_t, uIsi_n, uIsi_b, uIsi_i, uIsi_s, uIsi_t, uIsi_c, uSl_c, uSl_r, uSl_s, iOf_r, iOf_c, isNon_n, isNon_i, isNon_s, isNon_b, isNon_t, isNon_r, flat_s, flat_i, flat_b, flat_n, weq_ss, weq_ii, weq_ni, weq_in, weq_nn, kb_bb, kb_bi, kb_bs, kb_bl, kb_bt, kb_ib, kb_ii, kb_is, kb_il, kb_it, kb_sb, kb_si, kb_ss, kb_sl, kb_st, kb_lb, kb_li, kb_ls, kb_ll, kb_lt, kb_tb, kb_ti, kb_ts, kb_tl, kb_tt, kb_nb, kb_ni, kb_ns, kb_nl, kb_nt, nth0, nth1, nth2, nth3, mVar, mC, mBin, mUn, mNil, mCons, mCB, mTest, mAnd, mOr, mNot, mIf, mAndV, mOrV, mNotV, mTup, mLst, mChain, mCall, mCallK, reord, mYes, sNext, sSeq, sDrop, sRet, sRetN, sIf, sNever, sBreak, sCont, sAsg, sPar, sAug, sStore, gSet, gsNil, gsCons, gTupW, gStarW, qI2, qI, qNeg, qAbs, qStrI, iLst, iRgn, iRg2, iEnu, iTpl, mDT, mBM, mBM0, mSl, oNone, oSome, sMatch, mGo, mDNew, mDisp_eq, mPairs, EndsD, EndsW.turn, Rho.put, Rho.wipe, Rho.del, rho0, sp1_iff, sp2_iff, sp3_iff, sp4_iff, win, List.filterMap_cons, List.filterMap_nil, List.cons_append, List.nil_append, List.length_cons, List.length_nil, List.all_cons, List.all_nil, List.any_cons, List.any_nil, List.getElem?_cons_zero, List.getElem?_cons_succ, List.getElem?_nil, List.set_cons_zero, List.set_cons_succ, reduceIte, reduceCtorEq, Nat.reduceEqDiff, Nat.reduceAdd, Nat.reduceSub, Nat.reduceMul, Nat.reduceLeDiff, Int.reduceToNat, Int.cast_ofNat_Int, Int.natCast_zero, Int.natCast_one, Int.reduceLE, Int.reduceLT, Int.reduceNeg, Int.reduceAdd, Int.reduceSub, Int.reducePow, Int.reduceEq, Int.reduceNe, Int.toNat_zero, Int.toNat_one, Int.ofNat_eq_natCast, Nat.reducePow, Nat.le_refl, ge_iff_le, gt_iff_lt, List.mem_cons, List.not_mem_nil, or_false, false_or, or_true, true_or, Option.some.injEq, exists_eq_left', exists_eq_left, exists_eq', exists_eq, exists_and_left, exists_and_right, and_assoc, true_and, and_true, false_and, and_false, exists_false, exists_const, not_true_eq_false, not_false_eq_true, W.int.injEq, W.bl.injEq, W.str.injEq, W.ref.injEq, W.tup.injEq, List.cons.injEq, Bool.true_eq_false, Bool.false_eq_true, decide_eq_true_eq, decide_eq_false_iff_not, Bool.not_eq_true', Bool.not_eq_false', Bool.not_true, Bool.not_false, forall_const, true_implies, false_implies, implies_true, imp_self, decide_true, decide_false, Bool.and_true, Bool.true_and, Bool.and_false, Bool.false_and, Bool.or_false, Bool.or_true, Bool.false_or, Bool.true_or, beq_self_eq_true, pw_2_61, pw_10_18, pw_10_30, pw_10_29, pw_10_28, pw_10_40, pw_10_6, pw_10_9, lg_128, eq_self_iff_true, ne_eq, Int.not_lt, Int.not_le, Nat.not_lt, Nat.not_le, BEq.rfl]) | (refine ⟨_, (by first | exact lsAt_i | assumption), ?_⟩) | (refine ⟨mty_l, ?_⟩) | (refine ⟨mty_s, ?_⟩) | (refine ⟨_, ty_l (by first | exact lsAt_i | assumption), ?_⟩)))
      exact ⟨_, inferInstance, S3, h1, ok3.up (by omega), rfl⟩
    · rintro ρ C ⟨S, ⟨h1, ok, rfl⟩⟩
      dsimp only at ok
      exact ⟨_, .here, S, h1, ok.up (by omega), rfl⟩
  · rintro ρ C ⟨S, ⟨h1, ok, rfl⟩⟩
    (repeat (first | (simp only [h1, Int.zero_add, qIsN_n, qNotN_n, uIsi_r, nm_home, nm_fin, home_nm, fin_nm, sne_down_up, sne_down_right, sne_down_left, sne_down_home, sne_down_end, sne_up_down, sne_up_right, sne_up_left, sne_up_home, sne_up_end, sne_right_down, sne_right_up, sne_right_left, sne_right_home, sne_right_end, sne_left_down, sne_left_up, sne_left_right, sne_left_home, sne_left_end, sne_home_down, sne_home_up, sne_home_right, sne_home_left, sne_home_end, sne_end_down, sne_end_up, sne_end_right, sne_end_left, sne_end_home, sFor_eq, mLc_eq, uAdd_i, uAdd_s, uAdd_l, uMul_i, uMul_l, uEq_ii, uEq_ss, uEq_bb, uEq_nn, uEq_ni, uEq_in, uEq_ns, uEq_sn, uEq_is, uEq_si, uEq_rr, uEq_tt, uEq_rt, uEq_tr, uEq_tn, uEq_nt, uNe_ii, uNe_ss, uNe_bb, uNe_nn, uNe_ni, uNe_in, uNe_ns, uNe_sn, uNe_is, uNe_si, uNe_rr, uNe_tt, uNe_rt, uNe_tr, uNe_tn, uNe_nt, uIn_t, uIn_r, uIx_t, uIx_r, uIx_c, uIx_s, uLen_c, uLen_r, uLen_t, uLen_s, uMin_i, uMin_r, uMax_i, uMax_r, uInt_b, uInt_i, uInt_s, uList_r, uList_t, uIsi_n, uIsi_b, uIsi_i, uIsi_s, uIsi_t, uIsi_c, uSl_c, uSl_r, uSl_s, iOf_r, iOf_c, isNon_n, isNon_i, isNon_s, isNon_b, isNon_t, isNon_r, flat_s, flat_i, flat_b, flat_n, weq_ss, weq_ii, weq_ni, weq_in, weq_nn, kb_bb, kb_bi, kb_bs, kb_bl, kb_bt, kb_ib, kb_ii, kb_is, kb_il, kb_it, kb_sb, kb_si, kb_ss, kb_sl, kb_st, kb_lb, kb_li, kb_ls, kb_ll, kb_lt, kb_tb, kb_ti, kb_ts, kb_tl, kb_tt, kb_nb, kb_ni, kb_ns, kb_nl, kb_nt, nth0, nth1, nth2, nth3, mVar, mC, mBin, mUn, mNil, mCons, mCB, mTest, mAnd, mOr, mNot, mIf, mAndV, mOrV, mNotV, mTup, mLst, mChain, mCall, mCallK, reord, mYes, sNext, sSeq, sDrop, sRet, sRetN, sIf, sNever, sBreak, sCont, sAsg, sPar, sAug, sStore, gSet, gsNil, gsCons, gTupW, gStarW, qI2, qI, qNeg, qAbs, qStrI, iLst, iRgn, iRg2, iEnu, iTpl, mDT, mBM, mBM0, mSl, oNone, oSome, sMatch, mGo, mDNew, mDisp_eq, mPairs, EndsD, EndsW.turn, Rho.put, Rho.wipe, Rho.del, rho0, sp1_iff, sp2_iff, sp3_iff, sp4_iff, win, List.filterMap_cons, List.filterMap_nil, List.cons_append, List.nil_append, List.length_cons, List.length_nil, List.all_cons, List.all_nil, List.any_cons, List.any_nil, List.getElem?_cons_zero, List.getElem?_cons_succ, List.getElem?_nil, List.set_cons_zero, List.set_cons_succ, reduceIte, reduceCtorEq, Nat.reduceEqDiff, Nat.reduceAdd, Nat.reduceSub, Nat.reduceMul, Nat.reduceLeDiff, Int.reduceToNat, Int.cast_ofNat_Int, Int.natCast_zero, Int.natCast_one, Int.reduceLE, Int.reduceLT, Int.reduceNeg, Int.reduceAdd, Int.reduceSub, Int.reducePow, Int.reduceEq, Int.reduceNe, Int.toNat_zero, Int.toNat_one, Int.ofNat_eq_natCast, Nat.reducePow, Nat.le_refl, ge_iff_le, gt_iff_lt, List.mem_cons, List.not_mem_nil, or_false, false_or, or_true, true_or, Option.some.injEq, exists_eq_left', exists_eq_left, exists_eq', exists_eq, exists_and_left, exists_and_right, and_assoc, true_and, and_true, false_and, and_false, exists_false, exists_const, not_true_eq_false, not_false_eq_true, W.int.injEq, W.bl.injEq, W.str.injEq, W.ref.injEq, W.tup.injEq, List.cons.injEq, Bool.true_eq_false, Bool.false_eq_true, decide_eq_true_eq, decide_eq_false_iff_not, Bool.not_eq_true', Bool.not_eq_false', Bool.not_true, Bool.not_false, forall_const, true_implies, false_implies, implies_true, imp_self, decide_true, decide_false, Bool.and_true, Bool.true_and, Bool.and_false, Bool.false_and, Bool.or_false, Bool.or_true, Bool.false_or, Bool.true_or, beq_self_eq_true, pw_2_61, pw_10_18, pw_10_30, pw_10_29, pw_10_28, pw_10_40, pw_10_6, pw_10_9, lg_128, eq_self_iff_true, ne_eq, Int.not_lt, Int.not_le, Nat.not_lt, Nat.not_le, BEq.rfl]) | (refine ⟨_, (by first | exact lsAt_i | assumption), ?_⟩) | (refine ⟨mty_l, ?_⟩) | (refine ⟨mty_s, ?_⟩) | (refine ⟨_, ty_l (by first | exact lsAt_i | assumption), ?_⟩)))
    intro p1
    refine cl_h ⟨_, rfl, p1, [], rfl, lsAt_i, by decide, fun c hc => (nomatch hc), ?_⟩
    (repeat (first | (simp only [h1, Int.zero_add, qIsN_n, qNotN_n, uIsi_r, nm_home, nm_fin, home_nm, fin_nm, sne_down_up, sne_down_right, sne_down_left, sne_down_home, sne_down_end, sne_up_down, sne_up_right, sne_up_left, sne_up_home, sne_up_end, sne_right_down, sne_right_up, sne_right_left, sne_right_home, sne_right_end, sne_left_down, sne_left_up, sne_left_right, sne_left_home, sne_left_end, sne_home_down, sne_home_up, sne_home_right, sne_home_left, sne_home_end, sne_end_down, sne_end_up, sne_end_right, sne_end_left, sne_end_home, sFor_eq, mLc_eq, uAdd_i, uAdd_s, uAdd_l, uMul_i, uMul_l, uEq_ii, uEq_ss, uEq_bb, uEq_nn, uEq_ni, uEq_in, uEq_ns, uEq_sn, uEq_is, uEq_si, uEq_rr, uEq_tt, uEq_rt, uEq_tr, uEq_tn, uEq_nt, uNe_ii, uNe_ss, uNe_bb, uNe_nn, uNe_ni, uNe_in, uNe_ns, uNe_sn, uNe_is, uNe_si, uNe_rr, uNe_tt, uNe_rt, uNe_tr, uNe_tn, uNe_nt, uIn_t, uIn_r, uIx_t, uIx_r, uIx_c, uIx_s, uLen_c, uLen_r, uLen_t, uLen_s, uMin_i, uMin_r, uMax_i, uMax_r, uInt_b, uInt_i, uInt_s, uList_r, uList_t, uIsi_n, uIsi_b, uIsi_i, uIsi_s, uIsi_t, uIsi_c, uSl_c, uSl_r, uSl_s, iOf_r, iOf_c, isNon_n, isNon_i, isNon_s, isNon_b, isNon_t, isNon_r, flat_s, flat_i, flat_b, flat_n, weq_ss, weq_ii, weq_ni, weq_in, weq_nn, kb_bb, kb_bi, kb_bs, kb_bl, kb_bt, kb_ib, kb_ii, kb_is, kb_il, kb_it, kb_sb, kb_si, kb_ss, kb_sl, kb_st, kb_lb, kb_li, kb_ls, kb_ll, kb_lt, kb_tb, kb_ti, kb_ts, kb_tl, kb_tt, kb_nb, kb_ni, kb_ns, kb_nl, kb_nt, nth0, nth1, nth2, nth3, mVar, mC, mBin, mUn, mNil, mCons, mCB, mTest, mAnd, mOr, mNot, mIf, mAndV, mOrV, mNotV, mTup, mLst, mChain, mCall, mCallK, reord, mYes, sNext, sSeq, sDrop, sRet, sRetN, sIf, sNever, sBreak, sCont, sAsg, sPar, sAug, sStore, gSet, gsNil, gsCons, gTupW, gStarW, qI2, qI, qNeg, qAbs, qStrI, iLst, iRgn, iRg2, iEnu, iTpl, mDT, mBM, mBM0, mSl, oNone, oSome, sMatch, mGo, mDNew, mDisp_eq, mPairs, EndsD, EndsW.turn, Rho.put, Rho.wipe, Rho.del, rho0, sp1_iff, sp2_iff, sp3_iff, sp4_iff, win, List.filterMap_cons, List.filterMap_nil, List.cons_append, List.nil_append, List.length_cons, List.length_nil, List.all_cons, List.all_nil, List.any_cons, List.any_nil, List.getElem?_cons_zero, List.getElem?_cons_succ, List.getElem?_nil, List.set_cons_zero, List.set_cons_succ, reduceIte, reduceCtorEq, Nat.reduceEqDiff, Nat.reduceAdd, Nat.reduceSub, Nat.reduceMul, Nat.reduceLeDiff, Int.reduceToNat, Int.cast_ofNat_Int, Int.natCast_zero, Int.natCast_one, Int.reduceLE, Int.reduceLT, Int.reduceNeg, Int.reduceAdd, Int.reduceSub, Int.reducePow, Int.reduceEq, Int.reduceNe, Int.toNat_zero, Int.toNat_one, Int.ofNat_eq_natCast, Nat.reducePow, Nat.le_refl, ge_iff_le, gt_iff_lt, List.mem_cons, List.not_mem_nil, or_false, false_or, or_true, true_or, Option.some.injEq, exists_eq_left', exists_eq_left, exists_eq', exists_eq, exists_and_left, exists_and_right, and_assoc, true_and, and_true, false_and, and_false, exists_false, exists_const, not_true_eq_false, not_false_eq_true, W.int.injEq, W.bl.injEq, W.str.injEq, W.ref.injEq, W.tup.injEq, List.cons.injEq, Bool.true_eq_false, Bool.false_eq_true, decide_eq_true_eq, decide_eq_false_iff_not, Bool.not_eq_true', Bool.not_eq_false', Bool.not_true, Bool.not_false, forall_const, true_implies, false_implies, implies_true, imp_self, decide_true, decide_false, Bool.and_true, Bool.true_and, Bool.and_false, Bool.false_and, Bool.or_false, Bool.or_true, Bool.false_or, Bool.true_or, beq_self_eq_true, pw_2_61, pw_10_18, pw_10_30, pw_10_29, pw_10_28, pw_10_40, pw_10_6, pw_10_9, lg_128, eq_self_iff_true, ne_eq, Int.not_lt, Int.not_le, Nat.not_lt, Nat.not_le, BEq.rfl]) | (refine ⟨_, (by first | exact lsAt_i | assumption), ?_⟩) | (refine ⟨mty_l, ?_⟩) | (refine ⟨mty_s, ?_⟩) | (refine ⟨_, ty_l (by first | exact lsAt_i | assumption), ?_⟩)))
    refine ⟨fun e => ?_, fun e => absurd (by decide) e⟩
    intro p2
    refine cl_h ⟨_, rfl, p2, [.go .down 3, .home, .go .right 10], rfl, lsAt_i, by decide, fun c hc => ?_, ?_⟩
    · simp only [List.mem_cons, List.not_mem_nil, or_false] at hc
      rcases hc with rfl | rfl | rfl
      · exact ⟨by decide, by decide⟩
      · exact trivial
      · exact ⟨by decide, by decide⟩
    (repeat (first | (simp only [h1, Int.zero_add, qIsN_n, qNotN_n, uIsi_r, nm_home, nm_fin, home_nm, fin_nm, sne_down_up, sne_down_right, sne_down_left, sne_down_home, sne_down_end, sne_up_down, sne_up_right, sne_up_left, sne_up_home, sne_up_end, sne_right_down, sne_right_up, sne_right_left, sne_right_home, sne_right_end, sne_left_down, sne_left_up, sne_left_right, sne_left_home, sne_left_end, sne_home_down, sne_home_up, sne_home_right, sne_home_left, sne_home_end, sne_end_down, sne_end_up, sne_end_right, sne_end_left, sne_end_home, sFor_eq, mLc_eq, uAdd_i, uAdd_s, uAdd_l, uMul_i, uMul_l, uEq_ii, uEq_ss, uEq_bb, uEq_nn, uEq_ni, uEq_in, uEq_ns, uEq_sn, uEq_is, uEq_si, uEq_rr, uEq_tt, uEq_rt, uEq_tr, uEq_tn, uEq_nt, uNe_ii, uNe_ss, uNe_bb, uNe_nn, uNe_ni, uNe_in, uNe_ns, uNe_sn, uNe_is, uNe_si, uNe_rr, uNe_tt, uNe_rt, uNe_tr, uNe_tn, uNe_nt, uIn_t, uIn_r, uIx_t, uIx_r, uIx_c, uIx_s, uLen_c, uLen_r, uLen_t, uLen_s, uMin_i, uMin_r, uMax_i, uMax_r, uInt_b, uInt_i, uInt_s, uList_r, uList_t, uIsi_n, uIsi_b, uIsi_i, uIsi_s, uIsi_t, uIsi_c, uSl_c, uSl_r, uSl_s, iOf_r, iOf_c, isNon_n, isNon_i, isNon_s, isNon_b, isNon_t, isNon_r, flat_s, flat_i, flat_b, flat_n, weq_ss, weq_ii, weq_ni, weq_in, weq_nn, kb_bb, kb_bi, kb_bs, kb_bl, kb_bt, kb_ib, kb_ii, kb_is, kb_il, kb_it, kb_sb, kb_si, kb_ss, kb_sl, kb_st, kb_lb, kb_li, kb_ls, kb_ll, kb_lt, kb_tb, kb_ti, kb_ts, kb_tl, kb_tt, kb_nb, kb_ni, kb_ns, kb_nl, kb_nt, nth0, nth1, nth2, nth3, mVar, mC, mBin, mUn, mNil, mCons, mCB, mTest, mAnd, mOr, mNot, mIf, mAndV, mOrV, mNotV, mTup, mLst, mChain, mCall, mCallK, reord, mYes, sNext, sSeq, sDrop, sRet, sRetN, sIf, sNever, sBreak, sCont, sAsg, sPar, sAug, sStore, gSet, gsNil, gsCons, gTupW, gStarW, qI2, qI, qNeg, qAbs, qStrI, iLst, iRgn, iRg2, iEnu, iTpl, mDT, mBM, mBM0, mSl, oNone, oSome, sMatch, mGo, mDNew, mDisp_eq, mPairs, EndsD, EndsW.turn, Rho.put, Rho.wipe, Rho.del, rho0, sp1_iff, sp2_iff, sp3_iff, sp4_iff, win, List.filterMap_cons, List.filterMap_nil, List.cons_append, List.nil_append, List.length_cons, List.length_nil, List.all_cons, List.all_nil, List.any_cons, List.any_nil, List.getElem?_cons_zero, List.getElem?_cons_succ, List.getElem?_nil, List.set_cons_zero, List.set_cons_succ, reduceIte, reduceCtorEq, Nat.reduceEqDiff, Nat.reduceAdd, Nat.reduceSub, Nat.reduceMul, Nat.reduceLeDiff, Int.reduceToNat, Int.cast_ofNat_Int, Int.natCast_zero, Int.natCast_one, Int.reduceLE, Int.reduceLT, Int.reduceNeg, Int.reduceAdd, Int.reduceSub, Int.reducePow, Int.reduceEq, Int.reduceNe, Int.toNat_zero, Int.toNat_one, Int.ofNat_eq_natCast, Nat.reducePow, Nat.le_refl, ge_iff_le, gt_iff_lt, List.mem_cons, List.not_mem_nil, or_false, false_or, or_true, true_or, Option.some.injEq, exists_eq_left', exists_eq_left, exists_eq', exists_eq, exists_and_left, exists_and_right, and_assoc, true_and, and_true, false_and, and_false, exists_false, exists_const, not_true_eq_false, not_false_eq_true, W.int.injEq, W.bl.injEq, W.str.injEq, W.ref.injEq, W.tup.injEq, List.cons.injEq, Bool.true_eq_false, Bool.false_eq_true, decide_eq_true_eq, decide_eq_false_iff_not, Bool.not_eq_true', Bool.not_eq_false', Bool.not_true, Bool.not_false, forall_const, true_implies, false_implies, implies_true, imp_self, decide_true, decide_false, Bool.and_true, Bool.true_and, Bool.and_false, Bool.false_and, Bool.or_false, Bool.or_true, Bool.false_or, Bool.true_or, beq_self_eq_true, pw_2_61, pw_10_18, pw_10_30, pw_10_29, pw_10_28, pw_10_40, pw_10_6, pw_10_9, lg_128, eq_self_iff_true, ne_eq, Int.not_lt, Int.not_le, Nat.not_lt, Nat.not_le, BEq.rfl]) | (refine ⟨_, (by first | exact lsAt_i | assumption), ?_⟩) | (refine ⟨mty_l, ?_⟩) | (refine ⟨mty_s, ?_⟩) | (refine ⟨_, ty_l (by first | exact lsAt_i | assumption), ?_⟩)))
    have e2 : txt (cmdsTx [.go .down 3, .home, .go .right 10]) = Str.ofString "3D H 10R" := by decide +kernel
    (repeat (first | (simp only [e2, Int.zero_add, qIsN_n, qNotN_n, uIsi_r, nm_home, nm_fin, home_nm, fin_nm, sne_down_up, sne_down_right, sne_down_left, sne_down_home, sne_down_end, sne_up_down, sne_up_right, sne_up_left, sne_up_home, sne_up_end, sne_right_down, sne_right_up, sne_right_left, sne_right_home, sne_right_end, sne_left_down, sne_left_up, sne_left_right, sne_left_home, sne_left_end, sne_home_down, sne_home_up, sne_home_right, sne_home_left, sne_home_end, sne_end_down, sne_end_up, sne_end_right, sne_end_left, sne_end_home, sFor_eq, mLc_eq, uAdd_i, uAdd_s, uAdd_l, uMul_i, uMul_l, uEq_ii, uEq_ss, uEq_bb, uEq_nn, uEq_ni, uEq_in, uEq_ns, uEq_sn, uEq_is, uEq_si, uEq_rr, uEq_tt, uEq_rt, uEq_tr, uEq_tn, uEq_nt, uNe_ii, uNe_ss, uNe_bb, uNe_nn, uNe_ni, uNe_in, uNe_ns, uNe_sn, uNe_is, uNe_si, uNe_rr, uNe_tt, uNe_rt, uNe_tr, uNe_tn, uNe_nt, uIn_t, uIn_r, uIx_t, uIx_r, uIx_c, uIx_s, uLen_c, uLen_r, uLen_t, uLen_s, uMin_i, uMin_r, uMax_i, uMax_r, uInt_b, uInt_i, uInt_s, uList_r, uList_t, uIsi_n, uIsi_b, uIsi_i, uIsi_s, uIsi_t, uIsi_c, uSl_c, uSl_r, uSl_s, iOf_r, iOf_c, isNon_n, isNon_i, isNon_s, isNon_b, isNon_t, isNon_r, flat_s, flat_i, flat_b, flat_n, weq_ss, weq_ii, weq_ni, weq_in, weq_nn, kb_bb, kb_bi, kb_bs, kb_bl, kb_bt, kb_ib, kb_ii, kb_is, kb_il, kb_it, kb_sb, kb_si, kb_ss, kb_sl, kb_st, kb_lb, kb_li, kb_ls, kb_ll, kb_lt, kb_tb, kb_ti, kb_ts, kb_tl, kb_tt, kb_nb, kb_ni, kb_ns, kb_nl, kb_nt, nth0, nth1, nth2, nth3, mVar, mC, mBin, mUn, mNil, mCons, mCB, mTest, mAnd, mOr, mNot, mIf, mAndV, mOrV, mNotV, mTup, mLst, mChain, mCall, mCallK, reord, mYes, sNext, sSeq, sDrop, sRet, sRetN, sIf, sNever, sBreak, sCont, sAsg, sPar, sAug, sStore, gSet, gsNil, gsCons, gTupW, gStarW, qI2, qI, qNeg, qAbs, qStrI, iLst, iRgn, iRg2, iEnu, iTpl, mDT, mBM, mBM0, mSl, oNone, oSome, sMatch, mGo, mDNew, mDisp_eq, mPairs, EndsD, EndsW.turn, Rho.put, Rho.wipe, Rho.del, rho0, sp1_iff, sp2_iff, sp3_iff, sp4_iff, win, List.filterMap_cons, List.filterMap_nil, List.cons_append, List.nil_append, List.length_cons, List.length_nil, List.all_cons, List.all_nil, List.any_cons, List.any_nil, List.getElem?_cons_zero, List.getElem?_cons_succ, List.getElem?_nil, List.set_cons_zero, List.set_cons_succ, reduceIte, reduceCtorEq, Nat.reduceEqDiff, Nat.reduceAdd, Nat.reduceSub, Nat.reduceMul, Nat.reduceLeDiff, Int.reduceToNat, Int.cast_ofNat_Int, Int.natCast_zero, Int.natCast_one, Int.reduceLE, Int.reduceLT, Int.reduceNeg, Int.reduceAdd, Int.reduceSub, Int.reducePow, Int.reduceEq, Int.reduceNe, Int.toNat_zero, Int.toNat_one, Int.ofNat_eq_natCast, Nat.reducePow, Nat.le_refl, ge_iff_le, gt_iff_lt, List.mem_cons, List.not_mem_nil, or_false, false_or, or_true, true_or, Option.some.injEq, exists_eq_left', exists_eq_left, exists_eq', exists_eq, exists_and_left, exists_and_right, and_assoc, true_and, and_true, false_and, and_false, exists_false, exists_const, not_true_eq_false, not_false_eq_true, W.int.injEq, W.bl.injEq, W.str.injEq, W.ref.injEq, W.tup.injEq, List.cons.injEq, Bool.true_eq_false, Bool.false_eq_true, decide_eq_true_eq, decide_eq_false_iff_not, Bool.not_eq_true', Bool.not_eq_false', Bool.not_true, Bool.not_false, forall_const, true_implies, false_implies, implies_true, imp_self, decide_true, decide_false, Bool.and_true, Bool.true_and, Bool.and_false, Bool.false_and, Bool.or_false, Bool.or_true, Bool.false_or, Bool.true_or, beq_self_eq_true, pw_2_61, pw_10_18, pw_10_30, pw_10_29, pw_10_28, pw_10_40, pw_10_6, pw_10_9, lg_128, eq_self_iff_true, ne_eq, Int.not_lt, Int.not_le, Nat.not_lt, Nat.not_le, BEq.rfl]) | (refine ⟨_, (by first | exact lsAt_i | assumption), ?_⟩) | (refine ⟨mty_l, ?_⟩) | (refine ⟨mty_s, ?_⟩) | (refine ⟨_, ty_l (by first | exact lsAt_i | assumption), ?_⟩)))
    exact ⟨[], inferInstance, k⟩
end SL
namespace SL
open PySem PySem.Spec PyProof.Rows L2
def topS (i : Nat) : Stmt := PySem.Challenge.pw_goalcolumn_k40_texts_shown.main.body.getD i (.Pass ⟨0, 0, 0, 0⟩)
abbrev s_show_command : Stmt := topS 3
theorem sc_show_command : FnScope ["command", "name", "numbers", "number"] ["command"] (defScope s_show_command) := ⟨rfl, rfl, rfl, by decide +kernel, rfl, by decide +kernel, by decide +kernel⟩
abbrev s_show_commands : Stmt := topS 4
theorem sc_show_commands : FnScope ["commands", "command"] ["commands"] (defScope s_show_commands) := ⟨rfl, rfl, rfl, by decide +kernel, rfl, by decide +kernel, by decide +kernel⟩
abbrev s__law_source : Stmt := topS 6
theorem sc__law_source : FnScope ["script", "mix", "digits", "cell", "size"] ["script"] (defScope s__law_source) := ⟨rfl, rfl, rfl, by decide +kernel, rfl, by decide +kernel, by decide +kernel⟩
abbrev s__law_draw : Stmt := topS 7
theorem sc__law_draw : FnScope ["source", "many", "drawn", "mixed"] ["source", "many"] (defScope s__law_draw) := ⟨rfl, rfl, rfl, by decide +kernel, rfl, by decide +kernel, by decide +kernel⟩
abbrev s__law_same : Stmt := topS 8
theorem sc__law_same : FnScope ["found", "wanted", "k"] ["found", "wanted"] (defScope s__law_same) := ⟨rfl, rfl, rfl, by decide +kernel, rfl, by decide +kernel, by decide +kernel⟩
abbrev s__law_number : Stmt := topS 9
theorem sc__law_number : FnScope ["source"] ["source"] (defScope s__law_number) := ⟨rfl, rfl, rfl, by decide +kernel, rfl, by decide +kernel, by decide +kernel⟩
abbrev s__law_command : Stmt := topS 10
theorem sc__law_command : FnScope ["source", "name"] ["source"] (defScope s__law_command) := ⟨rfl, rfl, rfl, by decide +kernel, rfl, by decide +kernel, by decide +kernel⟩
abbrev s__law_commands : Stmt := topS 11
theorem sc__law_commands : FnScope ["source", "many", "time"] ["source", "many"] (defScope s__law_commands) := ⟨rfl, rfl, rfl, by decide +kernel, rfl, by decide +kernel, by decide +kernel⟩
abbrev s__law_written : Stmt := topS 12
theorem sc__law_written : FnScope ["moves", "found", "command", "letter"] ["moves"] (defScope s__law_written) := ⟨rfl, rfl, rfl, by decide +kernel, rfl, by decide +kernel, by decide +kernel⟩
abbrev s_law : Stmt := topS 13
theorem sc_law : FnScope ["script", "source", "k", "turn", "one", "other", "saved", "told"] ["script"] (defScope s_law) := ⟨rfl, rfl, rfl, by decide +kernel, rfl, by decide +kernel, by decide +kernel⟩
structure Top (K : PySem.W.Frag) (w : World) (mg : Str → Option Value) : Prop where
  h_show_command : Has K mg "show_command" s_show_command
  h_show_commands : Has K mg "show_commands" s_show_commands
  h__law_source : Has K mg "_law_source" s__law_source
  h__law_draw : Has K mg "_law_draw" s__law_draw
  h__law_same : Has K mg "_law_same" s__law_same
  h__law_number : Has K mg "_law_number" s__law_number
  h__law_command : Has K mg "_law_command" s__law_command
  h__law_commands : Has K mg "_law_commands" s__law_commands
  h__law_written : Has K mg "_law_written" s__law_written
  h_law : Has K mg "law" s_law
  n_bool : mg "bool" = none
  n_int : mg "int" = none
  n_isinstance : mg "isinstance" = none
  n_len : mg "len" = none
  n_list : mg "list" = none
  n_max : mg "max" = none
  n_min : mg "min" = none
  n_range : mg "range" = none
  n_repr : mg "repr" = none
  n_str : mg "str" = none
  n_tuple : mg "tuple" = none
  g_LETTERS : HasD K w mg "LETTERS" d_LETTERS
  g_NOTHING : ∃ t, mg "NOTHING" = some (.str "none" t)
section
variable {P : Program} {w : World} {K : PySem.W.Frag} {mg : Str → Option Value} {base : Heap}
set_option maxHeartbeats 4000000 in
theorem ok_show_command (T : Top K w mg) : Cal P w K mg base 1 "show_command" sp_show_command kb_show_command :=
  okC T.h_show_command sc_show_command (fun _ _ _ _ _ _ us hl => match us, hl with | [_], _ => rfl)
    (fun t ht => (nomatch ht))
    len_show_command (fun f cdv A outer s H E hr hgu =>
    qss_cons (qs_asg (qe_var 0) (qg_star rfl (qgs_cons (qg_name 1 sc_show_command.nd) (qgs_consStar (qg_name 2 sc_show_command.nd) (qgs_nil))))) (qss_one (qs_ret (qe_bin op_addU lk_addU (qe_bm PySem.F.plainAttrs_str PySem.F.slot_str_join PySem.F.type_str_join mt_join lk_join (qe_str) (qa_cons (qe_lc [("number", 3)] rfl sc_show_command.nd (qi_lst (qe_var 2)) (blkOf (by rfl)) (fun s H C cl fp => qg_name 3 sc_show_command.nd) (fun s H C cl fp => qts_nil) (fun s H C cl fp => qe_callTy call_str_int lk_strI (by rfl) T.n_str bt_str (qa_cons (qe_var 3) (qa_nil)))) (qa_nil))) (qe_dt T.g_LETTERS (qe_var 1) (fun _ _ => rfl)))))) pure_show_command
theorem c_show_command (T : Top K w mg) : Cal P w K mg base 1 "show_command" (cl sp_show_command) kb_show_command := (ok_show_command T ).close
set_option maxHeartbeats 4000000 in
theorem ok_show_commands (T : Top K w mg) (c_show_command : Cal P w K mg base 1 "show_command" (cl sp_show_command) kb_show_command) : Cal P w K mg base 2 "show_commands" sp_show_commands kb_show_commands :=
  okC T.h_show_commands sc_show_commands (fun _ _ _ _ _ _ us hl => match us, hl with | [_], _ => rfl)
    (fun t ht => by simp only [kb_show_commands, List.mem_cons, List.not_mem_nil, or_false] at ht; subst ht; exact fun kV doc pm an cdv ct s us ws h1 h2 => match us, ws, h1, h2 with | [], [_], _, _ => .of_eq rfl)
    len_show_commands (fun f cdv A outer s H E hr hgu =>
    qss_one (qs_ret (qe_if (qt_cmp (op_neU hr.units) lk_neU (qe_var 0) (qe_lst (qa_nil)) (nomark _)) (qe_bm PySem.F.plainAttrs_str PySem.F.slot_str_join PySem.F.type_str_join mt_join lk_join (qe_str) (qa_cons (qe_lc [("command", 1)] rfl sc_show_commands.nd (qi_lst (qe_var 0)) (blkOf (by rfl)) (fun s H C cl fp => qg_name 1 sc_show_commands.nd) (fun s H C cl fp => qts_nil) (fun s H C cl fp => qe_c c_show_command (by decide) hr hgu (qa_cons (qe_var 1) (qa_nil)))) (qa_nil))) (qe_gstr T.g_NOTHING)))) pure_show_commands
theorem c_show_commands (T : Top K w mg) : Cal P w K mg base 2 "show_commands" (cl sp_show_commands) kb_show_commands := (ok_show_commands T (c_show_command T)).close
set_option maxHeartbeats 4000000 in
theorem ok__law_source (T : Top K w mg) : Cal P w K mg base 1 "_law_source" sp__law_source kb__law_source :=
  okC T.h__law_source sc__law_source (fun _ _ _ _ _ _ us hl => match us, hl with | [_], _ => rfl)
    (fun t ht => (nomatch ht))
    len__law_source (fun f cdv A outer s H E hr hgu =>
    qss_cons (qs_set 1 sc__law_source.nd (qe_int)) (qss_cons (qs_set 2 sc__law_source.nd (qe_lst (qa_nil))) (qss_cons (qs_for (passes_of rfl) rfl (qi_lst (qe_var 0)) (qg_name 3 sc__law_source.nd) (qss_cons (qs_set 1 sc__law_source.nd (qe_bin op_mod lk_mod (qe_bin op_addU lk_addU (qe_bin op_mulU lk_mulU (qe_var 1) (qe_int)) (qe_var 3)) (qe_bin op_sub lk_sub (qe_bin op_powA lk_pow (qe_int) (qe_int)) (qe_int)))) (qss_cons (qs_set 4 sc__law_source.nd (qe_callB (call_maxU rfl) lk_maxU (by rfl) T.n_max bt_max (qa_cons (qe_var 3) (qa_cons (qe_bin op_sub lk_sub (qe_int) (qe_var 3)) (qa_nil))))) (qss_one (qs_if (qt_cmp op_ge lk_ge (qe_var 4) (qe_bin op_powA lk_pow (qe_int) (qe_int)) (nomark _)) (qss_one (qs_expr (qe_bm PySem.F.plainAttrs_list PySem.F.slot_list_append PySem.F.type_list_append mt_append lk_append (qe_var 2) (qa_cons (qe_bin op_sub lk_sub (qe_var 4) (qe_bin op_powA lk_pow (qe_int) (qe_int))) (qa_nil))))) (qss_nil)))))) (qss_one (qs_ret (qe_lst (qa_cons (qe_var 2) (qa_cons (qe_int) (qa_cons (qe_var 1) (qa_cons (qe_int) (qa_nil))))))))))) pure__law_source
theorem c__law_source (T : Top K w mg) : Cal P w K mg base 1 "_law_source" (cl sp__law_source) kb__law_source := (ok__law_source T ).close
set_option maxHeartbeats 4000000 in
theorem ok__law_draw (T : Top K w mg) : Cal P w K mg base 1 "_law_draw" sp__law_draw kb__law_draw :=
  okC T.h__law_draw sc__law_draw (fun _ _ _ _ _ _ us hl => match us, hl with | [_, _], _ => rfl)
    (fun t ht => (nomatch ht))
    len__law_draw (fun f cdv A outer s H E hr hgu =>
    qss_cons (qs_while (passes_of rfl) ((qw_and (qt_cmp op_lt lk_lt (qe_ix ix_seq lk_ixU (qe_var 0) (qe_int) (fun _ _ => rfl)) (qe_int) (nomark _)) (qw_and1 (qt_cmp (op_neU hr.units) lk_neU (qe_ix ix_seq lk_ixU (qe_var 0) (qe_int) (fun _ _ => rfl)) (qe_lst (qa_nil)) (nomark _)))).qt) (qss_one (qs_store (qe_bm PySem.F.plainAttrs_list PySem.F.slot_list_pop PySem.F.type_list_pop mt_popAt lk_pop0 (qe_ix ix_seq lk_ixU (qe_var 0) (qe_int) (fun _ _ => rfl)) (qa_cons (qe_int) (qa_nil))) (qe_var 0) (qe_int) set_list lk_setL))) (qss_cons (qs_if (qt_cmp op_ge lk_ge (qe_ix ix_seq lk_ixU (qe_var 0) (qe_int) (fun _ _ => rfl)) (qe_int) (nomark _)) (qss_cons (qs_set 2 sc__law_draw.nd (qe_bin op_mod lk_mod (qe_ix ix_seq lk_ixU (qe_var 0) (qe_int) (fun _ _ => rfl)) (qe_var 1))) (qss_cons (qs_store (qe_bin op_fdivW lk_fdiv (qe_ix ix_seq lk_ixU (qe_var 0) (qe_int) (fun _ _ => rfl)) (qe_var 1)) (qe_var 0) (qe_int) set_list lk_setL) (qss_one (qs_ret (qe_var 2))))) (qss_nil)) (qss_cons (qs_store (qe_bin op_addU lk_addU (qe_ix ix_seq lk_ixU (qe_var 0) (qe_int) (fun _ _ => rfl)) (qe_int)) (qe_var 0) (qe_int) set_list lk_setL) (qss_cons (qs_set 3 sc__law_draw.nd (qe_bin op_mulU lk_mulU (qe_bin op_addU lk_addU (qe_ix ix_seq lk_ixU (qe_var 0) (qe_int) (fun _ _ => rfl)) (qe_int)) (qe_bin op_powA lk_pow (qe_bin op_addU lk_addU (qe_ix ix_seq lk_ixU (qe_var 0) (qe_int) (fun _ _ => rfl)) (qe_int)) (qe_int)))) (qss_cons (qs_set 3 sc__law_draw.nd (qe_bin op_mod lk_mod (qe_bin op_addU lk_addU (qe_var 3) (qe_bin op_mulU lk_mulU (qe_int) (qe_ix ix_seq lk_ixU (qe_var 0) (qe_int) (fun _ _ => rfl)))) (qe_bin op_sub lk_sub (qe_bin op_powA lk_pow (qe_int) (qe_int)) (qe_int)))) (qss_one (qs_ret (qe_bin op_mod lk_mod (qe_bin op_fdivW lk_fdiv (qe_bin op_mod lk_mod (qe_bin op_powA lk_pow (qe_var 3) (qe_int)) (qe_bin op_addU lk_addU (qe_bin op_powA lk_pow (qe_int) (qe_int)) (qe_int))) (qe_int)) (qe_var 1))))))))) pure__law_draw
theorem c__law_draw (T : Top K w mg) : Cal P w K mg base 1 "_law_draw" (cl sp__law_draw) kb__law_draw := (ok__law_draw T ).close
set_option maxHeartbeats 4000000 in
theorem ok__law_same (T : Top K w mg) {j : Nat} {n : Nat} (hj : 0 ≤ j) (cself : Cal P w K mg base j "_law_same" (cl (sp__law_same n)) kb__law_same) : Cal P w K mg base (j + 1) "_law_same" (sp__law_same (n + 1)) kb__law_same :=
  okC T.h__law_same sc__law_same (fun _ _ _ _ _ _ us hl => match us, hl with | [_, _], _ => rfl)
    (fun t ht => (nomatch ht))
    (len__law_same (n + 1)) (fun f cdv A outer s H E hr hgu =>
    qss_cons (qs_if (qt_cmp op_isN lk_isN (qe_var 1) (qe_non) (nomark _)) (qss_one (qs_ret (qe_cmp op_isN lk_isN (qe_var 0) (qe_non) (nomark _)))) (qss_nil)) (qss_cons (qs_if (qt_val (qe_callB call_isi lk_isiU (by rfl) T.n_isinstance bt_isinstance (qa_cons (qe_var 1) (qa_cons (qe_ty T.n_bool bt_bool) (qa_nil))))) (qss_one (qs_ret (qe_and (qe_callB call_isi lk_isiU (by rfl) T.n_isinstance bt_isinstance (qa_cons (qe_var 0) (qa_cons (qe_ty T.n_bool bt_bool) (qa_nil)))) (qe_one (qe_cmp (op_eqU hr.units) lk_eqU (qe_var 0) (qe_var 1) (nomark _)))))) (qss_nil)) (qss_cons (qs_if (qt_val (qe_callB call_isi lk_isiU (by rfl) T.n_isinstance bt_isinstance (qa_cons (qe_var 1) (qa_cons (qe_ty T.n_int bt_int) (qa_nil))))) (qss_one (qs_ret (qe_and (qe_callB call_isi lk_isiU (by rfl) T.n_isinstance bt_isinstance (qa_cons (qe_var 0) (qa_cons (qe_ty T.n_int bt_int) (qa_nil)))) (qe_and (qe_not (qe_callB call_isi lk_isiU (by rfl) T.n_isinstance bt_isinstance (qa_cons (qe_var 0) (qa_cons (qe_ty T.n_bool bt_bool) (qa_nil))))) (qe_one (qe_cmp (op_eqU hr.units) lk_eqU (qe_var 0) (qe_var 1) (nomark _))))))) (qss_nil)) (qss_cons (qs_if (qt_val (qe_callB call_isi lk_isiU (by rfl) T.n_isinstance bt_isinstance (qa_cons (qe_var 1) (qa_cons (qe_ty T.n_str bt_str) (qa_nil))))) (qss_one (qs_ret (qe_and (qe_callB call_isi lk_isiU (by rfl) T.n_isinstance bt_isinstance (qa_cons (qe_var 0) (qa_cons (qe_ty T.n_str bt_str) (qa_nil)))) (qe_one (qe_cmp (op_eqU hr.units) lk_eqU (qe_var 0) (qe_var 1) (nomark _)))))) (qss_nil)) (qss_cons (qs_if (qt_cmp (op_neU hr.units) lk_neU (qe_callB call_isi lk_isiU (by rfl) T.n_isinstance bt_isinstance (qa_cons (qe_var 0) (qa_cons (qe_ty T.n_list bt_list) (qa_nil)))) (qe_callB call_isi lk_isiU (by rfl) T.n_isinstance bt_isinstance (qa_cons (qe_var 1) (qa_cons (qe_ty T.n_list bt_list) (qa_nil)))) (nomark _)) (qss_one (qs_ret (qe_bl))) (qss_nil)) (qss_cons (qs_if ((qw_or (qt_cmp (op_neU hr.units) lk_neU (qe_callB call_isi lk_isiU (by rfl) T.n_isinstance bt_isinstance (qa_cons (qe_var 0) (qa_cons (qe_ty T.n_tuple bt_tuple) (qa_nil)))) (qe_callB call_isi lk_isiU (by rfl) T.n_isinstance bt_isinstance (qa_cons (qe_var 1) (qa_cons (qe_ty T.n_tuple bt_tuple) (qa_nil)))) (nomark _)) (qw_or1 (qt_cmp (op_neU hr.units) lk_neU (qe_callB call_lenU lk_lenU (by rfl) T.n_len bt_len (qa_cons (qe_var 0) (qa_nil))) (qe_callB call_lenU lk_lenU (by rfl) T.n_len bt_len (qa_cons (qe_var 1) (qa_nil))) (nomark _)))).qt) (qss_one (qs_ret (qe_bl))) (qss_nil)) (qss_one (qs_ret (qe_cmp (op_eqU hr.units) lk_eqU (qe_lc [("k", 2)] rfl sc__law_same.nd (qi_range (by rfl) T.n_range (qa_cons (qe_callB call_lenU lk_lenU (by rfl) T.n_len bt_len (qa_cons (qe_var 1) (qa_nil))) (qa_nil))) (blkOf (by rfl)) (fun s H C cl fp => qg_name 2 sc__law_same.nd) (fun s H C cl fp => qts_one (qt_not (qt_val (qe_c cself (by omega) hr hgu (qa_cons (qe_ix ix_seq lk_ixU (qe_var 0) (qe_var 2) (fun _ _ => rfl)) (qa_cons (qe_ix ix_seq lk_ixU (qe_var 1) (qe_var 2) (fun _ _ => rfl)) (qa_nil))))))) (fun s H C cl fp => qe_var 2)) (qe_lst (qa_nil)) (nomark _)))))))))) (pure__law_same n)
theorem no__law_same (T : Top K w mg) : Cal P w K mg base 0 "_law_same" (sp__law_same 0) kb__law_same :=
  noC (ps := ["found", "wanted"]) T.h__law_same (fun _ _ _ _ _ _ us hl => match us, hl with | [_, _], _ => rfl)
    (fun t ht => (nomatch ht))
theorem c0__law_same (T : Top K w mg) : ∀ n : Nat, Cal P w K mg base (0 + n) "_law_same" (sp__law_same n) kb__law_same
  | 0 => no__law_same T
  | n + 1 => ok__law_same T  (Nat.le_add_right _ _) (c0__law_same T n).close
theorem c__law_same (T : Top K w mg) : Cal P w K mg base 4 "_law_same" (cl (sp__law_same 4)) kb__law_same := (c0__law_same T 4).close
set_option maxHeartbeats 4000000 in
theorem ok__law_number (T : Top K w mg) (c__law_draw : Cal P w K mg base 1 "_law_draw" (cl sp__law_draw) kb__law_draw) : Cal P w K mg base 2 "_law_number" sp__law_number kb__law_number :=
  okC T.h__law_number sc__law_number (fun _ _ _ _ _ _ us hl => match us, hl with | [_], _ => rfl)
    (fun t ht => (nomatch ht))
    len__law_number (fun f cdv A outer s H E hr hgu =>
    qss_one (qs_ret (qe_bin op_addU lk_addU (qe_int) (qe_c c__law_draw (by decide) hr hgu (qa_cons (qe_var 0) (qa_cons (qe_ix ix_seq lk_ixU (qe_lst (qa_cons (qe_int) (qa_cons (qe_int) (qa_cons (qe_int) (qa_cons (qe_int) (qa_cons (qe_bin op_sub lk_sub (qe_bin op_powA lk_pow (qe_int) (qe_int)) (qe_int)) (qa_nil))))))) (qe_c c__law_draw (by decide) hr hgu (qa_cons (qe_var 0) (qa_cons (qe_int) (qa_nil)))) (fun _ _ => rfl)) (qa_nil))))))) pure__law_number
theorem c__law_number (T : Top K w mg) : Cal P w K mg base 2 "_law_number" (cl sp__law_number) kb__law_number := (ok__law_number T (c__law_draw T)).close
set_option maxHeartbeats 4000000 in
theorem ok__law_command (T : Top K w mg) (c__law_number : Cal P w K mg base 2 "_law_number" (cl sp__law_number) kb__law_number) (c__law_draw : Cal P w K mg base 1 "_law_draw" (cl sp__law_draw) kb__law_draw) : Cal P w K mg base 3 "_law_command" sp__law_command kb__law_command :=
  okC T.h__law_command sc__law_command (fun _ _ _ _ _ _ us hl => match us, hl with | [_], _ => rfl)
    (fun t ht => (nomatch ht))
    len__law_command (fun f cdv A outer s H E hr hgu =>
    qss_cons (qs_set 1 sc__law_command.nd (qe_ix ix_seq lk_ixU (qe_lst (qa_cons (qe_str) (qa_cons (qe_str) (qa_cons (qe_str) (qa_cons (qe_str) (qa_cons (qe_str) (qa_cons (qe_str) (qa_cons (qe_str) (qa_cons (qe_str) (qa_nil)))))))))) (qe_c c__law_draw (by decide) hr hgu (qa_cons (qe_var 0) (qa_cons (qe_int) (qa_nil)))) (fun _ _ => rfl))) (qss_cons (qs_if (qt_cmp op_in_seq lk_inU (qe_var 1) (qe_tup (qa_cons (qe_str) (qa_cons (qe_str) (qa_nil)))) (by rfl)) (qss_one (qs_ret (qe_tup (qa_cons (qe_var 1) (qa_nil))))) (qss_nil)) (qss_one (qs_ret (qe_tup (qa_cons (qe_var 1) (qa_cons (qe_ix ix_seq lk_ixU (qe_lst (qa_cons (qe_int) (qa_cons (qe_bin op_addU lk_addU (qe_int) (qe_c c__law_draw (by decide) hr hgu (qa_cons (qe_var 0) (qa_cons (qe_int) (qa_nil))))) (qa_cons (qe_c c__law_number (by decide) hr hgu (qa_cons (qe_var 0) (qa_nil))) (qa_nil))))) (qe_c c__law_draw (by decide) hr hgu (qa_cons (qe_var 0) (qa_cons (qe_int) (qa_nil)))) (fun _ _ => rfl)) (qa_nil)))))))) pure__law_command
theorem c__law_command (T : Top K w mg) : Cal P w K mg base 3 "_law_command" (cl sp__law_command) kb__law_command := (ok__law_command T (c__law_number T) (c__law_draw T)).close
set_option maxHeartbeats 4000000 in
theorem ok__law_commands (T : Top K w mg) (c__law_draw : Cal P w K mg base 1 "_law_draw" (cl sp__law_draw) kb__law_draw) (c__law_command : Cal P w K mg base 3 "_law_command" (cl sp__law_command) kb__law_command) : Cal P w K mg base 4 "_law_commands" sp__law_commands kb__law_commands :=
  okC T.h__law_commands sc__law_commands (fun _ _ _ _ _ _ us hl => match us, hl with | [_, _], _ => rfl)
    (fun t ht => (nomatch ht))
    len__law_commands (fun f cdv A outer s H E hr hgu =>
    qss_one (qs_ret (qe_lc [("time", 2)] rfl sc__law_commands.nd (qi_range (by rfl) T.n_range (qa_cons (qe_c c__law_draw (by decide) hr hgu (qa_cons (qe_var 0) (qa_cons (qe_bin op_addU lk_addU (qe_var 1) (qe_int)) (qa_nil)))) (qa_nil))) (blkOf (by rfl)) (fun s H C cl fp => qg_name 2 sc__law_commands.nd) (fun s H C cl fp => qts_nil) (fun s H C cl fp => qe_c c__law_command (by decide) hr hgu (qa_cons (qe_var 0) (qa_nil)))))) pure__law_commands
theorem c__law_commands (T : Top K w mg) : Cal P w K mg base 4 "_law_commands" (cl sp__law_commands) kb__law_commands := (ok__law_commands T (c__law_draw T) (c__law_command T)).close
set_option maxHeartbeats 4000000 in
theorem ok__law_written (T : Top K w mg) : Cal P w K mg base 1 "_law_written" sp__law_written kb__law_written :=
  okC T.h__law_written sc__law_written (fun _ _ _ _ _ _ us hl => match us, hl with | [_], _ => rfl)
    (fun t ht => (nomatch ht))
    len__law_written (fun f cdv A outer s H E hr hgu =>
    qss_cons (qs_set 1 sc__law_written.nd (qe_str)) (qss_cons (qs_for (passes_of rfl) rfl (qi_lst (qe_var 0)) (qg_name 2 sc__law_written.nd) (qss_cons (qs_set 3 sc__law_written.nd (qe_dget (hu_of hr) (qe_disp (qps_cons (qe_str) (qe_str) (qps_cons (qe_str) (qe_str) (qps_cons (qe_str) (qe_str) (qps_cons (qe_str) (qe_str) (qps_cons (qe_str) (qe_str) (qps_cons (qe_str) (qe_str) (qps_nil)))))))) (qe_ix ix_seq lk_ixU (qe_var 2) (qe_int) (fun _ _ => rfl)) (fun _ _ => rfl))) (qss_one (qs_set 1 sc__law_written.nd (qe_bin op_addU lk_addU (qe_bin op_addU lk_addU (qe_bin op_addU lk_addU (qe_var 1) (qe_ix ix_seq lk_ixU (qe_lst (qa_cons (qe_str) (qa_cons (qe_str) (qa_nil)))) (qe_callTy call_intU lk_intU (by rfl) T.n_int bt_int (qa_cons (qe_cmp (op_eqU hr.units) lk_eqU (qe_var 1) (qe_str) (nomark _)) (qa_nil))) (fun _ _ => rfl))) (qe_if (qt_cmp op_gt lk_gt (qe_callB call_lenU lk_lenU (by rfl) T.n_len bt_len (qa_cons (qe_var 2) (qa_nil))) (qe_int) (nomark _)) (qe_callTy call_str_int lk_strI (by rfl) T.n_str bt_str (qa_cons (qe_ix ix_seq lk_ixU (qe_var 2) (qe_int) (fun _ _ => rfl)) (qa_nil))) (qe_str))) (qe_var 3)))))) (qss_one (qs_ret (qe_if (qt_cmp (op_neU hr.units) lk_neU (qe_var 0) (qe_lst (qa_nil)) (nomark _)) (qe_var 1) (qe_str)))))) pure__law_written
theorem c__law_written (T : Top K w mg) : Cal P w K mg base 1 "_law_written" (cl sp__law_written) kb__law_written := (ok__law_written T ).close
end
set_option maxHeartbeats 4000000 in
theorem fin {P : Program} {w : World} {K : PySem.W.Frag} {mg : Str → Option Value} {fa : Addr} (T : Top K w mg) (hmg : mg "law" = some (.ref fa)) :
    ∃ fd : FuncData, (∀ (s : Shared) (u : Value), BindsTo s fd ⟨[u], []⟩ [("script", u)]) ∧ ∀ base : Heap, K.In base → base.Ns mainGlobals mg → FnG P w K mg base 5 fa fd ["script"] (spOf K spLawW) :=
  okL T.h_law sc_law hmg (fun _ _ _ _ _ _ _ => rfl) (fun base f cdv A outer s H E hr hgu =>
    qss_cons (qs_set 1 sc_law.nd (qe_c (c__law_source T) (by decide) hr hgu (qa_cons (qe_var 0) (qa_nil)))) (qss_cons (qs_for (passes_of rfl) rfl (qi_range (by rfl) T.n_range (qa_cons (qe_bin op_addU lk_addU (qe_int) (qe_callB (call_minU rfl) lk_minU (by rfl) T.n_min bt_min (qa_cons (qe_int) (qa_cons (qe_callB call_lenU lk_lenU (by rfl) T.n_len bt_len (qa_cons (qe_var 0) (qa_nil))) (qa_nil))))) (qa_nil))) (qg_name 2 sc_law.nd) (qss_one (qs_for (passes_of rfl) rfl (qi_range (by rfl) T.n_range (qa_cons (qe_int) (qa_nil))) (qg_name 3 sc_law.nd) (qss_cons (qs_par 4 5 rfl sc_law.nd (qa_cons (qe_c (c__law_commands T) (by decide) hr hgu (qa_cons (qe_var 1) (qa_cons (qe_ix ix_seq lk_ixU (qe_lst (qa_cons (qe_int) (qa_cons (qe_int) (qa_nil)))) (qe_c (c__law_draw T) (by decide) hr hgu (qa_cons (qe_var 1) (qa_cons (qe_int) (qa_nil)))) (fun _ _ => rfl)) (qa_nil)))) (qa_cons (qe_c (c__law_commands T) (by decide) hr hgu (qa_cons (qe_var 1) (qa_cons (qe_int) (qa_nil)))) (qa_nil))) (by rfl)) (qss_cons (qs_set 6 sc_law.nd (qe_callB (call_reprL hgu hr.units) lk_repr (by rfl) T.n_repr bt_repr (qa_cons (qe_var 4) (qa_nil)))) (qss_cons (qs_set 7 sc_law.nd (qe_lst (qa_cons (qe_c (c_show_commands T) (by decide) hr hgu (qa_cons (qe_var 4) (qa_nil))) (qa_cons (qe_ck0 (ks := ["commands"]) (m := 1) (o := [0]) (c_show_commands T) (by decide) hr hgu (by simp [kb_show_commands]) (qk_cons (qe_var 4) (qk_nil))) (qa_nil))))) (qss_cons (qs_if ((qw_or (qt_not (qt_val (qe_c (c__law_same T) (by decide) hr hgu (qa_cons (qe_var 7) (qa_cons (qe_bin op_mulU lk_mulU (qe_lst (qa_cons (qe_c (c__law_written T) (by decide) hr hgu (qa_cons (qe_var 4) (qa_nil))) (qa_nil))) (qe_int)) (qa_nil)))))) (qw_or1 (qt_cmp (op_neU hr.units) lk_neU (qe_callB (call_reprL hgu hr.units) lk_repr (by rfl) T.n_repr bt_repr (qa_cons (qe_var 4) (qa_nil))) (qe_var 6) (nomark _)))).qt) (qss_one (qs_ret (qe_bl))) (qss_nil)) (qss_one (qs_if (qt_cmp (op_neU hr.units) lk_neU (qe_cmp (op_eqU hr.units) lk_eqU (qe_c (c_show_commands T) (by decide) hr hgu (qa_cons (qe_var 5) (qa_nil))) (qe_ix ix_seq lk_ixU (qe_var 7) (qe_int) (fun _ _ => rfl)) (nomark _)) (qe_cmp (op_eqU hr.units) lk_eqU (qe_var 5) (qe_var 4) (nomark _)) (nomark _)) (qss_one (qs_ret (qe_bl))) (qss_nil)))))))))) (qss_one (qs_ret (qe_and (qe_cmp (op_eqU hr.units) lk_eqU (qe_c (c_show_commands T) (by decide) hr hgu (qa_cons (qe_lst (qa_nil)) (qa_nil))) (qe_str) (nomark _)) (qe_one (qe_cmp (op_eqU hr.units) lk_eqU (qe_c (c_show_commands T) (by decide) hr hgu (qa_cons (qe_lst (qa_cons (qe_tup (qa_cons (qe_str) (qa_cons (qe_int) (qa_nil)))) (qa_cons (qe_tup (qa_cons (qe_str) (qa_nil))) (qa_cons (qe_tup (qa_cons (qe_str) (qa_cons (qe_int) (qa_nil)))) (qa_nil))))) (qa_nil))) (qe_str) (nomark _)))))))) pure_law
end SL
namespace SL
open PySem PySem.Spec PyProof.Rows L2
theorem all_mk {w : World} {K : PySem.W.Frag} {h : Heap} {mg : Str → Option Value} (X : K.In h) (G : h.Ns mainGlobals mg)
    {f0 : Addr} {od0 an0 : Option Addr} {sl0 : Array (Option Value)} {oc0 kV0 dc0 pm0 cd0 ct0 : Value}
    (a0 : PySem.W.nsIn K mainGlobals "show_command" = some (some (.ref f0))) (l0 : K.lookup f0 = some ⟨oc0, od0, .func (PySem.W.fnOf "show_command" "show_command" (defArgs s_show_command) (defBody s_show_command) (defScope s_show_command) .none kV0 dc0 pm0 an0 cd0 ct0), sl0⟩) (c0 : PySem.W.codeIn K cd0 "show_command" = true) (k0 : PySem.W.keepIn K (.ref f0) = true)
    {f1 : Addr} {od1 an1 : Option Addr} {sl1 : Array (Option Value)} {oc1 kV1 dc1 pm1 cd1 ct1 : Value}
    (a1 : PySem.W.nsIn K mainGlobals "show_commands" = some (some (.ref f1))) (l1 : K.lookup f1 = some ⟨oc1, od1, .func (PySem.W.fnOf "show_commands" "show_commands" (defArgs s_show_commands) (defBody s_show_commands) (defScope s_show_commands) .none kV1 dc1 pm1 an1 cd1 ct1), sl1⟩) (c1 : PySem.W.codeIn K cd1 "show_commands" = true) (k1 : PySem.W.keepIn K (.ref f1) = true)
    {f2 : Addr} {od2 an2 : Option Addr} {sl2 : Array (Option Value)} {oc2 kV2 dc2 pm2 cd2 ct2 : Value}
    (a2 : PySem.W.nsIn K mainGlobals "_law_source" = some (some (.ref f2))) (l2 : K.lookup f2 = some ⟨oc2, od2, .func (PySem.W.fnOf "_law_source" "_law_source" (defArgs s__law_source) (defBody s__law_source) (defScope s__law_source) .none kV2 dc2 pm2 an2 cd2 ct2), sl2⟩) (c2 : PySem.W.codeIn K cd2 "_law_source" = true) (k2 : PySem.W.keepIn K (.ref f2) = true)
    {f3 : Addr} {od3 an3 : Option Addr} {sl3 : Array (Option Value)} {oc3 kV3 dc3 pm3 cd3 ct3 : Value}
    (a3 : PySem.W.nsIn K mainGlobals "_law_draw" = some (some (.ref f3))) (l3 : K.lookup f3 = some ⟨oc3, od3, .func (PySem.W.fnOf "_law_draw" "_law_draw" (defArgs s__law_draw) (defBody s__law_draw) (defScope s__law_draw) .none kV3 dc3 pm3 an3 cd3 ct3), sl3⟩) (c3 : PySem.W.codeIn K cd3 "_law_draw" = true) (k3 : PySem.W.keepIn K (.ref f3) = true)
    {f4 : Addr} {od4 an4 : Option Addr} {sl4 : Array (Option Value)} {oc4 kV4 dc4 pm4 cd4 ct4 : Value}
    (a4 : PySem.W.nsIn K mainGlobals "_law_same" = some (some (.ref f4))) (l4 : K.lookup f4 = some ⟨oc4, od4, .func (PySem.W.fnOf "_law_same" "_law_same" (defArgs s__law_same) (defBody s__law_same) (defScope s__law_same) .none kV4 dc4 pm4 an4 cd4 ct4), sl4⟩) (c4 : PySem.W.codeIn K cd4 "_law_same" = true) (k4 : PySem.W.keepIn K (.ref f4) = true)
    {f5 : Addr} {od5 an5 : Option Addr} {sl5 : Array (Option Value)} {oc5 kV5 dc5 pm5 cd5 ct5 : Value}
    (a5 : PySem.W.nsIn K mainGlobals "_law_number" = some (some (.ref f5))) (l5 : K.lookup f5 = some ⟨oc5, od5, .func (PySem.W.fnOf "_law_number" "_law_number" (defArgs s__law_number) (defBody s__law_number) (defScope s__law_number) .none kV5 dc5 pm5 an5 cd5 ct5), sl5⟩) (c5 : PySem.W.codeIn K cd5 "_law_number" = true) (k5 : PySem.W.keepIn K (.ref f5) = true)
    {f6 : Addr} {od6 an6 : Option Addr} {sl6 : Array (Option Value)} {oc6 kV6 dc6 pm6 cd6 ct6 : Value}
    (a6 : PySem.W.nsIn K mainGlobals "_law_command" = some (some (.ref f6))) (l6 : K.lookup f6 = some ⟨oc6, od6, .func (PySem.W.fnOf "_law_command" "_law_command" (defArgs s__law_command) (defBody s__law_command) (defScope s__law_command) .none kV6 dc6 pm6 an6 cd6 ct6), sl6⟩) (c6 : PySem.W.codeIn K cd6 "_law_command" = true) (k6 : PySem.W.keepIn K (.ref f6) = true)
    {f7 : Addr} {od7 an7 : Option Addr} {sl7 : Array (Option Value)} {oc7 kV7 dc7 pm7 cd7 ct7 : Value}
    (a7 : PySem.W.nsIn K mainGlobals "_law_commands" = some (some (.ref f7))) (l7 : K.lookup f7 = some ⟨oc7, od7, .func (PySem.W.fnOf "_law_commands" "_law_commands" (defArgs s__law_commands) (defBody s__law_commands) (defScope s__law_commands) .none kV7 dc7 pm7 an7 cd7 ct7), sl7⟩) (c7 : PySem.W.codeIn K cd7 "_law_commands" = true) (k7 : PySem.W.keepIn K (.ref f7) = true)
    {f8 : Addr} {od8 an8 : Option Addr} {sl8 : Array (Option Value)} {oc8 kV8 dc8 pm8 cd8 ct8 : Value}
    (a8 : PySem.W.nsIn K mainGlobals "_law_written" = some (some (.ref f8))) (l8 : K.lookup f8 = some ⟨oc8, od8, .func (PySem.W.fnOf "_law_written" "_law_written" (defArgs s__law_written) (defBody s__law_written) (defScope s__law_written) .none kV8 dc8 pm8 an8 cd8 ct8), sl8⟩) (c8 : PySem.W.codeIn K cd8 "_law_written" = true) (k8 : PySem.W.keepIn K (.ref f8) = true)
    {f9 : Addr} {od9 an9 : Option Addr} {sl9 : Array (Option Value)} {oc9 kV9 dc9 pm9 cd9 ct9 : Value}
    (a9 : PySem.W.nsIn K mainGlobals "law" = some (some (.ref f9))) (l9 : K.lookup f9 = some ⟨oc9, od9, .func (PySem.W.fnOf "law" "law" (defArgs s_law) (defBody s_law) (defScope s_law) .none kV9 dc9 pm9 an9 cd9 ct9), sl9⟩) (c9 : PySem.W.codeIn K cd9 "law" = true) (k9 : PySem.W.keepIn K (.ref f9) = true)
    (z_bool : PySem.W.nsIn K mainGlobals "bool" = some none)
    (z_int : PySem.W.nsIn K mainGlobals "int" = some none)
    (z_isinstance : PySem.W.nsIn K mainGlobals "isinstance" = some none)
    (z_len : PySem.W.nsIn K mainGlobals "len" = some none)
    (z_list : PySem.W.nsIn K mainGlobals "list" = some none)
    (z_max : PySem.W.nsIn K mainGlobals "max" = some none)
    (z_min : PySem.W.nsIn K mainGlobals "min" = some none)
    (z_range : PySem.W.nsIn K mainGlobals "range" = some none)
    (z_repr : PySem.W.nsIn K mainGlobals "repr" = some none)
    (z_str : PySem.W.nsIn K mainGlobals "str" = some none)
    (z_tuple : PySem.W.nsIn K mainGlobals "tuple" = some none)
    {d_LETTERS : Addr} {es_LETTERS : Array DictEntry} {n_LETTERS : Nat} (v_LETTERS : PySem.W.nsIn K mainGlobals "LETTERS" = some (some (.ref d_LETTERS))) (lk_LETTERS : K.lookup d_LETTERS = some { cls := .type "dict", data := .dict es_LETTERS n_LETTERS }) (kl_LETTERS : PySem.W.KeysLit w.params es_LETTERS.toList) (lo_LETTERS : (d_LETTERS == sysModules) = false)
    {t_LETTERS_0 : Tok} (x_LETTERS_0 : PySem.W.nsIn K d_LETTERS "down" = some (some (.str "D" t_LETTERS_0)))
    {t_LETTERS_1 : Tok} (x_LETTERS_1 : PySem.W.nsIn K d_LETTERS "up" = some (some (.str "U" t_LETTERS_1)))
    {t_LETTERS_2 : Tok} (x_LETTERS_2 : PySem.W.nsIn K d_LETTERS "right" = some (some (.str "R" t_LETTERS_2)))
    {t_LETTERS_3 : Tok} (x_LETTERS_3 : PySem.W.nsIn K d_LETTERS "left" = some (some (.str "L" t_LETTERS_3)))
    {t_LETTERS_4 : Tok} (x_LETTERS_4 : PySem.W.nsIn K d_LETTERS "home" = some (some (.str "H" t_LETTERS_4)))
    {t_LETTERS_5 : Tok} (x_LETTERS_5 : PySem.W.nsIn K d_LETTERS "end" = some (some (.str "E" t_LETTERS_5)))
    {t_NOTHING : Tok} (v_NOTHING : PySem.W.nsIn K mainGlobals "NOTHING" = some (some (.str "none" t_NOTHING)))
    : Top K w mg where
  h_show_command := ⟨_, _, PySem.W.mg_of X G a0, fun_mk l0 c0 k0⟩
  h_show_commands := ⟨_, _, PySem.W.mg_of X G a1, fun_mk l1 c1 k1⟩
  h__law_source := ⟨_, _, PySem.W.mg_of X G a2, fun_mk l2 c2 k2⟩
  h__law_draw := ⟨_, _, PySem.W.mg_of X G a3, fun_mk l3 c3 k3⟩
  h__law_same := ⟨_, _, PySem.W.mg_of X G a4, fun_mk l4 c4 k4⟩
  h__law_number := ⟨_, _, PySem.W.mg_of X G a5, fun_mk l5 c5 k5⟩
  h__law_command := ⟨_, _, PySem.W.mg_of X G a6, fun_mk l6 c6 k6⟩
  h__law_commands := ⟨_, _, PySem.W.mg_of X G a7, fun_mk l7 c7 k7⟩
  h__law_written := ⟨_, _, PySem.W.mg_of X G a8, fun_mk l8 c8 k8⟩
  h_law := ⟨_, _, PySem.W.mg_of X G a9, fun_mk l9 c9 k9⟩
  n_bool := PySem.W.mg_none_of X G z_bool
  n_int := PySem.W.mg_none_of X G z_int
  n_isinstance := PySem.W.mg_none_of X G z_isinstance
  n_len := PySem.W.mg_none_of X G z_len
  n_list := PySem.W.mg_none_of X G z_list
  n_max := PySem.W.mg_none_of X G z_max
  n_min := PySem.W.mg_none_of X G z_min
  n_range := PySem.W.mg_none_of X G z_range
  n_repr := PySem.W.mg_none_of X G z_repr
  n_str := PySem.W.mg_none_of X G z_str
  n_tuple := PySem.W.mg_none_of X G z_tuple
  g_LETTERS := ⟨_, PySem.W.mg_of X G v_LETTERS, ⟨⟨_, _, lk_LETTERS, kl_LETTERS, lo_LETTERS⟩, fun x y h => by
    unfold SL.d_LETTERS at h
    by_cases e0 : x = "down"
    · rw [if_pos e0] at h
      cases h
      subst e0
      exact ⟨_, .str "D", x_LETTERS_0, ⟨_, rfl⟩, fun _ => rep_str.mpr rfl⟩
    rw [if_neg e0] at h
    by_cases e1 : x = "up"
    · rw [if_pos e1] at h
      cases h
      subst e1
      exact ⟨_, .str "U", x_LETTERS_1, ⟨_, rfl⟩, fun _ => rep_str.mpr rfl⟩
    rw [if_neg e1] at h
    by_cases e2 : x = "right"
    · rw [if_pos e2] at h
      cases h
      subst e2
      exact ⟨_, .str "R", x_LETTERS_2, ⟨_, rfl⟩, fun _ => rep_str.mpr rfl⟩
    rw [if_neg e2] at h
    by_cases e3 : x = "left"
    · rw [if_pos e3] at h
      cases h
      subst e3
      exact ⟨_, .str "L", x_LETTERS_3, ⟨_, rfl⟩, fun _ => rep_str.mpr rfl⟩
    rw [if_neg e3] at h
    by_cases e4 : x = "home"
    · rw [if_pos e4] at h
      cases h
      subst e4
      exact ⟨_, .str "H", x_LETTERS_4, ⟨_, rfl⟩, fun _ => rep_str.mpr rfl⟩
    rw [if_neg e4] at h
    by_cases e5 : x = "end"
    · rw [if_pos e5] at h
      cases h
      subst e5
      exact ⟨_, .str "E", x_LETTERS_5, ⟨_, rfl⟩, fun _ => rep_str.mpr rfl⟩
    rw [if_neg e5] at h
    cases h⟩⟩
  g_NOTHING := ⟨_, PySem.W.mg_of X G v_NOTHING⟩
end SL
open PySem PySem.W PyProof.Rows
set_option maxHeartbeats 0 in
theorem PySem.Challenge.cw_goalcolumn_k40_texts_shown_holds : PySem.Challenge.rw_goalcolumn_k40_texts_shown.Holds := by
  w_on; o_law; k_head; (case hw => w_witness2)
  k_fill
  refine SL.walkG_of (l := PySem.Challenge.rw_goalcolumn_k40_texts_shown) (k := 5) (x := "script") rfl rfl ⟨rfl, by decide, by decide⟩ (fun w h Y => PySem.W.kIn_of Y) ?F
  case F =>
    intro w mg fa h KX G hmg
    refine SL.fin ?TT hmg
    case TT =>
      refine' SL.all_mk KX G ?a0 ?l0 ?c0 ?k0 ?a1 ?l1 ?c1 ?k1 ?a2 ?l2 ?c2 ?k2 ?a3 ?l3 ?c3 ?k3 ?a4 ?l4 ?c4 ?k4 ?a5 ?l5 ?c5 ?k5 ?a6 ?l6 ?c6 ?k6 ?a7 ?l7 ?c7 ?k7 ?a8 ?l8 ?c8 ?k8 ?a9 ?l9 ?c9 ?k9 ?z_bool ?z_int ?z_isinstance ?z_len ?z_list ?z_max ?z_min ?z_range ?z_repr ?z_str ?z_tuple ?v_LETTERS ?lk_LETTERS ?kl_LETTERS ?lo_LETTERS ?x_LETTERS_0 ?x_LETTERS_1 ?x_LETTERS_2 ?x_LETTERS_3 ?x_LETTERS_4 ?x_LETTERS_5 ?v_NOTHING
      (case a0 => k_is); (case l0 => k_is); (case c0 => k_is); (case k0 => k_is); (case a1 => k_is); (case l1 => k_is); (case c1 => k_is); (case k1 => k_is); (case a2 => k_is); (case l2 => k_is); (case c2 => k_is); (case k2 => k_is); (case a3 => k_is); (case l3 => k_is); (case c3 => k_is); (case k3 => k_is); (case a4 => k_is); (case l4 => k_is); (case c4 => k_is); (case k4 => k_is); (case a5 => k_is); (case l5 => k_is); (case c5 => k_is); (case k5 => k_is); (case a6 => k_is); (case l6 => k_is); (case c6 => k_is); (case k6 => k_is); (case a7 => k_is); (case l7 => k_is); (case c7 => k_is); (case k7 => k_is); (case a8 => k_is); (case l8 => k_is); (case c8 => k_is); (case k8 => k_is); (case a9 => k_is); (case l9 => k_is); (case c9 => k_is); (case k9 => k_is); (case z_bool => k_is); (case z_int => k_is); (case z_isinstance => k_is); (case z_len => k_is); (case z_list => k_is); (case z_max => k_is); (case z_min => k_is); (case z_range => k_is); (case z_repr => k_is); (case z_str => k_is); (case z_tuple => k_is); (case v_LETTERS => k_is); (case lk_LETTERS => k_is); (case kl_LETTERS => (repeat (first | exact True.intro | refine ⟨⟨_, _, rfl, rfl⟩, ?_⟩))); (case lo_LETTERS => exact rfl); (case x_LETTERS_0 => k_is); (case x_LETTERS_1 => k_is); (case x_LETTERS_2 => k_is); (case x_LETTERS_3 => k_is); (case x_LETTERS_4 => k_is); (case x_LETTERS_5 => k_is); (case v_NOTHING => k_is)
      skip
