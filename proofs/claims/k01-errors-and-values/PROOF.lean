import PyProof.Rows.All
import Wide.All
import OpenK.AllK
import Wide.FinOn
import HandS.ForMost
import HandS.Exc
import HandS.TupAny
import HandS.WordsExc
import HandS.Words
import HandS.Walk
import HandS.Comp
import HandS.Wide
import HandS.IsInst
import HandS.More
import PyProof.Rows.RuleB_pow
import PyProof.CallFns
import HandS.SetFor
import HandS.Deep
import HandS.SortInts
import KE.KUnpackStar
import HandS.Dict
import HandS.Ends
import HandS.Style
import HandS.ListItems
import HandS.DictTup
import HandS.Iter
import HandS.Text
import KE.IntTextLaws
import HandS.GenList
import HandS.TryOnly
import HandS.Flow
import HandS.ExcInit
import HandS.ExcField
import HandS.ExcIs
import KE.KExcIs
import HandS.ExcValue
import PySem.Challenge.RW_goalcolumn_k01_errors_and_their_values
set_option Elab.async false
set_option linter.all false
set_option maxRecDepth 100000
set_option maxHeartbeats 2000000
namespace SL
open PySem PySem.Spec PyProof.Rows L2

/-! ### values as trees: tuples are data, lists and dicts are addresses -/
inductive W where
  | non | bl (b : Bool) | int (i : Int) | str (x : Str) | ref (a : Addr) | ty (n : String) | tup (ws : List W)
  /-- a list that stands still: its place, its items -/
  | cst (a : Addr) (ws : List W)
  /-- a list that is locked for good -/
  | ls (ws : List W)
  /-- an own exception: its place, its class, its value -/
  | exn (a C : Addr) (w : W)

/-- a list that no one writes -/
def KL (K : PySem.W.Frag) (H : Hp) (a : Addr) (xs : List V) : Prop := SqL K H a xs ∧ ((∃ o, H a = some (.frz o (.lst xs))) ∨ SqL K (fun _ => none) a xs)
/-- an exception of class C with its dict at dx -/
def xob (a C dx : Addr) : HO := .ext fun h => ∃ (o : Obj) (vs : Array Value), h.get? a = some o ∧ o.cls = .ref C ∧ o.dict = some dx ∧ o.data = .fields vs
mutual
def rep (K : PySem.W.Frag) (H : Hp) : W → V → Prop
  | .non, v => v = .non
  | .bl b, v => v = .bl b
  | .int i, v => v = .int i
  | .str x, v => v = .str x
  | .ref a, v => v = .ref a
  | .ty n, v => v = .ty n
  | .tup ws, v => ∃ (t : Addr) (xs : List V), v = .ref t ∧ SqT K H t xs ∧ reps K H ws xs
  | .cst a ws, v => v = .ref a ∧ ∃ xs : List V, KL K H a xs ∧ reps K H ws xs
  | .ls ws, v => ∃ (a : Addr) (o : Obj) (xs : List V), v = .ref a ∧ H a = some (.frz o (.lst xs)) ∧ reps K H ws xs
  | .exn a C w, v => v = .ref a ∧ ∃ (dx : Addr) (x : V), H a = some (xob a C dx) ∧ H dx = some (.xd [(("value" : Str), x)]) ∧ rep K H w x
def reps (K : PySem.W.Frag) (H : Hp) : List W → List V → Prop
  | [], xs => xs = []
  | w :: ws, xs => ∃ (x : V) (r : List V), xs = x :: r ∧ rep K H w x ∧ reps K H ws r
end

/-- tuples and lists that no one writes stay -/
structure Tr (K : PySem.W.Frag) (H H' : Hp) : Prop where
  tup : ∀ t xs, SqT K H t xs → SqT K H' t xs
  cst : ∀ a xs, KL K H a xs → KL K H' a xs
  frz : ∀ a o xs, H a = some (.frz o (.lst xs)) → H' a = some (.frz o (.lst xs))
  ext : ∀ a φ, H a = some (.ext φ) → H' a = some (.ext φ)
  xd : ∀ a fs, H a = some (.xd fs) → H' a = some (.xd fs)
theorem Tr.refl {K : PySem.W.Frag} (H : Hp) : Tr K H H := ⟨fun _ _ h => h, fun _ _ h => h, fun _ _ _ h => h, fun _ _ h => h, fun _ _ h => h⟩
theorem Tr.trans {K : PySem.W.Frag} {H H1 H2 : Hp} (a : Tr K H H1) (b : Tr K H1 H2) : Tr K H H2 := ⟨fun t xs h => b.tup t xs (a.tup t xs h), fun t xs h => b.cst t xs (a.cst t xs h), fun t o xs h => b.frz t o xs (a.frz t o xs h), fun t xs h => b.ext t xs (a.ext t xs h), fun t xs h => b.xd t xs (a.xd t xs h)⟩

mutual
theorem rep_mono {K : PySem.W.Frag} {H H' : Hp} (tr : Tr K H H') : ∀ (w : W) (v : V), rep K H w v → rep K H' w v
  | .non, _, h => by simpa only [rep] using h
  | .bl _, _, h => by simpa only [rep] using h
  | .int _, _, h => by simpa only [rep] using h
  | .str _, _, h => by simpa only [rep] using h
  | .ref _, _, h => by simpa only [rep] using h
  | .ty _, _, h => by simpa only [rep] using h
  | .tup ws, v, h => by
    simp only [rep] at h ⊢
    obtain ⟨t, xs, e, hs, hr⟩ := h
    exact ⟨t, xs, e, tr.tup _ _ hs, reps_mono tr ws xs hr⟩
  | .cst a ws, v, h => by
    simp only [rep] at h ⊢
    obtain ⟨e, xs, hs, hr⟩ := h
    exact ⟨e, xs, tr.cst _ _ hs, reps_mono tr ws xs hr⟩
  | .ls ws, v, h => by
    simp only [rep] at h ⊢
    obtain ⟨a, o, xs, e, hs, hr⟩ := h
    exact ⟨a, o, xs, e, tr.frz _ _ _ hs, reps_mono tr ws xs hr⟩
  | .exn a C w, v, h => by
    simp only [rep] at h ⊢
    obtain ⟨e, dx, x, h1, h2, h3⟩ := h
    exact ⟨e, dx, x, tr.ext _ _ h1, tr.xd _ _ h2, rep_mono tr w x h3⟩
theorem reps_mono {K : PySem.W.Frag} {H H' : Hp} (tr : Tr K H H') : ∀ (ws : List W) (xs : List V), reps K H ws xs → reps K H' ws xs
  | [], _, h => by simpa only [reps] using h
  | w :: ws, xs, h => by
    simp only [reps] at h ⊢
    obtain ⟨x, r, e, h1, h2⟩ := h
    exact ⟨x, r, e, rep_mono tr w x h1, reps_mono tr ws r h2⟩
end
section
variable {K : PySem.W.Frag} {H H' : Hp}
theorem reps_nil {xs : List V} : reps K H [] xs ↔ xs = [] := by simp only [reps]
theorem reps_cons {w : W} {ws : List W} {xs : List V} : reps K H (w :: ws) xs ↔ ∃ (x : V) (r : List V), xs = x :: r ∧ rep K H w x ∧ reps K H ws r := by simp only [reps]
theorem reps_cc {w : W} {ws : List W} {x : V} {xs : List V} : reps K H (w :: ws) (x :: xs) ↔ rep K H w x ∧ reps K H ws xs := by
  rw [reps_cons]
  constructor
  · rintro ⟨y, r, e, h1, h2⟩
    injection e with e1 e2
    subst e1 e2
    exact ⟨h1, h2⟩
  · rintro ⟨h1, h2⟩
    exact ⟨x, xs, rfl, h1, h2⟩
theorem rep_tup {ws : List W} {v : V} : rep K H (.tup ws) v ↔ ∃ (t : Addr) (xs : List V), v = .ref t ∧ SqT K H t xs ∧ reps K H ws xs := by simp only [rep]
theorem rep_cst {a : Addr} {ws : List W} {v : V} : rep K H (.cst a ws) v ↔ v = .ref a ∧ ∃ xs : List V, KL K H a xs ∧ reps K H ws xs := by simp only [rep]
theorem rep_ls {ws : List W} {v : V} : rep K H (.ls ws) v ↔ ∃ (a : Addr) (o : Obj) (xs : List V), v = .ref a ∧ H a = some (.frz o (.lst xs)) ∧ reps K H ws xs := by simp only [rep]
theorem rep_exn {a C : Addr} {w : W} {v : V} : rep K H (.exn a C w) v ↔ v = .ref a ∧ ∃ (dx : Addr) (x : V), H a = some (xob a C dx) ∧ H dx = some (.xd [(("value" : Str), x)]) ∧ rep K H w x := by simp only [rep]
theorem rep_int {i : Int} {v : V} : rep K H (.int i) v ↔ v = .int i := by simp only [rep]
theorem rep_str {i : Str} {v : V} : rep K H (.str i) v ↔ v = .str i := by simp only [rep]
theorem rep_bl {i : Bool} {v : V} : rep K H (.bl i) v ↔ v = .bl i := by simp only [rep]
theorem rep_non {v : V} : rep K H .non v ↔ v = .non := by simp only [rep]
theorem rep_ref {a : Addr} {v : V} : rep K H (.ref a) v ↔ v = .ref a := by simp only [rep]
theorem rep_ty {a : String} {v : V} : rep K H (.ty a) v ↔ v = .ty a := by simp only [rep]
theorem reps_len : ∀ {ws : List W} {xs : List V}, reps K H ws xs → ws.length = xs.length
  | [], xs, h => by rw [reps_nil.mp h]; rfl
  | w :: ws, xs, h => by
    obtain ⟨x, r, rfl, _, h2⟩ := reps_cons.mp h
    rw [List.length_cons, List.length_cons, reps_len h2]
theorem reps_get : ∀ {ws : List W} {xs : List V} {i : Nat} {w : W}, reps K H ws xs → ws[i]? = some w → ∃ x, xs[i]? = some x ∧ rep K H w x
  | [], _, _, _, _, e => by simp at e
  | w :: ws, xs, 0, u, h, e => by
    obtain ⟨x, r, rfl, h1, _⟩ := reps_cons.mp h
    simp at e
    subst e
    exact ⟨x, rfl, h1⟩
  | w :: ws, xs, i + 1, u, h, e => by
    obtain ⟨x, r, rfl, _, h2⟩ := reps_cons.mp h
    obtain ⟨y, h3, h4⟩ := reps_get (i := i) h2 (by simpa using e)
    exact ⟨y, by simpa using h3, h4⟩
theorem reps_get' : ∀ {ws : List W} {xs : List V} {i : Nat} {x : V}, reps K H ws xs → xs[i]? = some x → ∃ w, ws[i]? = some w ∧ rep K H w x
  | [], xs, i, x, h, e => by rw [reps_nil.mp h] at e; simp at e
  | w :: ws, xs, 0, u, h, e => by
    obtain ⟨x, r, rfl, h1, _⟩ := reps_cons.mp h
    simp at e
    subst e
    exact ⟨w, rfl, h1⟩
  | w :: ws, xs, i + 1, u, h, e => by
    obtain ⟨x, r, rfl, _, h2⟩ := reps_cons.mp h
    obtain ⟨y, h3, h4⟩ := reps_get' (i := i) h2 (by simpa using e)
    exact ⟨y, by simpa using h3, h4⟩
theorem reps_app : ∀ {ws us : List W} {xs ys : List V}, reps K H ws xs → reps K H us ys → reps K H (ws ++ us) (xs ++ ys)
  | [], us, xs, ys, h, g => by rw [reps_nil.mp h]; exact g
  | w :: ws, us, xs, ys, h, g => by
    obtain ⟨x, r, rfl, h1, h2⟩ := reps_cons.mp h
    exact reps_cc.mpr ⟨h1, reps_app h2 g⟩
theorem reps_set : ∀ {ws : List W} {xs : List V} {w : W} {x : V} (i : Nat), reps K H ws xs → rep K H w x → reps K H (ws.set i w) (xs.set i x)
  | [], xs, w, x, i, h, g => by rw [reps_nil.mp h]; exact reps_nil.mpr rfl
  | u :: ws, xs, w, x, 0, h, g => by
    obtain ⟨y, r, rfl, h1, h2⟩ := reps_cons.mp h
    exact reps_cc.mpr ⟨g, h2⟩
  | u :: ws, xs, w, x, i + 1, h, g => by
    obtain ⟨y, r, rfl, h1, h2⟩ := reps_cons.mp h
    exact reps_cc.mpr ⟨h1, reps_set i h2 g⟩
theorem reps_take : ∀ {ws : List W} {xs : List V} (n : Nat), reps K H ws xs → reps K H (ws.take n) (xs.take n)
  | ws, xs, 0, _ => reps_nil.mpr rfl
  | [], xs, n + 1, h => by rw [reps_nil.mp h]; exact reps_nil.mpr rfl
  | w :: ws, xs, n + 1, h => by
    obtain ⟨y, r, rfl, h1, h2⟩ := reps_cons.mp h
    exact reps_cc.mpr ⟨h1, reps_take n h2⟩
theorem reps_drop : ∀ {ws : List W} {xs : List V} (n : Nat), reps K H ws xs → reps K H (ws.drop n) (xs.drop n)
  | ws, xs, 0, h => h
  | [], xs, n + 1, h => by rw [reps_nil.mp h]; exact reps_nil.mpr rfl
  | w :: ws, xs, n + 1, h => by
    obtain ⟨y, r, rfl, h1, h2⟩ := reps_cons.mp h
    exact reps_drop n h2
theorem reps_rev : ∀ {ws : List W} {xs : List V}, reps K H ws xs → reps K H ws.reverse xs.reverse
  | [], xs, h => by rw [reps_nil.mp h]; exact reps_nil.mpr rfl
  | w :: ws, xs, h => by
    obtain ⟨y, r, rfl, h1, h2⟩ := reps_cons.mp h
    rw [List.reverse_cons, List.reverse_cons]
    exact reps_app (reps_rev h2) (reps_cc.mpr ⟨h1, reps_nil.mpr rfl⟩)
theorem reps_ints : ∀ {ns : List Int} {xs : List V}, reps K H (ns.map W.int) xs ↔ xs = ns.map V.int
  | [], xs => reps_nil
  | n :: ns, xs => by
    rw [List.map_cons, reps_cons]
    constructor
    · rintro ⟨x, r, rfl, h1, h2⟩
      rw [rep_int.mp h1, reps_ints.mp h2]
      rfl
    · rintro rfl
      exact ⟨_, _, rfl, rep_int.mpr rfl, reps_ints.mpr rfl⟩
theorem reps_strs : ∀ {ns : List Str} {xs : List V}, reps K H (ns.map W.str) xs ↔ xs = ns.map V.str
  | [], xs => reps_nil
  | n :: ns, xs => by
    rw [List.map_cons, reps_cons]
    constructor
    · rintro ⟨x, r, rfl, h1, h2⟩
      rw [rep_str.mp h1, reps_strs.mp h2]
      rfl
    · rintro rfl
      exact ⟨_, _, rfl, rep_str.mpr rfl, reps_strs.mpr rfl⟩
theorem reps_bls : ∀ {ns : List Bool} {xs : List V}, reps K H (ns.map W.bl) xs ↔ xs = ns.map V.bl
  | [], xs => reps_nil
  | n :: ns, xs => by
    rw [List.map_cons, reps_cons]
    constructor
    · rintro ⟨x, r, rfl, h1, h2⟩
      rw [rep_bl.mp h1, reps_bls.mp h2]
      rfl
    · rintro rfl
      exact ⟨_, _, rfl, rep_bl.mpr rfl, reps_bls.mpr rfl⟩
end

/-! ### the world: what stands at some addresses -/
inductive MO where
  | lst (ws : List W)
  | dic (kvs : List (Key × W))
  | ins (C : Addr) (fs : List (Str × W))
abbrev Cells := List (Addr × MO)

def repKV {κ : Type} (K : PySem.W.Frag) (H : Hp) (kvs : List (κ × W)) (kvs' : List (κ × V)) : Prop := kvs.map (·.1) = kvs'.map (·.1) ∧ reps K H (kvs.map (·.2)) (kvs'.map (·.2))
def cellOk (K : PySem.W.Frag) (H : Hp) (a : Addr) : MO → Prop
  | .lst ws => ∃ xs, H a = some (.lst xs) ∧ reps K H ws xs
  | .dic kvs => ∃ kvs', H a = some (.dK kvs') ∧ repKV K H kvs kvs'
  | .ins C fs => ∃ dx fs', H a = some (.ins C dx fs') ∧ repKV K H fs fs'
structure RelC (K : PySem.W.Frag) (H : Hp) (Cs : Cells) : Prop where
  nd : (Cs.map (·.1)).Nodup
  ok : ∀ p ∈ Cs, cellOk K H p.1 p.2
/-- what is laid at a new place -/
theorem cell_some {K : PySem.W.Frag} {H : Hp} {a : Addr} {o : MO} (h : cellOk K H a o) : ∃ u, H a = some u := by
  cases o with
  | lst ws => obtain ⟨xs, e, _⟩ := h; exact ⟨_, e⟩
  | dic kvs => obtain ⟨xs, e, _⟩ := h; exact ⟨_, e⟩
  | ins C fs => obtain ⟨dx, xs, e, _⟩ := h; exact ⟨_, e⟩
def isTupO : HO → Bool
  | .tup _ => true
  | .frz _ _ => true
  | .ext _ => true
  | .xd _ => true
  | _ => false
theorem cell_ntup {K : PySem.W.Frag} {H : Hp} {a : Addr} {o : MO} (h : cellOk K H a o) : ∃ u, H a = some u ∧ isTupO u = false := by
  cases o with
  | lst ws => obtain ⟨xs, e, _⟩ := h; exact ⟨_, e, rfl⟩
  | dic kvs => obtain ⟨xs, e, _⟩ := h; exact ⟨_, e, rfl⟩
  | ins C fs => obtain ⟨dx, xs, e, _⟩ := h; exact ⟨_, e, rfl⟩
theorem repKV_mono {κ : Type} {K : PySem.W.Frag} {H H' : Hp} (tr : Tr K H H') {kvs : List (κ × W)} {kvs' : List (κ × V)} (h : repKV K H kvs kvs') : repKV K H' kvs kvs' := ⟨h.1, reps_mono tr _ _ h.2⟩
/-- an object that is as it was -/
theorem cell_keep {K : PySem.W.Frag} {H H' : Hp} {a : Addr} {o : MO} (tr : Tr K H H') (e : H' a = H a) (h : cellOk K H a o) : cellOk K H' a o := by
  cases o with
  | lst ws => obtain ⟨xs, h1, h2⟩ := h; exact ⟨xs, e.trans h1, reps_mono tr _ _ h2⟩
  | dic kvs => obtain ⟨xs, h1, h2⟩ := h; exact ⟨xs, e.trans h1, repKV_mono tr h2⟩
  | ins C fs => obtain ⟨dx, xs, h1, h2⟩ := h; exact ⟨dx, xs, e.trans h1, repKV_mono tr h2⟩
theorem tr_upd {K : PySem.W.Frag} {H : Hp} {a : Addr} {o' : HO} (h : ∀ u, H a = some u → isTupO u = false) : Tr K H (upd H a o') := by
  have ne : ∀ {t u}, H t = some u → isTupO u = true → t ≠ a := fun {t u} e f z => by
    subst z
    rw [h u e] at f
    cases f
  refine ⟨fun t xs hs => ?_, fun t xs hs => ?_, fun t o xs hs => (upd_ne (ne hs rfl)).trans hs, fun t φ hs => (upd_ne (ne hs rfl)).trans hs, fun t φ hs => (upd_ne (ne hs rfl)).trans hs⟩
  · rcases hs with (hs | ⟨q, hs⟩) | hs
    · exact .inl (.inl (by rw [upd_ne (ne hs rfl)]; exact hs))
    · exact .inl (.inr ⟨q, by rw [upd_ne (ne hs rfl)]; exact hs⟩)
    · exact .inr hs
  · obtain ⟨h1, ⟨o, h2⟩ | h2⟩ := hs
    · have e : upd H a o' t = some (.frz o (.lst xs)) := by rw [upd_ne (ne h2 rfl)]; exact h2
      exact ⟨.inl (.inr ⟨o, e⟩), .inl ⟨o, e⟩⟩
    · refine ⟨?_, .inr h2⟩
      rcases h2 with (h2 | ⟨o, h2⟩) | h2
      · cases h2
      · cases h2
      · exact .inr h2
theorem tr_new {K : PySem.W.Frag} {H : Hp} {a : Addr} {o : HO} (h : H a = none) : Tr K H (upd H a o) := tr_upd fun u e => by rw [h] at e; cases e
section
variable {K : PySem.W.Frag} {H H' : Hp} {Cs : Cells} {a : Addr}
theorem RelC.mem (R : RelC K H Cs) {o : MO} (h : (a, o) ∈ Cs) : cellOk K H a o := R.ok _ h
theorem RelC.fresh (R : RelC K H Cs) (h : H a = none) : a ∉ Cs.map (·.1) := fun hm => by
  obtain ⟨p, hp, rfl⟩ := List.mem_map.mp hm
  obtain ⟨u, e⟩ := cell_some (R.ok p hp)
  rw [h] at e
  cases e
/-- a new object -/
theorem RelC.new (R : RelC K H Cs) {u : HO} {o : MO} (h : H a = none) (hc : cellOk K (upd H a u) a o) : RelC K (upd H a u) ((a, o) :: Cs) := by
  have nf := R.fresh h
  refine ⟨?_, fun p hp => ?_⟩
  · rw [List.map_cons]
    exact List.nodup_cons.mpr ⟨nf, R.nd⟩
  · rcases List.mem_cons.mp hp with rfl | hp
    · exact hc
    · have hne : p.1 ≠ a := fun e => nf (List.mem_map.mpr ⟨p, hp, e⟩)
      exact cell_keep (tr_new h) (upd_ne hne) (R.ok p hp)
/-- a new thing that is not told of -/
theorem RelC.hid (R : RelC K H Cs) {u : HO} (h : H a = none) : RelC K (upd H a u) Cs := by
  have nf := R.fresh h
  refine ⟨R.nd, fun p hp => ?_⟩
  have hne : p.1 ≠ a := fun e => nf (List.mem_map.mpr ⟨p, hp, e⟩)
  exact cell_keep (tr_new h) (upd_ne hne) (R.ok p hp)
theorem RelC.perm {Ds : Cells} (R : RelC K H Cs) (h : Cs.Perm Ds) : RelC K H Ds := ⟨(h.map _).nodup_iff.mp R.nd, fun p hp => R.ok p (h.mem_iff.mpr hp)⟩
theorem RelC.sub {Ds : Cells} (R : RelC K H Cs) (h : Ds.Sublist Cs) : RelC K H Ds := ⟨R.nd.sublist (h.map _), fun p hp => R.ok p (h.mem hp)⟩
/-- an object is written -/
theorem RelC.write (R : RelC K H ((a, o) :: Cs)) {u : HO} {o' : MO} (hc : cellOk K (upd H a u) a o') : RelC K (upd H a u) ((a, o') :: Cs) := by
  have nd := R.nd
  rw [List.map_cons] at nd
  obtain ⟨nf, nd'⟩ := List.nodup_cons.mp nd
  have tr : Tr K H (upd H a u) := tr_upd fun v e => by
    obtain ⟨w, e1, e2⟩ := cell_ntup (R.ok (a, o) List.mem_cons_self)
    rw [e] at e1
    cases e1
    exact e2
  refine ⟨List.nodup_cons.mpr ⟨nf, nd'⟩, fun p hp => ?_⟩
  rcases List.mem_cons.mp hp with rfl | hp
  · exact hc
  · have hne : p.1 ≠ a := fun e => nf (List.mem_map.mpr ⟨p, hp, e⟩)
    exact cell_keep tr (upd_ne hne) (R.ok p (List.mem_cons_of_mem _ hp))
theorem RelC.tr_write (R : RelC K H ((a, o) :: Cs)) {u : HO} : Tr K H (upd H a u) := tr_upd fun v e => by
    obtain ⟨w, e1, e2⟩ := cell_ntup (R.ok (a, o) List.mem_cons_self)
    rw [e] at e1
    cases e1
    exact e2
end

/-! ### places in a world, found by instances -/
class At (a : Addr) (Cs : Cells) (o : outParam MO) : Prop where
  mem : (a, o) ∈ Cs
instance (priority := high) At.here {a : Addr} {o : MO} {Cs : Cells} : At a ((a, o) :: Cs) o := ⟨List.mem_cons_self⟩
instance At.there {a : Addr} {o : MO} {p : Addr × MO} {Cs : Cells} [h : At a Cs o] : At a (p :: Cs) o := ⟨List.mem_cons_of_mem _ h.mem⟩
class Take (a : Addr) (Cs : Cells) (o : outParam MO) (Ds : outParam Cells) : Prop where
  perm : Cs.Perm ((a, o) :: Ds)
instance (priority := high) Take.here {a : Addr} {o : MO} {Cs : Cells} : Take a ((a, o) :: Cs) o Cs := ⟨List.Perm.refl _⟩
instance Take.there {a : Addr} {o : MO} {p : Addr × MO} {Cs Ds : Cells} [h : Take a Cs o Ds] : Take a (p :: Cs) o (p :: Ds) := ⟨(h.perm.cons p).trans (List.Perm.swap _ _ _)⟩
/-- Ds is a part of Cs (in another order) -/
class Part (Ds Cs : Cells) : Prop where
  part : ∃ Fs : Cells, Cs.Perm (Ds ++ Fs)
instance (priority := high) Part.refl {Cs : Cells} : Part Cs Cs := ⟨[], by rw [List.append_nil]⟩
instance Part.nil {Cs : Cells} : Part [] Cs := ⟨Cs, List.Perm.refl _⟩
instance Part.cons {a : Addr} {o : MO} {Ds Cs Cs1 : Cells} [t : Take a Cs o Cs1] [h : Part Ds Cs1] : Part ((a, o) :: Ds) Cs := ⟨by
  obtain ⟨Fs, h1⟩ := h.part
  exact ⟨Fs, t.perm.trans (h1.cons _)⟩⟩
instance (priority := low) Part.skip {p : Addr × MO} {Ds Cs : Cells} [h : Part Ds Cs] : Part Ds (p :: Cs) := ⟨by
  obtain ⟨Fs, h1⟩ := h.part
  exact ⟨p :: Fs, (h1.cons p).trans (List.perm_middle.symm)⟩⟩
theorem RelC.to {K : PySem.W.Frag} {H : Hp} {Cs Ds : Cells} (R : RelC K H Cs) (h : Part Ds Cs) : RelC K H Ds := by
  obtain ⟨Fs, h1⟩ := h.part
  exact (R.perm h1).sub (List.sublist_append_left _ _)
theorem Part.trans {Cs Ds Es : Cells} (h : Part Ds Cs) (g : Part Es Ds) : Part Es Cs := by
  obtain ⟨Fs, h1⟩ := h.part
  obtain ⟨Gs, g1⟩ := g.part
  exact ⟨Gs ++ Fs, (h1.trans (g1.append_right Fs)).trans (by rw [List.append_assoc])⟩

/-! ### the frame -/
abbrev Rho := Nat → Option W
def Rho.put (ρ : Rho) (i : Nat) (w : W) : Rho := fun j => if j = i then some w else ρ j
def Rho.del (ρ : Rho) (i : Nat) : Rho := fun j => if j = i then none else ρ j
theorem Rho.put_same {ρ : Rho} {i : Nat} {w : W} : ρ.put i w i = some w := if_pos rfl
theorem Rho.put_ne {ρ : Rho} {i j : Nat} {w : W} (h : j ≠ i) : ρ.put i w j = ρ j := if_neg h
structure RelS (K : PySem.W.Frag) (n : Nat) (H : Hp) (σ : L2.St) (ρ : Rho) : Prop where
  len : σ.length = n
  at_ : ∀ i w, ρ i = some w → ∃ v, σ[i]? = some (some v) ∧ rep K H w v
section
variable {K : PySem.W.Frag} {n : Nat} {H H' : Hp} {σ : L2.St} {ρ : Rho}
theorem RelS.mono (R : RelS K n H σ ρ) (tr : Tr K H H') : RelS K n H' σ ρ := ⟨R.len, fun i w e => by
  obtain ⟨v, h1, h2⟩ := R.at_ i w e
  exact ⟨v, h1, rep_mono tr _ _ h2⟩⟩
theorem RelS.set (R : RelS K n H σ ρ) {i : Nat} {w : W} {v : V} (hi : i < n) (r : rep K H w v) : RelS K n H (σ.set i (some v)) (ρ.put i w) := ⟨by rw [List.length_set]; exact R.len, fun j u e => by
  by_cases hj : j = i
  · subst hj
    rw [Rho.put_same] at e
    cases e
    exact ⟨v, List.getElem?_set_self (by rw [R.len]; exact hi), r⟩
  · rw [Rho.put_ne hj] at e
    obtain ⟨x, h1, h2⟩ := R.at_ j u e
    exact ⟨x, by rw [List.getElem?_set_ne (Ne.symm hj)]; exact h1, h2⟩⟩
theorem RelS.weak (R : RelS K n H σ ρ) {ρ' : Rho} (h : ∀ i w, ρ' i = some w → ρ i = some w) : RelS K n H σ ρ' := ⟨R.len, fun i w e => R.at_ i w (h i w e)⟩
theorem RelS.del (R : RelS K n H σ ρ) (i : Nat) : RelS K n H (σ.set i none) (ρ.del i) := ⟨by rw [List.length_set]; exact R.len, fun j u e => by
  unfold Rho.del at e
  by_cases hj : j = i
  · rw [if_pos hj] at e
    cases e
  · rw [if_neg hj] at e
    obtain ⟨x, h1, h2⟩ := R.at_ j u e
    exact ⟨x, by rw [List.getElem?_set_ne (Ne.symm hj)]; exact h1, h2⟩⟩
end

/-! ### readings over trees -/
/-- what is wanted of an exception of an own class: its class, its value, the world -/
abbrev XW := Addr → W → Cells → Prop
abbrev ME := XW → Rho → Cells → (W → Cells → Prop) → Prop
abbrev MT := XW → Rho → Cells → (Bool → Cells → Prop) → Prop
abbrev MA := XW → Rho → Cells → (List W → Cells → Prop) → Prop
/-- the address of an exception's dict holds its value -/
def XVal (H : Hp) (d : Option Addr) (v : V) : Prop := ∃ dd, d = some dd ∧ H dd = some (.xd [(("value" : Str), v)])
structure LnkX (K : PySem.W.Frag) (n : Nat) (Wx : WX) (σ : L2.St) (H : Hp) (E : XW) : Prop where
  ex : ∀ C w Cs d v H', E C w Cs → Tr K H H' → RelC K H' Cs → rep K H' w v → XVal H' d v → Wx (.ref C) d σ H'
def liftE (X : Cx) (Wx : WX) (t : ME) : TE := fun σ H Q' => ∃ (ρ : Rho) (Cs : Cells) (E : XW) (Q : W → Cells → Prop), RelS X.K X.N.length H σ ρ ∧ RelC X.K H Cs ∧ t E ρ Cs Q ∧
  (∀ w Cs' v H', Q w Cs' → Tr X.K H H' → RelC X.K H' Cs' → rep X.K H' w v → Q' v H') ∧ LnkX X.K X.N.length Wx σ H E
def liftT (X : Cx) (Wx : WX) (t : MT) : TT := fun σ H Q' => ∃ (ρ : Rho) (Cs : Cells) (E : XW) (Q : Bool → Cells → Prop), RelS X.K X.N.length H σ ρ ∧ RelC X.K H Cs ∧ t E ρ Cs Q ∧
  (∀ b Cs' H', Q b Cs' → Tr X.K H H' → RelC X.K H' Cs' → Q' b H') ∧ LnkX X.K X.N.length Wx σ H E
def liftA (X : Cx) (Wx : WX) (t : MA) : TA := fun σ H Q' => ∃ (ρ : Rho) (Cs : Cells) (E : XW) (Q : List W → Cells → Prop), RelS X.K X.N.length H σ ρ ∧ RelC X.K H Cs ∧ t E ρ Cs Q ∧
  (∀ ws Cs' vs H', Q ws Cs' → Tr X.K H H' → RelC X.K H' Cs' → reps X.K H' ws vs → Q' vs H') ∧ LnkX X.K X.N.length Wx σ H E
def QE (X : Cx) (e : Expr) (t : ME) : Prop := ∀ Wx, Takes X Wx → PE X e (liftE X Wx t)
def QT (X : Cx) (e : Expr) (t : MT) : Prop := ∀ Wx, Takes X Wx → PT X e (liftT X Wx t)
def QA (X : Cx) (es : List Expr) (t : MA) : Prop := ∀ Wx, Takes X Wx → PA X es (liftA X Wx t)
theorem pe_imp {X : Cx} {e : Expr} {t t' : TE} (h : PE X e t) (k : ∀ σ H Q, t' σ H Q → t σ H Q) : PE X e t' := ⟨fun pins s σ H Q I q => h.run pins s σ H Q I (k σ H Q q)⟩
theorem pt_imp {X : Cx} {e : Expr} {t t' : TT} (h : PT X e t) (k : ∀ σ H Q, t' σ H Q → t σ H Q) : PT X e t' := ⟨fun pins s σ H Q I q => h.run pins s σ H Q I (k σ H Q q)⟩
theorem pa_imp {X : Cx} {e : List Expr} {t t' : TA} (h : PA X e t) (k : ∀ σ H Q, t' σ H Q → t σ H Q) : PA X e t' := ⟨fun pos pins s σ H Q I q => h.run pos pins s σ H Q I (k σ H Q q)⟩
theorem ps_imp {X : Cx} {e : Stmt} {t t' : TS} (h : PS X e t) (k : ∀ D σ H, t' D σ H → t D σ H) : PS X e t' := ⟨fun pins s σ H D I q => h.run pins s σ H D I (k D σ H q)⟩
theorem pss_imp {X : Cx} {e : List Stmt} {t t' : TS} (h : PSs X e t) (k : ∀ D σ H, t' D σ H → t D σ H) : PSs X e t' := ⟨fun pins s σ H D I q => h.run pins s σ H D I (k D σ H q)⟩
section
variable {K : PySem.W.Frag} {n : Nat} {Wx : WX} {σ : L2.St} {H H1 : Hp} {E : XW}
theorem LnkX.mono (L : LnkX K n Wx σ H E) (tr : Tr K H H1) : LnkX K n Wx σ H1 E := ⟨fun C w Cs d v H' e t2 rc rp xv => L.ex C w Cs d v H' e (tr.trans t2) rc rp xv⟩
end

/-! ### statements -/
structure EndsW where
  nx : Rho → Cells → Prop
  rt : W → Cells → Prop
  bk : Rho → Cells → Prop
  ct : Rho → Cells → Prop
  ex : Addr → W → Rho → Cells → Prop
abbrev MS := EndsW → Rho → Cells → Prop
structure LnkS (X : Cx) (Wx : WX) (H : Hp) (DW : EndsW) (D : Ends) : Prop where
  nx : ∀ ρ Cs σ H', DW.nx ρ Cs → Tr X.K H H' → RelS X.K X.N.length H' σ ρ → RelC X.K H' Cs → D.nx σ H'
  rt : ∀ w Cs v H', DW.rt w Cs → Tr X.K H H' → RelC X.K H' Cs → rep X.K H' w v → D.rt v H'
  bk : ∀ ρ Cs σ H', DW.bk ρ Cs → Tr X.K H H' → RelS X.K X.N.length H' σ ρ → RelC X.K H' Cs → D.bk σ H'
  ct : ∀ ρ Cs σ H', DW.ct ρ Cs → Tr X.K H H' → RelS X.K X.N.length H' σ ρ → RelC X.K H' Cs → D.ct σ H'
  ex : ∀ C w ρ Cs σ d v H', DW.ex C w ρ Cs → Tr X.K H H' → RelS X.K X.N.length H' σ ρ → RelC X.K H' Cs → rep X.K H' w v → XVal H' d v → Wx (.ref C) d σ H'
def liftS (X : Cx) (Wx : WX) (t : MS) : TS := fun D σ H => ∃ (ρ : Rho) (Cs : Cells) (DW : EndsW), RelS X.K X.N.length H σ ρ ∧ RelC X.K H Cs ∧ t DW ρ Cs ∧ LnkS X Wx H DW D
def QS (X : Cx) (s : Stmt) (t : MS) : Prop := ∀ Wx, Takes X Wx → PS X s (liftS X Wx t)
def QSs (X : Cx) (ss : List Stmt) (t : MS) : Prop := ∀ Wx, Takes X Wx → PSs X ss (liftS X Wx t)
section
variable {X : Cx} {Wx : WX} {H H1 : Hp} {DW : EndsW} {D : Ends}
theorem LnkS.mono (L : LnkS X Wx H DW D) (tr : Tr X.K H H1) : LnkS X Wx H1 DW D :=
  ⟨fun ρ Cs σ H' e t2 => L.nx ρ Cs σ H' e (tr.trans t2), fun w Cs v H' e t2 => L.rt w Cs v H' e (tr.trans t2), fun ρ Cs σ H' e t2 => L.bk ρ Cs σ H' e (tr.trans t2),
    fun ρ Cs σ H' e t2 => L.ct ρ Cs σ H' e (tr.trans t2), fun C w ρ Cs σ d v H' e t2 => L.ex C w ρ Cs σ d v H' e (tr.trans t2)⟩
/-- the exceptions of an expression, in a statement -/
theorem LnkS.lnkX (L : LnkS X Wx H DW D) {σ : L2.St} {ρ : Rho} (R : RelS X.K X.N.length H σ ρ) : LnkX X.K X.N.length Wx σ H (fun C w Cs => DW.ex C w ρ Cs) :=
  ⟨fun C w Cs d v H' e tr rc rp xv => L.ex C w ρ Cs σ d v H' e tr (R.mono tr) rc rp xv⟩
end
end SL
namespace SL
open PySem PySem.Spec PyProof.Rows L2

/-! ### defs -/
/-- as FnOk, where nothing is being shown around the call -/
structure FnG (P : Program) (w : World) (K : PySem.W.Frag) (mg : Str → Option Value) (base : Heap) (k : Nat) (f : Addr) (fd : FuncData) (ps : List Str) (sp : Sp) : Prop where
  len : ∀ vs H Q E, sp vs H Q E → vs.length = ps.length
  run : ∀ (A : Around) (outer : List Env) (s : Shared) (H : Hp) (args : Args) (us : List Value) (vs : List V) (Q : VK) (E : XK), Room k A → A.guards = some [] → Env0 P w K mg base A outer s H → BindsTo s fd args (ps.zip us) → Vals vs us → sp vs H Q E →
    codeAny (model P w) A (.call (.ref f) args) (CR (L2.CX P w) outer P w H s Q E) s
theorem FnG.mono {P : Program} {w : World} {K : PySem.W.Frag} {mg : Str → Option Value} {base : Heap} {j k : Nat} {f : Addr} {fd : FuncData} {ps : List Str} {sp : Sp} (F : FnG P w K mg base j f fd ps sp) (h : j ≤ k) :
    FnG P w K mg base k f fd ps sp := ⟨F.len, fun A outer s H args us vs Q E hr => F.run A outer s H args us vs Q E (hr.mono h)⟩
/-- one that is shown at each state apart -/
theorem FnG.of_each {P : Program} {w : World} {K : PySem.W.Frag} {mg : Str → Option Value} {base : Heap} {k : Nat} {f : Addr} {fd : FuncData} {ps : List Str} {sp : Sp} (len : ∀ vs H Q E, sp vs H Q E → vs.length = ps.length)
    (h : ∀ vs₀ H₀ Q₀ E₀, sp vs₀ H₀ Q₀ E₀ → ∃ sp', FnG P w K mg base k f fd ps sp' ∧ sp' vs₀ H₀ Q₀ E₀) : FnG P w K mg base k f fd ps sp :=
  ⟨len, fun A outer s H args us vs Q E hr hg he hb hv hs => by
    obtain ⟨sp', F, q⟩ := h vs H Q E hs
    exact F.run A outer s H args us vs Q E hr hg he hb hv q⟩

theorem Fun.okG {P : Program} {w : World} {K : PySem.W.Frag} {mg : Str → Option Value} {base : Heap} {x qual : Str} {st : Stmt} {f : Addr} {fd : FuncData} {N ps : List Str} {k : Nat} {sp : Sp} (F : Fun K x qual st f fd) (S : FnScope N ps (defScope st))
    (len : ∀ vs H Q E, sp vs H Q E → vs.length = ps.length)
    (hbody : ∀ (cdv : Value) (A : Around) (outer : List Env) (s : Shared) (H : Hp) (vs : List V) (Q : VK) (E : XK), Room k (A.deeper (envOfC qual (defScope st) s.heap.objs.size f cdv)) → A.guards = some [] → sp vs H Q E →
      ∃ t, PSs (cxOf (L2.CX P w) P w K mg base N qual (defScope st) f cdv A outer s H E) (defBody st) t ∧ t { nx := fun _ H' => Q .non H', rt := Q } (start N vs) H) : FnG P w K mg base (k + 1) f fd ps sp := by
  obtain ⟨oc, od, kV, doc, pm, an, cdv, ct, osl, rfl, lk, hcd⟩ := F.ex
  refine ⟨len, fun A outer s H args us vs Q E hr hgu e0 hb r hsp => ?_⟩
  have kh : ∀ b o, base.get? b = some o → s.heap.get? b = some o := fun b o e => (e0.bs b o e).1
  have KX := e0.mod.kin.keeps kh
  have lim := e0.mod.nolimit.keeps kh
  have kinds : ∀ y ∈ ps.zip us, (defScope st).names.lookup y.1 = some .local ∨ ((defScope st).names.lookup y.1 = some .cell ∧ ((cellsFrom (s.heap.objs.size + 1) (defScope st).names []).lookup y.1).isSome = true) := by
    rintro ⟨n, v⟩ hy
    cases S.par n (List.of_mem_zip hy).1 with
    | inl q => exact Or.inl q
    | inr q => exact Or.inr ⟨q, PySem.W.cellsFrom_some _ _ _ (Or.inl q)⟩
  refine codeAny_call_function hr.depth (KX _ _ lk) rfl S.co S.gen rfl (PySem.W.codeRec_of KX hcd) (hb _ _ _ _ (wpAny_newFunctionEnv_cells S.kind kinds fun env he s1 x => ?_))
  subst he
  refine ⟨lim.keeps x.toInCall.keep, codeAny_func ?_⟩
  obtain ⟨t, ht, hq⟩ := hbody cdv A outer s H vs Q E (hr.deeper _) hgu hsp
  refine wpAny_mono (ht.run [] s1 (L2.start N vs) H _ (inv_start S hr.hd e0 (len _ _ _ _ hsp) r x) hq) (fun fl s' hs => ?_) fun _ _ hs => hs
  cases fl with
  | ret u =>
    obtain ⟨v, σ', H', J, rv, q⟩ := hs
    exact ⟨v, H', J.os, J.bare, J.base, J.hok, rv, q⟩
  | next =>
    obtain ⟨σ', H', J, q⟩ := hs
    exact ⟨V.non, H', J.os, J.bare, J.base, J.hok, rfl, q⟩
  | brk => exact hs.elim fun _ h => h.elim fun _ h => h.2.elim
  | cont => exact hs.elim fun _ h => h.elim fun _ h => h.2.elim

section
variable {X : Cx} {k : Nat} {f : Addr} {fd : FuncData} {ps : List Str} {sp : Sp} {W : WX} {x : Str} {p pos : Pos} {e : Expr} {es : List Expr} {t : TA}
/-- the callee runs -/
theorem run_fnG {pins : List (Addr × Obj)} {σ : L2.St} {H : Hp} {s : Shared} {Q : VK} {us : List Value} {vs : List V} {args : Args} (F : FnG X.prog X.w X.K X.mg X.base k f fd ps sp) (hr : Room k X.A) (hgu : X.A.guards = some []) (tk : Takes X W)
    (I : Inv X pins σ H s) (hb : BindsTo s fd args (ps.zip us)) (r : Vals vs us) (h : sp vs H Q (fun c d H' => W c d σ H')) : codeAny (model X.prog X.w) X.A (.call (.ref f) args) (fun r s' => match r with
      | .ok (.ret u) => EP X pins σ Q u s'
      | .ok _ => False
      | .error e => X.xe e s') s := by
  refine codeAny_mono (F.run X.A X.stack s H args us vs Q _ hr hgu I.env0 hb r h) fun r s' hq => ?_
  cases r with
  | error e => exact tk e s' (XE.of_call I (fun _ _ _ h => h) hq)
  | ok fl =>
    cases fl with
    | ret u => exact I.after hq
    | next => exact False.elim hq
    | brk => exact False.elim hq
    | cont => exact False.elim hq
theorem run_callG {pins : List (Addr × Obj)} {σ : L2.St} {H : Hp} {s : Shared} {Q : VK} {us : List Value} {vs : List V} (F : FnG X.prog X.w X.K X.mg X.base k f fd ps sp) (hr : Room k X.A) (hgu : X.A.guards = some []) (tk : Takes X W) (hb : Binds X.K fd ps [])
    (I : Inv X pins σ H s) (r : Vals vs us) (h : sp vs H Q (fun c d H' => W c d σ H')) : wpAny (model X.prog X.w) X.A (call (.ref f) us) (EP X pins σ Q) X.xe s := by
  have hl : us.length = ps.length := by rw [← r.length]; exact F.len _ _ _ _ h
  have hb' := hb s us I.kIn (by rw [List.append_nil]; exact hl)
  rw [List.append_nil] at hb'
  refine wpAny_call (codeAny_mono (run_fnG F hr hgu tk I hb' r h) fun r s' hq => ?_)
  cases r with
  | error e => exact hq
  | ok fl =>
    cases fl with
    | ret u => exact hq
    | next => exact hq.elim
    | brk => exact hq.elim
    | cont => exact hq.elim
/-- f(e, ..) -/
def tCallG (sp : Sp) (W : WX) (t : TA) : TE := fun σ H Q => t σ H fun vs H1 => sp vs H1 Q (fun c d H' => W c d σ H')
theorem pe_callG (F : FnG X.prog X.w X.K X.mg X.base k f fd ps sp) (hr : Room k X.A) (hgu : X.A.guards = some []) (hg : Gl X x) (hm : X.mg x = some (.ref f)) (hk : PySem.W.keepIn X.K (.ref f) = true) (hb : Binds X.K fd ps []) (tk : Takes X W)
    (ha : PA X (e :: es) t) (hdb : (x == ("__debug__" : Str)) = false := by decide) (he : starEach (e :: es) X.env = (false, eval e X.env) :: starEach es X.env := by rfl) (hpl : (backTo pos (starEach es X.env)).any (·.1) = false := by rfl) :
    PE X (.Call (.Name x p) (e :: es) [] pos) (tCallG sp W t) := ⟨fun pins s σ H Q I h => wpAny_Call_Name_kw (ld_glob I hg hm (PySem.W.callWith_K (h₀ := X.base) I.ok.mod.kin hk (thn (ha.run pos pins s σ H _ I h) fun us s1 ⟨vs, H1, I1, r, q⟩ => ⟨I1.kIn, run_callG F hr hgu tk hb I1 r q⟩) he hpl) hdb)⟩
theorem pe_callG0 (F : FnG X.prog X.w X.K X.mg X.base k f fd ps sp) (hr : Room k X.A) (hgu : X.A.guards = some []) (hg : Gl X x) (hm : X.mg x = some (.ref f)) (hk : PySem.W.keepIn X.K (.ref f) = true) (hb : Binds X.K fd ps []) (tk : Takes X W)
    (hdb : (x == ("__debug__" : Str)) = false := by decide) : PE X (.Call (.Name x p) [] [] pos) (tCallG sp W tNil) :=
  ⟨fun pins s σ H Q I h => wpAny_Call_Name_kw (ld_glob I hg hm (PySem.W.callWith_K0 I.kIn hk (run_callG (us := []) F hr hgu tk hb I .nil h)) hdb)⟩
/-- f(a, k=b) -/
theorem pe_callGK {ks : List Str} {g : List Value → List Value → List Value} {gV : List V → List V → List V} {kw : Keyword} {kws : List Keyword} {tk' : TA} (F : FnG X.prog X.w X.K X.mg X.base k f fd ps sp) (hr : Room k X.A) (hgu : X.A.guards = some []) (hg : Gl X x) (hm : X.mg x = some (.ref f)) (hk : PySem.W.keepIn X.K (.ref f) = true) (hb : KBinds X.K fd ps ks g gV) (tk : Takes X W)
    (ha : PA X es t) (hkw : PK X (kw :: kws) tk') : True := trivial
end
end SL
namespace SL
open PySem PySem.Spec PyProof.Rows L2

abbrev WK := W → Cells → Prop
abbrev RW2 := W → W → Cells → WK → Prop
abbrev RW1 := W → Cells → WK → Prop
abbrev RWL := List W → Cells → WK → Prop
/-- the end of a step: from what is told of trees to what is told of values -/
def Fin (K : PySem.W.Frag) (H : Hp) (Q : WK) (Q' : VK) : Prop := ∀ w Cs v H', Q w Cs → Tr K H H' → RelC K H' Cs → rep K H' w v → Q' v H'
def Lk2 (K : PySem.W.Frag) (r : R2) (q : RW2) : Prop := ∀ x y vx vy H Cs Q Q', q x y Cs Q → RelC K H Cs → rep K H x vx → rep K H y vy → Fin K H Q Q' → r vx vy H Q'
def Lk1 (K : PySem.W.Frag) (r : V → Hp → VK → Prop) (q : RW1) : Prop := ∀ x vx H Cs Q Q', q x Cs Q → RelC K H Cs → rep K H x vx → Fin K H Q Q' → r vx H Q'
def LkL (K : PySem.W.Frag) (r : List V → Hp → VK → Prop) (q : RWL) : Prop := ∀ xs vs H Cs Q Q', q xs Cs Q → RelC K H Cs → reps K H xs vs → Fin K H Q Q' → r vs H Q'
section
variable {K : PySem.W.Frag} {H H1 : Hp} {Q : WK} {Q' : VK}
theorem Fin.mono (h : Fin K H Q Q') (tr : Tr K H H1) : Fin K H1 Q Q' := fun w Cs v H' e t2 rc rp => h w Cs v H' e (tr.trans t2) rc rp
theorem Fin.here (h : Fin K H Q Q') {w : W} {v : V} {Cs : Cells} (q : Q w Cs) (rc : RelC K H Cs) (rp : rep K H w v) : Q' v H := h w Cs v H q (Tr.refl H) rc rp
end

/-! ### combinators -/
def mVar (i : Nat) : ME := fun _ ρ Cs Q => ∃ w, ρ i = some w ∧ Q w Cs
def mC (w : W) : ME := fun _ _ Cs Q => Q w Cs
def mBin (q : RW2) (ta tb : ME) : ME := fun E ρ Cs Q => ta E ρ Cs fun x C1 => tb E ρ C1 fun y C2 => q x y C2 Q
def mUn (q : RW1) (ta : ME) : ME := fun E ρ Cs Q => ta E ρ Cs fun x C1 => q x C1 Q
def mNil : MA := fun _ _ Cs Q => Q [] Cs
def mCons (t : ME) (u : MA) : MA := fun E ρ Cs Q => t E ρ Cs fun x C1 => u E ρ C1 fun xs C2 => Q (x :: xs) C2
def mCB (q : RWL) (t : MA) : ME := fun E ρ Cs Q => t E ρ Cs fun xs C1 => q xs C1 Q
def mTest (t : ME) : MT := fun E ρ Cs Q => t E ρ Cs fun w C => ∃ b, w = .bl b ∧ Q b C
def mAnd (t u : MT) : MT := fun E ρ Cs Q => t E ρ Cs fun b C => (b = true → u E ρ C Q) ∧ (b = false → Q false C)
def mOr (t u : MT) : MT := fun E ρ Cs Q => t E ρ Cs fun b C => (b = true → Q true C) ∧ (b = false → u E ρ C Q)
def mNot (t : MT) : MT := fun E ρ Cs Q => t E ρ Cs fun b C => Q (!b) C
def mIf (c : MT) (t u : ME) : ME := fun E ρ Cs Q => c E ρ Cs fun b C => (b = true → t E ρ C Q) ∧ (b = false → u E ρ C Q)
def mAndV (t u : ME) : ME := fun E ρ Cs Q => t E ρ Cs fun w C => ∃ b, w = .bl b ∧ (b = true → u E ρ C Q) ∧ (b = false → Q (.bl false) C)
def mOrV (t u : ME) : ME := fun E ρ Cs Q => t E ρ Cs fun w C => ∃ b, w = .bl b ∧ (b = true → Q (.bl true) C) ∧ (b = false → u E ρ C Q)
def mNotV (t : ME) : ME := fun E ρ Cs Q => t E ρ Cs fun w C => ∃ b, w = .bl b ∧ Q (.bl (!b)) C
def mTup (t : MA) : ME := fun E ρ Cs Q => t E ρ Cs fun ws C => ws.length ≤ 1000 ∧ Q (.tup ws) C
def mLst (t : MA) : ME := fun E ρ Cs Q => t E ρ Cs fun ws C => ws.length ≤ 1000 ∧ ∀ p, Q (.ref p) ((p, .lst ws) :: C)
def mChain (q q' : RW2) (ta tb tc : ME) : ME := fun E ρ Cs Q => ta E ρ Cs fun x C1 => tb E ρ C1 fun y C2 => q x y C2 fun z C3 => ∃ k, z = .bl k ∧ (k = true → tc E ρ C3 fun u C4 => q' y u C4 Q) ∧ (k = false → Q (.bl false) C3)

theorem sz1000 {n : Nat} (h : n ≤ 1000) : n ≤ sizeLine := Nat.le_trans h (by decide)

section
variable {X : Cx} {a b c e : Expr} {es : List Expr} {ta tb tc : ME} {t u : MT} {pos p : Pos}
theorem qe_var (i : Nat) {x : Str} (hN : X.N[i]? = some x := by rfl) (hv : Vis X.env.scope x := by first | exact Or.inl rfl | exact Or.inr (Or.inl rfl) | exact Or.inr (Or.inr rfl)) (hd : (x == ("__debug__" : Str)) = false := by decide)
    (hcd : (x == ("__classdict__" : Str)) = false := by decide) : QE X (.Name x pos) (mVar i) := fun Wx _ => pe_imp (pe_var hN hv hd hcd) fun σ H Q' ⟨ρ, Cs, E, Q, R, C, ⟨w, e, q⟩, kQ, _⟩ => by
  obtain ⟨v, h1, h2⟩ := R.at_ i w e
  exact ⟨v, h1, kQ w Cs v H q (Tr.refl H) C h2⟩
theorem qe_const {w : W} {v : V} (h : PE X e (tC v)) (r : ∀ H, rep X.K H w v) : QE X e (mC w) := fun Wx _ => pe_imp h fun σ H Q' ⟨ρ, Cs, E, Q, R, C, q, kQ, _⟩ => kQ w Cs v H q (Tr.refl H) C (r H)
theorem qe_int {i j} : QE X (.Constant (.int i) j pos) (mC (.int i)) := qe_const pe_int fun _ => rep_int.mpr rfl
theorem qe_bl {i j} : QE X (.Constant (.bool i) j pos) (mC (.bl i)) := qe_const pe_bl fun _ => rep_bl.mpr rfl
theorem qe_non {j} : QE X (.Constant .none j pos) (mC .non) := qe_const pe_non fun _ => rep_non.mpr rfl
theorem qe_str {x j} : QE X (.Constant (.str x) j pos) (mC (.str x)) := qe_const pe_str fun _ => rep_str.mpr rfl
/-- a module's constant -/
theorem qe_glob {x : Str} {w : W} {v : V} {u : Value} (hg : Gl X x) (hm : X.mg x = some u) (r : RelV v u) (rp : ∀ H, rep X.K H w v) (hd : (x == ("__debug__" : Str)) = false := by decide) : QE X (.Name x pos) (mC w) := qe_const (pe_glob hg hm r hd) rp

theorem lift2 {r : R2} {q : RW2} (lk : Lk2 X.K r q) {Wx : WX} {σ : L2.St} {H : Hp} {Q' : VK} (h : liftE X Wx (mBin q ta tb) σ H Q') : tOp r (liftE X Wx ta) (liftE X Wx tb) σ H Q' := by
  obtain ⟨ρ, Cs, E, Q, R, C, h, kQ, kE⟩ := h
  exact ⟨ρ, Cs, E, _, R, C, h, fun x C1 vx H1 hx tr1 rc1 rx => ⟨ρ, C1, E, _, R.mono tr1, rc1, hx, fun y C2 vy H2 hy tr2 rc2 ry => lk x y vx vy H2 C2 Q Q' hy rc2 (rep_mono tr2 _ _ rx) ry fun w C3 v H3 hw tr3 rc3 rw3 => kQ w C3 v H3 hw ((tr1.trans tr2).trans tr3) rc3 rw3, kE.mono tr1⟩, kE⟩
theorem qe_bin {op : Operator} {r : R2} {q : RW2} (ho : OpR X (binaryOp op) r) (lk : Lk2 X.K r q) (ha : QE X a ta) (hb : QE X b tb) : QE X (.BinOp a op b pos) (mBin q ta tb) := fun Wx tk => pe_imp (pe_op ho (ha Wx tk) (hb Wx tk)) fun _ _ _ h => lift2 lk h
theorem qe_cmp {op : CmpOp} {r : R2} {q : RW2} (ho : OpR X (compareOp op) r) (lk : Lk2 X.K r q) (ha : QE X a ta) (hb : QE X b tb) (hm : behindInMarks op b = false) : QE X (.Compare a [op] [b] pos) (mBin q ta tb) := fun Wx tk => pe_imp (pe_cmpR ho (ha Wx tk) (hb Wx tk) hm) fun _ _ _ h => lift2 lk h
theorem qe_ix {r : R2} {q : RW2} (hr : IxR X r) (lk : Lk2 X.K r q) (ha : QE X a ta) (hb : QE X b tb) (hs : PlainIx b) : QE X (.Subscript a b pos) (mBin q ta tb) := fun Wx tk => pe_imp (pe_ix hr (ha Wx tk) (hb Wx tk) hs) fun _ _ _ h => lift2 lk h
theorem qe_un {op : UnaryOp} {r : V → Hp → VK → Prop} {q : RW1} (ho : UnR X (unaryOp op) r) (lk : Lk1 X.K r q) (ha : QE X a ta) : QE X (.UnaryOp op a pos) (mUn q ta) := fun Wx tk => pe_imp (pe_un ho (ha Wx tk)) fun σ H Q' ⟨ρ, Cs, E, Q, R, C, h, kQ, kE⟩ =>
  ⟨ρ, Cs, E, _, R, C, h, fun x C1 vx H1 hx tr1 rc1 rx => lk x vx H1 C1 Q Q' hx rc1 rx (Fin.mono kQ tr1), kE⟩
/-! tests -/
theorem lift_test {Wx : WX} {σ : L2.St} {H : Hp} {Q' : Bool → Hp → Prop} (h : liftT X Wx (mTest ta) σ H Q') : liftE X Wx ta σ H fun x H' => ∃ k, x = .bl k ∧ Q' k H' := by
  obtain ⟨ρ, Cs, E, Q, R, C, h, kQ, kE⟩ := h
  refine ⟨ρ, Cs, E, _, R, C, h, fun w C1 v H1 hw tr rc rp => ?_, kE⟩
  obtain ⟨b, rfl, q⟩ := hw
  exact ⟨b, rep_bl.mp rp, kQ b C1 H1 q tr rc⟩
theorem qt_cmp {op : CmpOp} {r : R2} {q : RW2} (ho : OpR X (compareOp op) r) (lk : Lk2 X.K r q) (ha : QE X a ta) (hb : QE X b tb) (hm : behindInMarks op b = false) : QT X (.Compare a [op] [b] pos) (mTest (mBin q ta tb)) := fun Wx tk => pt_imp (pt_cmpR ho (ha Wx tk) (hb Wx tk) hm) fun σ H Q' h => by
  obtain ⟨ρ, Cs, E, Q, R, C, h, kQ, kE⟩ := lift_test h
  exact lift2 (Q' := fun x H' => ∃ k, x = .bl k ∧ Q' k H') lk ⟨ρ, Cs, E, Q, R, C, h, kQ, kE⟩
/-- an expression that gives True or False, as a test -/
theorem qt_val (ha : QE X a ta) (he : ∀ whole, isTrue a X.env whole = (do let v ← whole; standAt a.pos; holding [v] (truthy v)) := by intro _; rfl) : QT X a (mTest ta) := fun Wx tk => pt_imp (pt_val (ha Wx tk) he) fun σ H Q' h => lift_test h
theorem qt_not (ha : QT X a t) : QT X (.UnaryOp .Not a pos) (mNot t) := fun Wx tk => pt_imp (pt_not (ha Wx tk)) fun σ H Q' ⟨ρ, Cs, E, Q, R, C, h, kQ, kE⟩ => ⟨ρ, Cs, E, _, R, C, h, fun b C1 H1 hb tr rc => kQ _ C1 H1 hb tr rc, kE⟩
/-- an and, an or as tests: from the right -/
structure QW (X : Cx) (e : Expr) (t : MT) : Prop where
  run : ∀ Wx, Takes X Wx → PW X e (liftT X Wx t)
theorem pw_imp {t t' : TT} (h : PW X e t) (k : ∀ σ H Q, t' σ H Q → t σ H Q) : PW X e t' := ⟨fun wh pins s σ H Q I q => h.run wh pins s σ H Q I (k σ H Q q)⟩
theorem qw_and1 (ha : QT X a t) : QW X (.BoolOp .And [a] pos) t := ⟨fun Wx tk => pw_and1 (ha Wx tk)⟩
theorem qw_or1 (ha : QT X a t) : QW X (.BoolOp .Or [a] pos) t := ⟨fun Wx tk => pw_or1 (ha Wx tk)⟩
theorem qw_and {rest : List Expr} (ha : QT X a t) (hb : QW X (.BoolOp .And (b :: rest) pos) u) : QW X (.BoolOp .And (a :: b :: rest) pos) (mAnd t u) := ⟨fun Wx tk => pw_imp (pw_and (ha Wx tk) (hb.run Wx tk)) fun σ H Q' ⟨ρ, Cs, E, Q, R, C, h, kQ, kE⟩ => ⟨ρ, Cs, E, _, R, C, h, fun k C1 H1 ⟨h1, h2⟩ tr rc => by
  cases k with
  | true =>
    rw [if_pos rfl]
    exact ⟨ρ, C1, E, Q, R.mono tr, rc, h1 rfl, fun k2 C2 H2 q tr2 rc2 => kQ k2 C2 H2 q (tr.trans tr2) rc2, kE.mono tr⟩
  | false =>
    rw [if_neg Bool.false_ne_true]
    exact kQ false C1 H1 (h2 rfl) tr rc, kE⟩⟩
theorem qw_or {rest : List Expr} (ha : QT X a t) (hb : QW X (.BoolOp .Or (b :: rest) pos) u) : QW X (.BoolOp .Or (a :: b :: rest) pos) (mOr t u) := ⟨fun Wx tk => pw_imp (pw_or (ha Wx tk) (hb.run Wx tk)) fun σ H Q' ⟨ρ, Cs, E, Q, R, C, h, kQ, kE⟩ => ⟨ρ, Cs, E, _, R, C, h, fun k C1 H1 ⟨h1, h2⟩ tr rc => by
  cases k with
  | true =>
    rw [if_pos rfl]
    exact kQ true C1 H1 (h1 rfl) tr rc
  | false =>
    rw [if_neg Bool.false_ne_true]
    exact ⟨ρ, C1, E, Q, R.mono tr, rc, h2 rfl, fun k2 C2 H2 q tr2 rc2 => kQ k2 C2 H2 q (tr.trans tr2) rc2, kE.mono tr⟩, kE⟩⟩
theorem QW.qt (h : QW X e t) : QT X e t := fun Wx tk => (h.run Wx tk).pt
theorem qe_if (hc : QT X c t) (ha : QE X a ta) (hb : QE X b tb) : QE X (.IfExp c a b pos) (mIf t ta tb) := fun Wx tk => pe_imp (pe_ifExp (hc Wx tk) (ha Wx tk) (hb Wx tk)) fun σ H Q' ⟨ρ, Cs, E, Q, R, C, h, kQ, kE⟩ => ⟨ρ, Cs, E, _, R, C, h, fun k C1 H1 ⟨h1, h2⟩ tr rc => by
  cases k with
  | true =>
    rw [if_pos rfl]
    exact ⟨ρ, C1, E, Q, R.mono tr, rc, h1 rfl, Fin.mono kQ tr, kE.mono tr⟩
  | false =>
    rw [if_neg Bool.false_ne_true]
    exact ⟨ρ, C1, E, Q, R.mono tr, rc, h2 rfl, Fin.mono kQ tr, kE.mono tr⟩, kE⟩
/-! values of and, or, not -/
theorem qe_one {op} (h : QE X a ta) : QE X (.BoolOp op [a] pos) ta := fun Wx tk => pe_one (h Wx tk)
theorem qe_and {rest : List Expr} (ha : QE X a ta) (hb : QE X (.BoolOp .And (b :: rest) pos) tb) : QE X (.BoolOp .And (a :: b :: rest) pos) (mAndV ta tb) := fun Wx tk => pe_imp (pe_and (ha Wx tk) (hb Wx tk)) fun σ H Q' ⟨ρ, Cs, E, Q, R, C, h, kQ, kE⟩ => ⟨ρ, Cs, E, _, R, C, h, fun w C1 v H1 hw tr rc rp => by
  obtain ⟨k, rfl, h1, h2⟩ := hw
  refine ⟨k, rep_bl.mp rp, ?_⟩
  cases k with
  | true =>
    rw [if_pos rfl]
    exact ⟨ρ, C1, E, Q, R.mono tr, rc, h1 rfl, Fin.mono kQ tr, kE.mono tr⟩
  | false =>
    rw [if_neg Bool.false_ne_true]
    exact kQ _ C1 _ H1 (h2 rfl) tr rc (rep_bl.mpr rfl), kE⟩
theorem qe_or {rest : List Expr} (ha : QE X a ta) (hb : QE X (.BoolOp .Or (b :: rest) pos) tb) : QE X (.BoolOp .Or (a :: b :: rest) pos) (mOrV ta tb) := fun Wx tk => pe_imp (pe_or (ha Wx tk) (hb Wx tk)) fun σ H Q' ⟨ρ, Cs, E, Q, R, C, h, kQ, kE⟩ => ⟨ρ, Cs, E, _, R, C, h, fun w C1 v H1 hw tr rc rp => by
  obtain ⟨k, rfl, h1, h2⟩ := hw
  refine ⟨k, rep_bl.mp rp, ?_⟩
  cases k with
  | true =>
    rw [if_pos rfl]
    exact kQ _ C1 _ H1 (h1 rfl) tr rc (rep_bl.mpr rfl)
  | false =>
    rw [if_neg Bool.false_ne_true]
    exact ⟨ρ, C1, E, Q, R.mono tr, rc, h2 rfl, Fin.mono kQ tr, kE.mono tr⟩, kE⟩
theorem qe_not (ha : QE X a ta) : QE X (.UnaryOp .Not a pos) (mNotV ta) := fun Wx tk => pe_imp (pe_not (ha Wx tk)) fun σ H Q' ⟨ρ, Cs, E, Q, R, C, h, kQ, kE⟩ => ⟨ρ, Cs, E, _, R, C, h, fun w C1 v H1 hw tr rc rp => by
  obtain ⟨k, rfl, h1⟩ := hw
  exact ⟨k, rep_bl.mp rp, kQ _ C1 _ H1 h1 tr rc (rep_bl.mpr rfl)⟩, kE⟩
/-! chains -/
theorem lift3 {r r' : R2} {q q' : RW2} (lk : Lk2 X.K r q) (lk' : Lk2 X.K r' q') {Wx : WX} {σ : L2.St} {H : Hp} {Q' : VK} (h : liftE X Wx (mChain q q' ta tb tc) σ H Q') : tChain r r' (liftE X Wx ta) (liftE X Wx tb) (liftE X Wx tc) σ H Q' := by
  obtain ⟨ρ, Cs, E, Q, R, C, h, kQ, kE⟩ := h
  refine ⟨ρ, Cs, E, _, R, C, h, fun x C1 vx H1 hx tr1 rc1 rx => ⟨ρ, C1, E, _, R.mono tr1, rc1, hx, fun y C2 vy H2 hy tr2 rc2 ry => lk x y vx vy H2 C2 _ _ hy rc2 (rep_mono tr2 _ _ rx) ry fun w C3 v H3 hw tr3 rc3 rw3 => ?_, kE.mono tr1⟩, kE⟩
  obtain ⟨k, rfl, h1, h2⟩ := hw
  have tr := (tr1.trans tr2).trans tr3
  refine ⟨k, rep_bl.mp rw3, ?_⟩
  cases k with
  | true =>
    rw [if_pos rfl]
    exact ⟨ρ, C3, E, _, R.mono tr, rc3, h1 rfl, fun z C4 vz H4 hz tr4 rc4 rz => lk' y z vy vz H4 C4 Q Q' hz rc4 (rep_mono (tr3.trans tr4) _ _ ry) rz (Fin.mono kQ (tr.trans tr4)), kE.mono tr⟩
  | false =>
    rw [if_neg Bool.false_ne_true]
    exact kQ _ C3 _ H3 (h2 rfl) tr rc3 (rep_bl.mpr rfl)
theorem qe_chain {op op' : CmpOp} {r r' : R2} {q q' : RW2} (ho : OpR X (compareOp op) r) (lk : Lk2 X.K r q) (ho' : OpR X (compareOp op') r') (lk' : Lk2 X.K r' q') (ha : QE X a ta) (hb : QE X b tb) (hc : QE X c tc)
    (hm : lastMarks [op, op'] [b, c] = false := by with_unfolding_all rfl) : QE X (.Compare a [op, op'] [b, c] pos) (mChain q q' ta tb tc) := fun Wx tk => pe_imp (pe_chain ho ho' (ha Wx tk) (hb Wx tk) (hc Wx tk) hm) fun _ _ _ h => lift3 lk lk' h
theorem qt_chain {op op' : CmpOp} {r r' : R2} {q q' : RW2} (ho : OpR X (compareOp op) r) (lk : Lk2 X.K r q) (ho' : OpR X (compareOp op') r') (lk' : Lk2 X.K r' q') (ha : QE X a ta) (hb : QE X b tb) (hc : QE X c tc)
    (hm : lastMarks [op, op'] [b, c] = false := by with_unfolding_all rfl) : QT X (.Compare a [op, op'] [b, c] pos) (mTest (mChain q q' ta tb tc)) := fun Wx tk => pt_imp (pt_chain ho ho' (ha Wx tk) (hb Wx tk) (hc Wx tk) hm) fun σ H Q' h => by
  obtain ⟨ρ, Cs, E, Q, R, C, h, kQ, kE⟩ := lift_test h
  exact lift3 (Q' := fun x H' => ∃ k, x = .bl k ∧ Q' k H') lk lk' ⟨ρ, Cs, E, Q, R, C, h, kQ, kE⟩
/-! argument lists, displays -/
theorem qa_nil : QA X [] mNil := fun Wx _ => pa_imp pa_nil fun σ H Q' ⟨ρ, Cs, E, Q, R, C, h, kQ, kE⟩ => kQ [] Cs [] H h (Tr.refl H) C (reps_nil.mpr rfl)
theorem liftCons {tr : MA} {Wx : WX} {σ : L2.St} {H : Hp} {Q' : List V → Hp → Prop} (h : liftA X Wx (mCons ta tr) σ H Q') : tCons (liftE X Wx ta) (liftA X Wx tr) σ H Q' := by
  obtain ⟨ρ, Cs, E, Q, R, C, h, kQ, kE⟩ := h
  exact ⟨ρ, Cs, E, _, R, C, h, fun x C1 vx H1 hx tr1 rc1 rx => ⟨ρ, C1, E, _, R.mono tr1, rc1, hx, fun xs C2 vs H2 hxs tr2 rc2 rxs => kQ (x :: xs) C2 (vx :: vs) H2 hxs (tr1.trans tr2) rc2 (reps_cc.mpr ⟨rep_mono tr2 _ _ rx, rxs⟩), kE.mono tr1⟩, kE⟩
theorem qa_cons {tr : MA} (ha : QE X e ta) (hr : QA X es tr) (hs : starEach (e :: es) X.env = (false, eval e X.env) :: starEach es X.env := by rfl) : QA X (e :: es) (mCons ta tr) := fun Wx tk => pa_imp (pa_cons (ha Wx tk) (hr Wx tk) hs) fun _ _ _ h => liftCons h
theorem qe_tup {x1} {t : MA} (h : QA X es t) : QE X (.Tuple es x1 pos) (mTup t) := fun Wx tk => pe_imp (pe_tup (h Wx tk)) fun σ H Q' ⟨ρ, Cs, E, Q, R, C, h, kQ, kE⟩ => ⟨ρ, Cs, E, _, R, C, h, fun ws C1 vs H1 ⟨hz, hq⟩ tr rc rp =>
  ⟨by rw [← reps_len rp]; exact sz1000 hz, fun p hp => kQ _ C1 _ _ hq (tr.trans (tr_new hp)) (rc.hid hp) (rep_tup.mpr ⟨p, vs, rfl, .inl (.inl upd_same), reps_mono (tr_new hp) _ _ rp⟩)⟩, kE⟩
theorem qe_lst {t : MA} (h : QA X es t) : QE X (.List es pos) (mLst t) := fun Wx tk => pe_imp (pe_lst (h Wx tk)) fun σ H Q' ⟨ρ, Cs, E, Q, R, C, h, kQ, kE⟩ => ⟨ρ, Cs, E, _, R, C, h, fun ws C1 vs H1 ⟨hz, hq⟩ tr rc rp =>
  ⟨by rw [← reps_len rp]; exact sz1000 hz, fun p hp => kQ _ _ _ _ (hq p) (tr.trans (tr_new hp)) (rc.new hp ⟨vs, upd_same, reps_mono (tr_new hp) _ _ rp⟩) (rep_ref.mpr rfl)⟩, kE⟩
/-! calls of built-ins -/
theorem liftCB {r : List V → Hp → VK → Prop} {q : RWL} {t : MA} (lk : LkL X.K r q) {Wx : WX} {σ : L2.St} {H : Hp} {Q' : VK} (h : liftE X Wx (mCB q t) σ H Q') : tCB r (liftA X Wx t) σ H Q' := by
  obtain ⟨ρ, Cs, E, Q, R, C, h, kQ, kE⟩ := h
  exact ⟨ρ, Cs, E, _, R, C, h, fun xs C1 vs H1 hx tr1 rc1 rx => lk xs vs H1 C1 Q Q' hx rc1 rx (Fin.mono kQ tr1), kE⟩
theorem qe_callB {id : String} {x : Str} {r : List V → Hp → VK → Prop} {q : RWL} {t : MA} (hc : CallR X (.builtin id) r) (lk : LkL X.K r q) (hg : Gl X x) (hm : X.mg x = none) (hv : bootBuiltins x = some (.builtin id)) (ha : QA X (e :: es) t)
    (he : starEach (e :: es) X.env = (false, eval e X.env) :: starEach es X.env := by rfl) (hpl : (backTo pos (starEach es X.env)).any (·.1) = false := by rfl) (hn : x ≠ "__name__" := by decide) (hdb : (x == ("__debug__" : Str)) = false := by decide) :
    QE X (.Call (.Name x p) (e :: es) [] pos) (mCB q t) := fun Wx tk => pe_imp (pe_callB hc hg hm hv (ha Wx tk) hn hdb he hpl) fun _ _ _ h => liftCB lk h
theorem qe_callTy {T : String} {x : Str} {r : List V → Hp → VK → Prop} {q : RWL} {t : MA} (hc : CallR X (.type T) r) (lk : LkL X.K r q) (hg : Gl X x) (hm : X.mg x = none) (hv : bootBuiltins x = some (.type T)) (ha : QA X (e :: es) t)
    (he : starEach (e :: es) X.env = (false, eval e X.env) :: starEach es X.env := by rfl) (hpl : (backTo pos (starEach es X.env)).any (·.1) = false := by rfl) (hn : x ≠ "__name__" := by decide) (hdb : (x == ("__debug__" : Str)) = false := by decide) :
    QE X (.Call (.Name x p) (e :: es) [] pos) (mCB q t) := fun Wx tk => pe_imp (pe_callTy hc hg hm hv (ha Wx tk) hn hdb he hpl) fun _ _ _ h => liftCB lk h
end

/-! ### statements -/
def sNext : MS := fun D ρ Cs => D.nx ρ Cs
def sSeq (t u : MS) : MS := fun D ρ Cs => t { D with nx := u D } ρ Cs
def sDrop (t : ME) : MS := fun D ρ Cs => t (fun C w Cs => D.ex C w ρ Cs) ρ Cs fun _ C => D.nx ρ C
def sRet (t : ME) : MS := fun D ρ Cs => t (fun C w Cs => D.ex C w ρ Cs) ρ Cs D.rt
def sRetN : MS := fun D _ Cs => D.rt .non Cs
def sIf (c : MT) (t u : MS) : MS := fun D ρ Cs => c (fun C w Cs => D.ex C w ρ Cs) ρ Cs fun b C => (b = true → t D ρ C) ∧ (b = false → u D ρ C)
def sNever : MS := fun _ _ _ => False
def sBreak : MS := fun D ρ Cs => D.bk ρ Cs
def sCont : MS := fun D ρ Cs => D.ct ρ Cs
/-- targets -/
abbrev MG := Rho → W → Cells → (Rho → Cells → Prop) → Prop
def gSet (i : Nat) : MG := fun ρ w Cs Q => Q (ρ.put i w) Cs
abbrev MGs := Rho → List W → Cells → (Rho → Cells → Prop) → Prop
def gsNil : MGs := fun ρ ws Cs Q => ws = [] ∧ Q ρ Cs
def gsCons (t : MG) (u : MGs) : MGs := fun ρ ws Cs Q => ∃ w r, ws = w :: r ∧ t ρ w Cs fun ρ' C' => u ρ' r C' Q
def gTupW (n : Nat) (t : MGs) : MG := fun ρ w Cs Q => ∃ ws, w = .tup ws ∧ ws.length = n ∧ t ρ ws Cs Q
def sAsg (t : ME) (g : MG) : MS := fun D ρ Cs => t (fun C w Cs => D.ex C w ρ Cs) ρ Cs fun w C => g ρ w C D.nx

section
variable {X : Cx} {a b c e : Expr} {es : List Expr} {ta tb tc : ME} {t u : MT} {pos p : Pos} {st : Stmt} {rest : List Stmt} {s1 s2 : MS}
/-- all slots but those of js are as they were -/
def Off (js : List Nat) (σ σ' : L2.St) : Prop := σ'.length = σ.length ∧ ∀ i, i ∉ js → σ'[i]? = σ[i]?
theorem Off.trans {js ks : List Nat} {σ σ1 σ2 : L2.St} (a : Off js σ σ1) (b : Off ks σ1 σ2) : Off (js ++ ks) σ σ2 := ⟨b.1.trans a.1, fun i hi => by
  rw [List.mem_append, not_or] at hi
  exact (b.2 i hi.2).trans (a.2 i hi.1)⟩
theorem Off.set {σ : L2.St} {i : Nat} {v : Option V} : Off [i] σ (σ.set i v) := ⟨List.length_set, fun j hj => List.getElem?_set_ne (fun e => hj (by simp [e]))⟩
def liftG (X : Cx) (js : List Nat) (t : MG) : TG := fun v σ H Q' => ∃ (ρ : Rho) (w : W) (Cs : Cells) (Q : Rho → Cells → Prop), RelS X.K X.N.length H σ ρ ∧ RelC X.K H Cs ∧ rep X.K H w v ∧ t ρ w Cs Q ∧ (∀ ρ' Cs' σ' H', Q ρ' Cs' → Tr X.K H H' → RelS X.K X.N.length H' σ' ρ' → RelC X.K H' Cs' → Off js σ σ' → Q' σ' H')
def liftGs (X : Cx) (js : List Nat) (t : MGs) : TGs := fun vs σ H Q' => ∃ (ρ : Rho) (ws : List W) (Cs : Cells) (Q : Rho → Cells → Prop), RelS X.K X.N.length H σ ρ ∧ RelC X.K H Cs ∧ reps X.K H ws vs ∧ t ρ ws Cs Q ∧ (∀ ρ' Cs' σ' H', Q ρ' Cs' → Tr X.K H H' → RelS X.K X.N.length H' σ' ρ' → RelC X.K H' Cs' → Off js σ σ' → Q' σ' H')
def QG (X : Cx) (js : List Nat) (e : Expr) (t : MG) : Prop := PG X e (liftG X js t)
def QGs (X : Cx) (js : List Nat) (es : List Expr) (t : MGs) : Prop := PGs X es (liftGs X js t)
theorem pg_imp {t t' : TG} (h : PG X e t) (k : ∀ v σ H Q, t' v σ H Q → t v σ H Q) : PG X e t' := ⟨fun pins s σ H v u Q I r q => h.run pins s σ H v u Q I r (k _ _ _ _ q)⟩
theorem pgs_imp {t t' : TGs} (h : PGs X es t) (k : ∀ v σ H Q, t' v σ H Q → t v σ H Q) : PGs X es t' := ⟨fun pins s σ H v u Q I r q => h.run pins s σ H v u Q I r (k _ _ _ _ q)⟩
theorem qg_name (i : Nat) {x : Str} (hN : X.N.Nodup) (hi : X.N[i]? = some x := by rfl) (hx : Loc X.env.scope x := by first | exact Or.inl rfl | exact Or.inr rfl) (hf : X.fn x = true ∨ X.env.scope.names.lookup x = some .local := by first | exact .inl rfl | exact .inr rfl | assumption) : QG X [i] (.Name x pos) (gSet i) :=
  pg_imp (pg_name hN hi hx hf) fun v σ H Q' ⟨ρ, w, Cs, Q, R, C, rp, h, kQ⟩ => kQ _ Cs _ H h (Tr.refl H) (R.set (List.getElem?_eq_some_iff.mp hi).1 rp) C Off.set
theorem qgs_nil : QGs X [] [] gsNil := pgs_imp pgs_nil fun vs σ H Q' ⟨ρ, ws, Cs, Q, R, C, rp, ⟨e, h⟩, kQ⟩ => by
  subst e
  exact ⟨reps_nil.mp rp, kQ ρ Cs σ H h (Tr.refl H) R C ⟨rfl, fun _ _ => rfl⟩⟩
theorem qgs_cons {js ks : List Nat} {g : MG} {gs : MGs} (h1 : QG X js e g) (h2 : QGs X ks es gs) (hs : (assignEach (e :: es) X.env).map (·.2) = assign e X.env :: (assignEach es X.env).map (·.2) := by rfl) : QGs X (js ++ ks) (e :: es) (gsCons g gs) :=
  pgs_imp (pgs_cons h1 h2 hs) fun vs σ H Q' ⟨ρ, ws, Cs, Q, R, C, rp, ⟨w, r, e, h⟩, kQ⟩ => by
    subst e
    obtain ⟨x, xs, rfl, r1, r2⟩ := reps_cons.mp rp
    exact ⟨x, xs, rfl, ρ, w, Cs, _, R, C, r1, h, fun ρ' C' σ' H' q tr R' rc of => ⟨ρ', r, C', Q, R', rc, reps_mono tr _ _ r2, q, fun ρ2 C2 σ2 H2 q2 tr2 R2 rc2 of2 => kQ ρ2 C2 σ2 H2 q2 (tr.trans tr2) R2 rc2 (of.trans of2)⟩⟩
theorem qg_tup {js : List Nat} {k n : Nat} {gs : MGs} (hc : X.calm = true) (h : QGs X js es gs) (hn : (assignEach es X.env).length = n := by rfl) (hst : (assignEach es X.env).findIdx? (·.1) = none := by rfl) : QG X js (.Tuple es k pos) (gTupW n gs) :=
  pg_imp (pg_tup hc h hn hst) fun v σ H Q' ⟨ρ, w, Cs, Q, R, C, rp, ⟨ws, e, hl, h⟩, kQ⟩ => by
    subst e
    obtain ⟨t, xs, rfl, h1, h2⟩ := rep_tup.mp rp
    exact ⟨t, xs, rfl, h1, by rw [← reps_len h2]; exact hl, ρ, ws, Cs, Q, R, C, h2, h, kQ⟩

/-! statements -/
theorem qss_nil : QSs X [] sNext := fun Wx _ => pss_imp pss_nil fun D σ H ⟨ρ, Cs, DW, R, C, h, L⟩ => L.nx ρ Cs σ H h (Tr.refl H) R C
theorem liftSeq {Wx : WX} {D : Ends} {σ : L2.St} {H : Hp} (h : liftS X Wx (sSeq s1 s2) D σ H) : tSeq (liftS X Wx s1) (liftS X Wx s2) D σ H := by
  obtain ⟨ρ, Cs, DW, R, C, h, L⟩ := h
  exact ⟨ρ, Cs, { DW with nx := s2 DW }, R, C, h, ⟨fun ρ' C' σ' H' q tr R' rc => ⟨ρ', C', DW, R', rc, q, L.mono tr⟩, L.rt, L.bk, L.ct, L.ex⟩⟩
theorem qss_cons (h1 : QS X st s1) (h2 : QSs X rest s2) : QSs X (st :: rest) (sSeq s1 s2) := fun Wx tk => pss_imp (pss_cons (h1 Wx tk) (h2 Wx tk)) fun _ _ _ h => liftSeq h
theorem qss_one (h1 : QS X st s1) : QSs X [st] s1 := fun Wx tk => pss_one (h1 Wx tk)
theorem qs_pass : QS X (.Pass pos) sNext := fun Wx _ => ps_imp ps_pass fun D σ H ⟨ρ, Cs, DW, R, C, h, L⟩ => L.nx ρ Cs σ H h (Tr.refl H) R C
theorem qs_break : QS X (.Break pos) sBreak := fun Wx _ => ps_imp ps_break fun D σ H ⟨ρ, Cs, DW, R, C, h, L⟩ => L.bk ρ Cs σ H h (Tr.refl H) R C
theorem qs_continue : QS X (.Continue pos) sCont := fun Wx _ => ps_imp ps_continue fun D σ H ⟨ρ, Cs, DW, R, C, h, L⟩ => L.ct ρ Cs σ H h (Tr.refl H) R C
theorem qs_never : QS X st sNever := fun Wx _ => ps_imp ps_never fun D σ H ⟨ρ, Cs, DW, R, C, h, L⟩ => h
theorem qss_never {sts : List Stmt} : QSs X sts sNever := fun Wx _ => pss_imp pss_never fun D σ H ⟨ρ, Cs, DW, R, C, h, L⟩ => h
theorem qs_expr (he : QE X e ta) (hs : swapsWith e none pos.line X.env = pure false := by rfl) : QS X (.Expr e pos) (sDrop ta) := fun Wx tk => ps_imp (ps_expr (he Wx tk) hs) fun D σ H ⟨ρ, Cs, DW, R, C, h, L⟩ =>
  ⟨ρ, Cs, _, _, R, C, h, fun w C1 v H1 q tr rc _ => L.nx ρ C1 σ H1 q tr (R.mono tr) rc, L.lnkX R⟩
theorem qs_ret (he : QE X e ta) : QS X (.Return (some e) pos) (sRet ta) := fun Wx tk => ps_imp (ps_ret (he Wx tk)) fun D σ H ⟨ρ, Cs, DW, R, C, h, L⟩ => ⟨ρ, Cs, _, _, R, C, h, fun w C1 v H1 q tr rc rp => L.rt w C1 v H1 q tr rc rp, L.lnkX R⟩
theorem qs_retN : QS X (.Return none pos) sRetN := fun Wx tk => ps_imp ps_retN fun D σ H ⟨ρ, Cs, DW, R, C, h, L⟩ => L.rt .non Cs .non H h (Tr.refl H) C (rep_non.mpr rfl)
theorem qs_if {as bs : List Stmt} (hc : QT X c t) (ha : QSs X as s1) (hb : QSs X bs s2) : QS X (.If c as bs pos) (sIf t s1 s2) := fun Wx tk => ps_imp (ps_if (hc Wx tk) (ha Wx tk) (hb Wx tk)) fun D σ H ⟨ρ, Cs, DW, R, C, h, L⟩ =>
  ⟨ρ, Cs, _, _, R, C, h, fun k C1 H1 ⟨h1, h2⟩ tr rc => by
    cases k with
    | true =>
      rw [if_pos rfl]
      exact ⟨ρ, C1, DW, R.mono tr, rc, h1 rfl, L.mono tr⟩
    | false =>
      rw [if_neg Bool.false_ne_true]
      exact ⟨ρ, C1, DW, R.mono tr, rc, h2 rfl, L.mono tr⟩, L.lnkX R⟩
theorem qs_asg {js : List Nat} {tg : Expr} {g : MG} (he : QE X e ta) (hg : QG X js tg g) (hs : swapsWithSole [tg] e pos.line X.env = pure false := by rfl) (hw : swappedStores [tg] e X.env = pure none := by rfl)
    (h1 : (assignEach [tg] X.env).map (·.2) = [assign tg X.env] := by rfl) : QS X (.Assign [tg] e pos) (sAsg ta g) := fun Wx tk => ps_imp (ps_asg (he Wx tk) hg hs hw h1) fun D σ H ⟨ρ, Cs, DW, R, C, h, L⟩ =>
  ⟨ρ, Cs, _, _, R, C, h, fun w C1 v H1 q tr rc rp => ⟨ρ, w, C1, _, R.mono tr, rc, rp, q, fun ρ' C' σ' H' q2 tr2 R2 rc2 _ => L.nx ρ' C' σ' H' q2 (tr.trans tr2) R2 rc2⟩, L.lnkX R⟩
theorem qs_set (i : Nat) {x : Str} {pos' : Pos} (hN : X.N.Nodup) (he : QE X e ta) (hi : X.N[i]? = some x := by rfl) (hx : Loc X.env.scope x := by first | exact Or.inl rfl | exact Or.inr rfl) (hs : swapsWith e (some (.Name x pos')) pos.line X.env = pure false := by rfl) (hf : X.fn x = true ∨ X.env.scope.names.lookup x = some .local := by first | exact .inl rfl | exact .inr rfl | assumption) :
    QS X (.Assign [.Name x pos'] e pos) (sAsg ta (gSet i)) := fun Wx tk => ps_imp (ps_set hN hi hx (he Wx tk) hs hf) fun D σ H ⟨ρ, Cs, DW, R, C, h, L⟩ =>
  ⟨ρ, Cs, _, _, R, C, h, fun w C1 v H1 q tr rc rp => L.nx _ C1 _ H1 q tr ((R.mono tr).set (List.getElem?_eq_some_iff.mp hi).1 rp) rc, L.lnkX R⟩
/-- a, b = x, y -/
def sPar (i j : Nat) (t : MA) : MS := fun D ρ Cs => t (fun C w Cs => D.ex C w ρ Cs) ρ Cs fun ws C => ∃ v w, ws = [v, w] ∧ D.nx ((ρ.put i v).put j w) C
theorem qs_par (i j : Nat) {x y : Str} {px py pt : Pos} {kt k2 pt2} {t : MA} (hc : X.calm = true) (hN : X.N.Nodup) (ha : QA X [a, b] t) (hw : swappedStores [.Tuple [.Name x px, .Name y py] kt pt] (.Tuple [a, b] k2 pt2) X.env = pure (some [x, y]) := by rfl)
    (hi : X.N[i]? = some x := by rfl) (hj : X.N[j]? = some y := by rfl) (hij : i ≠ j := by decide) (hx : X.env.scope.names.lookup x = some .local := by rfl) (hy : X.env.scope.names.lookup y = some .local := by rfl)
    (hs : swapsWithSole [.Tuple [.Name x px, .Name y py] kt pt] (.Tuple [a, b] k2 pt2) pos.line X.env = pure false := by rfl) :
    QS X (.Assign [.Tuple [.Name x px, .Name y py] kt pt] (.Tuple [a, b] k2 pt2) pos) (sPar i j t) := fun Wx tk => ps_imp (ps_par hc hN hi hj hij hx hy (ha Wx tk) hw hs) fun D σ H ⟨ρ, Cs, DW, R, C, h, L⟩ =>
  ⟨ρ, Cs, _, _, R, C, h, fun ws C1 vs H1 q tr rc rp => by
    obtain ⟨v, w, rfl, q⟩ := q
    obtain ⟨vx, r, rfl, r1, r2⟩ := reps_cons.mp rp
    obtain ⟨vy, r', rfl, r3, r4⟩ := reps_cons.mp r2
    obtain rfl := reps_nil.mp r4
    exact ⟨vx, vy, rfl, L.nx _ C1 _ H1 q tr (((R.mono tr).set (List.getElem?_eq_some_iff.mp hi).1 r1).set (List.getElem?_eq_some_iff.mp hj).1 r3) rc⟩, L.lnkX R⟩
/-- x op= e, x a name -/
def sAug (i : Nat) (q : RW2) (t : ME) : MS := fun D ρ Cs => ∃ x, ρ i = some x ∧ t (fun C w Cs => D.ex C w ρ Cs) ρ Cs fun y C => q x y C fun z C' => D.nx (ρ.put i z) C'
theorem qs_aug (i : Nat) {x : Str} {op : Operator} {ti : TIp} {q : RW2} {pos' : Pos} (hN : X.N.Nodup) (he : QE X e ta) (ho : PIp X op ti) (lk : Lk2 X.K ti q) (hi : X.N[i]? = some x := by rfl) (hx : Loc X.env.scope x := by first | exact Or.inl rfl | exact Or.inr rfl)
    (hf : X.fn x = true ∨ X.env.scope.names.lookup x = some .local := by first | exact .inl rfl | exact .inr rfl | assumption) : QS X (.AugAssign (.Name x pos') op e pos) (sAug i q ta) := fun Wx tk => ps_imp (ps_aug hN hi hx (he Wx tk) ho hf) fun D σ H ⟨ρ, Cs, DW, R, C, ⟨w, ew, h⟩, L⟩ => by
  obtain ⟨v, ev, rv⟩ := R.at_ i w ew
  exact ⟨v, ev, ρ, Cs, _, _, R, C, h, fun y C1 vy H1 hq tr rc ry => lk w y v vy H1 C1 _ _ hq rc (rep_mono tr _ _ rv) ry fun z C2 vz H2 q2 tr2 rc2 rz => L.nx _ C2 _ H2 q2 (tr.trans tr2) ((R.mono (tr.trans tr2)).set (List.getElem?_eq_some_iff.mp hi).1 rz) rc2, L.lnkX R⟩
/-- o[i] = v -/
abbrev RSet := W → W → W → Cells → (Cells → Prop) → Prop
def LkSet (K : PySem.W.Frag) (r : TSet) (q : RSet) : Prop := ∀ o i v vo vi vv H Cs (Q : Cells → Prop) (Q' : Hp → Prop), q o i v Cs Q → RelC K H Cs → rep K H o vo → rep K H i vi → rep K H v vv → (∀ Cs' H', Q Cs' → Tr K H H' → RelC K H' Cs' → Q' H') → r vo vi vv H Q'
def sStore (q : RSet) (tv to ti : ME) : MS := fun D ρ Cs => tv (fun C w Cs => D.ex C w ρ Cs) ρ Cs fun v C1 => to (fun C w Cs => D.ex C w ρ Cs) ρ C1 fun o C2 => ti (fun C w Cs => D.ex C w ρ Cs) ρ C2 fun i C3 => q o i v C3 fun C4 => D.nx ρ C4
theorem qs_store {o i v : Expr} {to ti tv : ME} {p2 : Pos} {r : TSet} {q : RSet} (hv : QE X v tv) (ho : QE X o to) (hi : QE X i ti) (hs : PSet X r) (lk : LkSet X.K r q)
    (ha : ∀ v, assign (.Subscript o i p2) X.env v = (do
      let ov ← holding [v] (eval o X.env)
      let iv ← holding [v, ov] (eval i X.env)
      standAt p2
      holding [v, ov, iv] (setItem ov iv v)
      release [v, ov, iv] []) := by intro _; rfl)
    (h1 : swapsWithSole [.Subscript o i p2] v pos.line X.env = pure false := by rfl) (h2 : swappedStores [.Subscript o i p2] v X.env = pure none := by rfl) (h3 : (assignEach [.Subscript o i p2] X.env).map (·.2) = [assign (.Subscript o i p2) X.env] := by rfl) :
    QS X (.Assign [.Subscript o i p2] v pos) (sStore q tv to ti) := fun Wx tk => ps_imp (ps_asg (hv Wx tk) (pg_sub (ho Wx tk) (hi Wx tk) hs ha) h1 h2 h3) fun D σ H ⟨ρ, Cs, DW, R, C, h, L⟩ =>
  ⟨ρ, Cs, _, _, R, C, h, fun w C1 vv H1 q1 tr1 rc1 rv => ⟨ρ, C1, _, _, R.mono tr1, rc1, q1, fun o' C2 vo H2 q2 tr2 rc2 ro => ⟨ρ, C2, _, _, R.mono (tr1.trans tr2), rc2, q2, fun i' C3 vi H3 q3 tr3 rc3 ri =>
    lk o' i' w vo vi vv H3 C3 _ _ q3 rc3 (rep_mono tr3 _ _ ro) ri (rep_mono (tr2.trans tr3) _ _ rv) fun C4 H4 q4 tr4 rc4 => L.nx ρ C4 σ H4 q4 (((tr1.trans tr2).trans tr3).trans tr4) (R.mono (((tr1.trans tr2).trans tr3).trans tr4)) rc4, (L.lnkX R).mono (tr1.trans tr2)⟩, (L.lnkX R).mono tr1⟩, L.lnkX R⟩
end
end SL
namespace SL
open PySem PySem.Spec PyProof.Rows L2

/-! ### what is walked -/
/-- n turns, while keep holds; the i-th thing is w if it i w -/
structure Wk where
  n : Nat
  keep : Cells → Prop
  it : Nat → W → Prop
structure WalkW (K : PySem.W.Frag) (H₀ : Hp) (J : It) (k : Wk) : Prop where
  goes : ∀ i H Cs, Tr K H₀ H → i < k.n → RelC K H Cs → k.keep Cs → J.go i H
  stops : ∀ H Cs, Tr K H₀ H → RelC K H Cs → k.keep Cs → J.stop k.n H
  yields : ∀ i H x H' Cs, Tr K H₀ H → i < k.n → RelC K H Cs → k.keep Cs → J.yld i H x H' → Tr K H H' ∧ (∀ Ds, RelC K H Ds → RelC K H' Ds) ∧ ∃ w, k.it i w ∧ rep K H' w x
abbrev MI := XW → Rho → Cells → (Wk → Cells → Prop) → Prop
def liftI (X : Cx) (Wx : WX) (t : MI) : TI := fun σ H R' => ∃ (ρ : Rho) (Cs : Cells) (E : XW) (Q : Wk → Cells → Prop), RelS X.K X.N.length H σ ρ ∧ RelC X.K H Cs ∧ t E ρ Cs Q ∧
  (∀ k Cs' H' J, Q k Cs' → Tr X.K H H' → RelC X.K H' Cs' → WalkW X.K H' J k → R' J H') ∧ LnkX X.K X.N.length Wx σ H E
def QI (X : Cx) (tg iter : Expr) (t : MI) : Prop := ∀ Wx, Takes X Wx → PI X tg iter (liftI X Wx t)
theorem pi_imp {X : Cx} {tg iter : Expr} {t t' : TI} (h : PI X tg iter t) (k : ∀ σ H R, t' σ H R → t σ H R) : PI X tg iter t' := ⟨fun pins s σ H R I q => h.run pins s σ H R I (k σ H R q)⟩
/-- a list that stands -/
def LsAt (a : Addr) (ws : List W) (Cs : Cells) : Prop := (a, MO.lst ws) ∈ Cs
section
variable {K : PySem.W.Frag} {H : Hp} {Cs : Cells} {a : Addr} {ws : List W}
theorem LsAt.get (h : LsAt a ws Cs) (R : RelC K H Cs) : ∃ xs, SqL K H a xs ∧ reps K H ws xs := by
  obtain ⟨xs, e, r⟩ := R.mem h
  exact ⟨xs, .inl (.inl e), r⟩
theorem LsAt.part {Ds : Cells} (h : LsAt a ws Ds) (p : Part Ds Cs) : LsAt a ws Cs := by
  obtain ⟨Fs, q⟩ := p.part
  exact q.mem_iff.mpr (List.mem_append_left _ h)
/-- a list that is read: it stands in the world, or it is locked for good -/
def LsV (x : W) (ws : List W) (Cs : Cells) : Prop := match x with
  | .ref a => LsAt a ws Cs
  | .ls us => us = ws
  | _ => False
theorem LsV.get {x : W} {v : V} (h : LsV x ws Cs) (R : RelC K H Cs) (r : rep K H x v) : ∃ a xs, v = .ref a ∧ Rd H a (.lst xs) ∧ reps K H ws xs := by
  cases x with
  | ref a =>
    obtain ⟨xs, e, q⟩ := R.mem h
    exact ⟨a, xs, rep_ref.mp r, .inl e, q⟩
  | ls us =>
    obtain rfl : us = ws := h
    obtain ⟨a, o, xs, e, hs, q⟩ := rep_ls.mp r
    exact ⟨a, xs, e, .inr ⟨o, hs⟩, q⟩
  | _ => exact False.elim h
theorem walk_l : WalkW K H (Itl K a) ⟨ws.length, LsAt a ws, fun i w => ws[i]? = some w⟩ := ⟨fun i H Cs _ hi R h => by
    obtain ⟨xs, hs, r⟩ := h.get R
    have hx : i < xs.length := by rw [← reps_len r]; exact hi
    exact ⟨xs, xs[i], hs, by simp [hx]⟩, fun H Cs _ R h => by
    obtain ⟨xs, hs, r⟩ := h.get R
    exact ⟨xs, hs, by rw [← reps_len r]; exact Nat.le_refl _⟩, fun i H x H' Cs _ hi R h y => by
    obtain ⟨xs, hs, r⟩ := h.get R
    obtain ⟨e, y⟩ := y
    subst e
    obtain ⟨w, e1, e2⟩ := reps_get' r (y xs hs)
    exact ⟨Tr.refl _, fun _ q => q, w, e1, e2⟩⟩
theorem walk_r {lo : Int} {n : Nat} : WalkW K H (Itr lo n) ⟨n, fun _ => True, fun i w => w = .int (lo + i)⟩ := ⟨fun i H Cs _ hi _ _ => hi, fun _ _ _ _ _ => Nat.le_refl _, fun i H x H' Cs _ hi R h y => by
    obtain ⟨e, y⟩ := y
    subst e y
    exact ⟨Tr.refl _, fun _ q => q, _, rfl, rep_int.mpr rfl⟩⟩
theorem walk_e : WalkW K H (Ite K a) ⟨ws.length, LsAt a ws, fun i w => ∃ u, ws[i]? = some u ∧ w = .tup [.int (i : Nat), u]⟩ := ⟨fun i H Cs _ hi R h => by
    obtain ⟨xs, hs, r⟩ := h.get R
    have hx : i < xs.length := by rw [← reps_len r]; exact hi
    exact ⟨xs, xs[i], hs, by simp [hx]⟩, fun H Cs _ R h => by
    obtain ⟨xs, hs, r⟩ := h.get R
    exact ⟨xs, hs, by rw [← reps_len r]; exact Nat.le_refl _⟩, fun i H x H' Cs _ hi R h y => by
    obtain ⟨xs, hs, r⟩ := h.get R
    obtain ⟨T, x', e, hT, e', y⟩ := y
    subst e e'
    obtain ⟨w, e1, e2⟩ := reps_get' r (y xs hs)
    exact ⟨tr_new hT, fun _ q => q.hid hT, _, ⟨w, e1, rfl⟩, rep_tup.mpr ⟨T, _, rfl, .inl (.inl upd_same), reps_cc.mpr ⟨rep_int.mpr rfl, reps_cc.mpr ⟨rep_mono (tr_new hT) _ _ e2, reps_nil.mpr rfl⟩⟩⟩⟩⟩
/-- a tuple that stands: its items as trees -/
theorem walk_t {t : Addr} {xs : List V} (ht : SqT K H t xs) (r : reps K H ws xs) : WalkW K H (Itt K t) ⟨ws.length, fun _ => True, fun i w => ws[i]? = some w⟩ := ⟨fun i H' Cs tr hi R h => by
    have hx : i < xs.length := by rw [← reps_len r]; exact hi
    exact ⟨xs, xs[i], tr.tup _ _ ht, by simp [hx]⟩, fun H' Cs tr R h => ⟨xs, tr.tup _ _ ht, by rw [← reps_len r]; exact Nat.le_refl _⟩, fun i H' x H2 Cs tr hi R h y => by
    obtain ⟨e, y⟩ := y
    subst e
    obtain ⟨w, e1, e2⟩ := reps_get' r (y xs (tr.tup _ _ ht))
    exact ⟨Tr.refl _, fun _ q => q, w, e1, rep_mono tr _ _ e2⟩⟩
/-- a list that no one writes -/
theorem walk_k {a : Addr} {xs : List V} (ht : KL K H a xs) (r : reps K H ws xs) : WalkW K H (Itl K a) ⟨ws.length, fun _ => True, fun i w => ws[i]? = some w⟩ := ⟨fun i H' Cs tr hi R h => by
    have hx : i < xs.length := by rw [← reps_len r]; exact hi
    exact ⟨xs, xs[i], (tr.cst _ _ ht).1, by simp [hx]⟩, fun H' Cs tr R h => ⟨xs, (tr.cst _ _ ht).1, by rw [← reps_len r]; exact Nat.le_refl _⟩, fun i H' x H2 Cs tr hi R h y => by
    obtain ⟨e, y⟩ := y
    subst e
    obtain ⟨w, e1, e2⟩ := reps_get' r (y xs (tr.cst _ _ ht).1)
    exact ⟨Tr.refl _, fun _ q => q, w, e1, rep_mono tr _ _ e2⟩⟩
end

/-! the items of a locked list, numbered -/
section
variable {K : PySem.W.Frag} {H : Hp} {Cs : Cells} {a : Addr} {ws : List W}
theorem walk_ek {a : Addr} {xs : List V} (ht : KL K H a xs) (r : reps K H ws xs) : WalkW K H (Ite K a) ⟨ws.length, fun _ => True, fun i w => ∃ u, ws[i]? = some u ∧ w = .tup [.int (i : Nat), u]⟩ := ⟨fun i H' Cs tr hi R h => by
    have hx : i < xs.length := by rw [← reps_len r]; exact hi
    exact ⟨xs, xs[i], (tr.cst _ _ ht).1, by simp [hx]⟩, fun H' Cs tr R h => ⟨xs, (tr.cst _ _ ht).1, by rw [← reps_len r]; exact Nat.le_refl _⟩, fun i H' x H2 Cs tr hi R h y => by
    obtain ⟨T, x', e, hT, e', y⟩ := y
    subst e e'
    obtain ⟨w, e1, e2⟩ := reps_get' r (y xs (tr.cst _ _ ht).1)
    exact ⟨tr_new hT, fun _ q => q.hid hT, _, ⟨w, e1, rfl⟩, rep_tup.mpr ⟨T, _, rfl, .inl (.inl upd_same), reps_cc.mpr ⟨rep_int.mpr rfl, reps_cc.mpr ⟨rep_mono (tr.trans (tr_new hT)) _ _ e2, reps_nil.mpr rfl⟩⟩⟩⟩⟩
theorem KL.of_frz {a : Addr} {o : Obj} {xs : List V} (h : H a = some (.frz o (.lst xs))) : KL K H a xs := ⟨.inl (.inr ⟨o, h⟩), .inl ⟨o, h⟩⟩
end

/-! ### for -/
def EndsW.turn (D : EndsW) (P : Rho → Cells → Prop) : EndsW := { D with nx := fun ρ C => ∃ C', Part C' C ∧ P ρ C', ct := fun ρ C => ∃ C', Part C' C ∧ P ρ C', bk := fun ρ C => ∃ C', Part C' C ∧ D.nx ρ C' }
def sFor (mi : MI) (g : MG) (tb : MS) : MS := fun D ρ Cs => mi (fun C w Cs => D.ex C w ρ Cs) ρ Cs fun k C1 => ∃ Pv : Nat → Rho → Cells → Prop, (∃ C0, Part C0 C1 ∧ Pv 0 ρ C0) ∧ (∀ i ρ' C', i ≤ k.n → Pv i ρ' C' → k.keep C') ∧
  (∀ i w ρ' C', i < k.n → k.it i w → Pv i ρ' C' → g ρ' w C' fun ρ2 C2 => tb (D.turn (Pv (i + 1))) ρ2 C2) ∧ (∀ ρ' C', Pv k.n ρ' C' → D.nx ρ' C')
section
variable {X : Cx} {a b c e : Expr} {es : List Expr} {ta tb tc : ME} {t u : MT} {pos p : Pos} {st : Stmt} {rest : List Stmt} {s1 s2 : MS}
theorem qs_for {js : List Nat} {tg iter : Expr} {body : List Stmt} {mi : MI} {g : MG} {sb : MS} (hp : PassesOwn (model X.prog X.w) X.A X.env X.xe) (hc : X.calm = true) (hi : QI X tg iter mi) (hg : QG X js tg g) (hb : QSs X body sb)
    (hs : ∀ x, foldedSetIterable iter X.env x = pure x := by intro _; rfl) : QS X (.For tg iter body [] pos) (sFor mi g sb) := fun Wx tk => ps_imp (ps_for hp hc (hi Wx tk) hg (hb Wx tk) hs) fun D σ H ⟨ρ, Cs, DW, R, C, h, L⟩ =>
  ⟨ρ, Cs, _, _, R, C, h, fun k C1 H1 J q tr1 rc1 wk => by
    obtain ⟨Pv, ⟨C0, hp0, h0⟩, hk, ht, hd⟩ := q
    refine ⟨fun i m σ' H' => m = k.n - i ∧ i ≤ k.n ∧ ∃ ρ' C', RelS X.K X.N.length H' σ' ρ' ∧ RelC X.K H' C' ∧ Pv i ρ' C' ∧ Tr X.K H1 H', ⟨_, rfl, Nat.zero_le _, ρ, C0, R.mono tr1, rc1.to hp0, h0, Tr.refl H1⟩, ?_⟩
    rintro i m σ' H' ⟨rfl, hin, ρ', C', R', rc', p, trJ⟩
    have kp := hk i ρ' C' hin p
    have tr' := tr1.trans trJ
    by_cases hlt : i < k.n
    · refine .inr ⟨wk.goes i H' C' trJ hlt rc' kp, fun σ2 H2 => ∃ ρ2 C2, RelS X.K X.N.length H2 σ2 ρ2 ∧ RelC X.K H2 C2 ∧ Pv (i + 1) ρ2 C2 ∧ Tr X.K H1 H2, fun σ2 H2 ⟨ρ2, C2, z⟩ => ⟨k.n - (i + 1), by omega, rfl, hlt, ρ2, C2, z⟩, fun x H2 y => ?_⟩
      obtain ⟨tr2, rcs, w, hw, rw2⟩ := wk.yields i H' x H2 C' trJ hlt rc' kp y
      have tr12 := tr'.trans tr2
      refine ⟨ρ', w, C', _, R'.mono tr2, rcs _ rc', rw2, ht i w ρ' C' hlt hw p, fun ρ3 C3 σ3 H3 q3 tr3 R3 rc3 _ => ⟨ρ3, C3, _, R3, rc3, q3, ?_⟩⟩
      have tr13 := tr12.trans tr3
      refine ⟨fun ρ4 C4 σ4 H4 q4 tr4 R4 rc4 => ?_, fun w C4 v H4 q4 tr4 => L.rt w C4 v H4 q4 (tr13.trans tr4), fun ρ4 C4 σ4 H4 ⟨C5, hp5, q5⟩ tr4 R4 rc4 => L.nx ρ4 C5 σ4 H4 q5 (tr13.trans tr4) R4 (rc4.to hp5), fun ρ4 C4 σ4 H4 q4 tr4 R4 rc4 => ?_, fun C w ρ4 C4 σ4 d v H4 q4 tr4 => L.ex C w ρ4 C4 σ4 d v H4 q4 (tr13.trans tr4)⟩
      · obtain ⟨C5, hp5, q5⟩ := q4
        exact ⟨ρ4, C5, R4, rc4.to hp5, q5, ((trJ.trans tr2).trans tr3).trans tr4⟩
      · obtain ⟨C5, hp5, q5⟩ := q4
        exact ⟨ρ4, C5, R4, rc4.to hp5, q5, ((trJ.trans tr2).trans tr3).trans tr4⟩
    · have e : i = k.n := by omega
      subst e
      exact .inl ⟨wk.stops H' C' trJ rc' kp, L.nx ρ' C' σ' H' (hd ρ' C' p) tr' R' rc'⟩, L.lnkX R⟩

/-! ### while: an invariant with its measure -/
def sWhile (c : MT) (tb : MS) : MS := fun D ρ Cs => ∃ Pv : Nat → Rho → Cells → Prop, (∃ m, Pv m ρ Cs) ∧ ∀ m ρ' C', Pv m ρ' C' → c (fun C w Cs => D.ex C w ρ' Cs) ρ' C' fun k C1 =>
  (k = true → tb (D.turn fun ρ2 C2 => ∃ m', m' < m ∧ Pv m' ρ2 C2) ρ' C1) ∧ (k = false → ∃ C2, Part C2 C1 ∧ D.nx ρ' C2)
theorem qs_while {body : List Stmt} {sb : MS} (hp : PassesOwn (model X.prog X.w) X.A X.env X.xe) (hc : QT X c t) (hb : QSs X body sb) : QS X (.While c body [] pos) (sWhile t sb) := fun Wx tk => ps_imp (ps_while hp (hc Wx tk) (hb Wx tk)) fun D σ H ⟨ρ, Cs, DW, R, C, h, L⟩ => by
  obtain ⟨Pv, ⟨m0, h0⟩, ht⟩ := h
  refine ⟨fun m σ' H' => ∃ ρ' C', RelS X.K X.N.length H' σ' ρ' ∧ RelC X.K H' C' ∧ Pv m ρ' C' ∧ Tr X.K H H', ⟨m0, ρ, Cs, R, C, h0, Tr.refl H⟩, ?_⟩
  rintro m σ' H' ⟨ρ', C', R', rc', p, tr'⟩
  refine ⟨ρ', C', _, _, R', rc', ht m ρ' C' p, fun k C1 H1 ⟨q1, q2⟩ tr1 rc1 => ?_, (L.mono tr').lnkX R'⟩
  have tr2 := tr'.trans tr1
  cases k with
  | true =>
    refine iteT ?_
    refine ⟨fun σ2 H2 => ∃ m', m' < m ∧ ∃ ρ2 C2, RelS X.K X.N.length H2 σ2 ρ2 ∧ RelC X.K H2 C2 ∧ Pv m' ρ2 C2 ∧ Tr X.K H H2, fun σ2 H2 ⟨m', hm, z⟩ => ⟨m', hm, z⟩, ρ', C1, _, R'.mono tr1, rc1, q1 rfl, ?_⟩
    refine ⟨fun ρ4 C4 σ4 H4 q4 tr4 R4 rc4 => ?_, fun w C4 v H4 q4 tr4 => L.rt w C4 v H4 q4 (tr2.trans tr4), fun ρ4 C4 σ4 H4 ⟨C5, hp5, q5⟩ tr4 R4 rc4 => L.nx ρ4 C5 σ4 H4 q5 (tr2.trans tr4) R4 (rc4.to hp5), fun ρ4 C4 σ4 H4 q4 tr4 R4 rc4 => ?_, fun C w ρ4 C4 σ4 d v H4 q4 tr4 => L.ex C w ρ4 C4 σ4 d v H4 q4 (tr2.trans tr4)⟩
    · obtain ⟨C5, hp5, m', hm, q5⟩ := q4
      exact ⟨m', hm, ρ4, C5, R4, rc4.to hp5, q5, tr2.trans tr4⟩
    · obtain ⟨C5, hp5, m', hm, q5⟩ := q4
      exact ⟨m', hm, ρ4, C5, R4, rc4.to hp5, q5, tr2.trans tr4⟩
  | false =>
    refine iteF ?_
    obtain ⟨C2, hp2, q2⟩ := q2 rfl
    exact L.nx ρ' C2 σ' H1 q2 tr2 (R'.mono tr1) (rc1.to hp2)

/-! ### what a for walks -/
def iOf (x : W) (C : Cells) (Q : Wk → Cells → Prop) : Prop := match x with
  | .ref a => ∃ ws, LsAt a ws C ∧ Q ⟨ws.length, LsAt a ws, fun i w => ws[i]? = some w⟩ C
  | .cst _ ws => Q ⟨ws.length, fun _ => True, fun i w => ws[i]? = some w⟩ C
  | .ls ws => Q ⟨ws.length, fun _ => True, fun i w => ws[i]? = some w⟩ C
  | _ => False
def iLst (t : ME) : MI := fun E ρ Cs Q => t E ρ Cs fun x C => iOf x C Q
def iRgn (t : MA) : MI := fun E ρ Cs Q => t E ρ Cs fun xs C => ∃ j, xs = [.int j] ∧ (-4611686018427387904 ≤ j ∧ j < 4611686018427387904) ∧ Q ⟨j.toNat, fun _ => True, fun i w => w = .int (0 + i)⟩ C
def iRg2 (t : MA) : MI := fun E ρ Cs Q => t E ρ Cs fun xs C => ∃ i j, xs = [.int i, .int j] ∧ (-4611686018427387904 ≤ i ∧ i < 4611686018427387904 ∧ -4611686018427387904 ≤ j ∧ j < 4611686018427387904) ∧ Q ⟨(j - i).toNat, fun _ => True, fun n w => w = .int (i + n)⟩ C
def iEn (xs : List W) (C : Cells) (Q : Wk → Cells → Prop) : Prop := match xs with
  | [.ref a] => ∃ ws, LsAt a ws C ∧ Q ⟨ws.length, LsAt a ws, fun i w => ∃ u, ws[i]? = some u ∧ w = .tup [.int (i : Nat), u]⟩ C
  | [.ls ws] => Q ⟨ws.length, fun _ => True, fun i w => ∃ u, ws[i]? = some u ∧ w = .tup [.int (i : Nat), u]⟩ C
  | _ => False
def iEnu (t : MA) : MI := fun E ρ Cs Q => t E ρ Cs fun xs C => iEn xs C Q
theorem qi_lst {tg l : Expr} {tl : ME} (h : QE X l tl) : QI X tg l (iLst tl) := fun Wx tk => pi_imp (pi_list (h Wx tk)) fun σ H R' ⟨ρ, Cs, E, Q, R, C, h, kQ, kE⟩ => ⟨ρ, Cs, E, _, R, C, h, fun x C1 v H1 q tr rc rp => by
  unfold iOf at q
  split at q
  · obtain ⟨ws, ha, q⟩ := q
    obtain ⟨xs, hs, _⟩ := ha.get rc
    exact ⟨_, rep_ref.mp rp, ⟨xs, hs⟩, kQ _ C1 H1 _ q tr rc walk_l⟩
  · obtain ⟨e, xs, hs, rs⟩ := rep_cst.mp rp
    exact ⟨_, e, ⟨xs, hs.1⟩, kQ _ C1 H1 _ q tr rc (walk_k hs rs)⟩
  · obtain ⟨_, _, xs, e, hs, rs⟩ := rep_ls.mp rp
    exact ⟨_, e, ⟨xs, (KL.of_frz (K := X.K) hs).1⟩, kQ _ C1 H1 _ q tr rc (walk_k (KL.of_frz hs) rs)⟩
  · exact q.elim, kE⟩
def iTpl (t : ME) : MI := fun E ρ Cs Q => t E ρ Cs fun x C => ∃ ws, x = .tup ws ∧ Q ⟨ws.length, fun _ => True, fun i w => ws[i]? = some w⟩ C
theorem qi_tpl {tg l : Expr} {tl : ME} (h : QE X l tl) : QI X tg l (iTpl tl) := fun Wx tk => pi_imp (pi_tup (h Wx tk)) fun σ H R' ⟨ρ, Cs, E, Q, R, C, h, kQ, kE⟩ => ⟨ρ, Cs, E, _, R, C, h, fun x C1 v H1 q tr rc rp => by
  obtain ⟨ws, rfl, q⟩ := q
  obtain ⟨a, xs, rfl, hs, rs⟩ := rep_tup.mp rp
  exact ⟨a, rfl, ⟨xs, hs⟩, kQ _ C1 H1 _ q tr rc (walk_t hs rs)⟩, kE⟩
theorem qi_range {tg : Expr} {ta : MA} (hg : Gl X "range") (hm : X.mg "range" = none) (ha : QA X [a] ta) (hs : starEach [a] X.env = [(false, eval a X.env)] := by rfl) : QI X tg (.Call (.Name "range" p) [a] [] pos) (iRgn ta) := fun Wx tk =>
  pi_imp (pi_range1 hg hm (ha Wx tk) hs) fun σ H R' ⟨ρ, Cs, E, Q, R, C, h, kQ, kE⟩ => ⟨ρ, Cs, E, _, R, C, h, fun xs C1 vs H1 q tr rc rp => by
    obtain ⟨i, rfl, ⟨hb1, hb2⟩, q⟩ := q
    obtain ⟨x, r, rfl, r1, r2⟩ := reps_cons.mp rp
    obtain rfl := reps_nil.mp r2
    obtain rfl := rep_int.mp r1
    exact ⟨i, rfl, hb1, hb2, kQ _ C1 H1 _ q tr rc walk_r⟩, kE⟩
theorem qi_range2 {tg : Expr} {ta : MA} (hg : Gl X "range") (hm : X.mg "range" = none) (ha : QA X [a, b] ta) (hs : starEach [a, b] X.env = [(false, eval a X.env), (false, eval b X.env)] := by rfl) (hs2 : starEach [b] X.env = [(false, eval b X.env)] := by rfl) : QI X tg (.Call (.Name "range" p) [a, b] [] pos) (iRg2 ta) := fun Wx tk =>
  pi_imp (pi_range2 hg hm (ha Wx tk) hs hs2) fun σ H R' ⟨ρ, Cs, E, Q, R, C, h, kQ, kE⟩ => ⟨ρ, Cs, E, _, R, C, h, fun xs C1 vs H1 q tr rc rp => by
    obtain ⟨i, j, rfl, hb, q⟩ := q
    obtain ⟨x, r, rfl, r1, r2⟩ := reps_cons.mp rp
    obtain ⟨y, r', rfl, r3, r4⟩ := reps_cons.mp r2
    obtain rfl := reps_nil.mp r4
    obtain rfl := rep_int.mp r1
    obtain rfl := rep_int.mp r3
    exact ⟨i, j, rfl, hb, kQ _ C1 H1 _ q tr rc walk_r⟩, kE⟩
theorem qi_enum {tpos : Pos} {elts : List Expr} {kk : Nat} {ta : MA} (hg : Gl X "enumerate") (hm : X.mg "enumerate" = none) (ha : QA X [e] ta) (hs : starEach [e] X.env = [(false, eval e X.env)] := by rfl) : QI X (.Tuple elts kk tpos) (.Call (.Name "enumerate" p) [e] [] pos) (iEnu ta) := fun Wx tk =>
  pi_imp (pi_enum hg hm (ha Wx tk) hs) fun σ H R' ⟨ρ, Cs, E, Q, R, C, h, kQ, kE⟩ => ⟨ρ, Cs, E, _, R, C, h, fun xs C1 vs H1 q tr rc rp => by
    unfold iEn at q
    split at q
    · obtain ⟨ws, ha, q⟩ := q
      obtain ⟨x, r, rfl, r1, r2⟩ := reps_cons.mp rp
      obtain rfl := reps_nil.mp r2
      obtain rfl := rep_ref.mp r1
      obtain ⟨xs, hs, _⟩ := ha.get rc
      exact ⟨_, xs, rfl, hs, kQ _ C1 H1 _ q tr rc walk_e⟩
    · obtain ⟨x, r, rfl, r1, r2⟩ := reps_cons.mp rp
      obtain rfl := reps_nil.mp r2
      obtain ⟨a, o, xs, rfl, hs, rs⟩ := rep_ls.mp r1
      exact ⟨a, xs, rfl, (KL.of_frz (K := X.K) hs).1, kQ _ C1 H1 _ q tr rc (walk_ek (KL.of_frz hs) rs)⟩
    · exact q.elim, kE⟩
end
end SL
namespace SL
open PySem PySem.Spec PyProof.Rows L2

/-! ### promises over trees -/
abbrev SpW := List W → Cells → WK → XW → Prop
def spOf (K : PySem.W.Frag) (sp : SpW) : Sp := fun vs H Q' E' => ∃ (ws : List W) (Cs : Cells) (Q : WK) (E : XW), reps K H ws vs ∧ RelC K H Cs ∧ sp ws Cs Q E ∧ Fin K H Q Q' ∧
  ∀ C w Cs' d v H', E C w Cs' → Tr K H H' → RelC K H' Cs' → rep K H' w v → XVal H' d v → E' (.ref C) d H'
def rho0 (ws : List W) : Rho := fun i => ws[i]?
def EndsD (Q : WK) (E : XW) : EndsW := { nx := fun _ C => ∃ C', Part C' C ∧ Q .non C', rt := fun w C => ∃ C', Part C' C ∧ Q w C', bk := fun _ _ => False, ct := fun _ _ => False, ex := fun A w _ C => ∃ C', Part C' C ∧ E A w C' }
/-- a call -/
def mCall (sp : SpW) (t : MA) : ME := fun E ρ Cs Q => t E ρ Cs fun ws C => sp ws C Q E
section
variable {P : Program} {w : World} {K : PySem.W.Frag} {mg : Str → Option Value} {base : Heap}
theorem start_get {N : List Str} {vs : List V} {i : Nat} {v : V} (h : vs[i]? = some v) : (L2.start N vs)[i]? = some (some v) := by
  have hi : i < vs.length := (List.getElem?_eq_some_iff.mp h).1
  unfold L2.start
  rw [List.getElem?_append_left (by rw [List.length_map]; exact hi), List.getElem?_map, h]
  rfl
/-- THE RULE for a def: its body's reading over trees -/
theorem okS {x qual : Str} {st : Stmt} {f : Addr} {fd : FuncData} {N ps : List Str} {k : Nat} {sp : SpW} {t : MS} (F : Fun K x qual st f fd) (S : FnScope N ps (defScope st)) (len : ∀ ws Cs Q E, sp ws Cs Q E → ws.length = ps.length)
    (der : ∀ (cdv : Value) (A : Around) (outer : List Env) (s : Shared) (H : Hp) (E : XK), Room k (A.deeper (envOfC qual (defScope st) s.heap.objs.size f cdv)) → A.guards = some [] →
      QSs (cxOf (L2.CX P w) P w K mg base N qual (defScope st) f cdv A outer s H E) (defBody st) t)
    (pure : ∀ ws Cs Q E, sp ws Cs Q E → t (EndsD Q E) (rho0 ws) Cs) : FnG P w K mg base (k + 1) f fd ps (spOf K sp) := by
  have lenV : ∀ vs H Q E, spOf K sp vs H Q E → vs.length = ps.length := fun vs H Q E ⟨ws, Cs, Q1, E1, r, rc, h, _⟩ => by rw [← reps_len r]; exact len ws Cs Q1 E1 h
  refine SL.Fun.okG F S lenV fun cdv A outer s H vs Q' E' hr hg h => ⟨_, der cdv A outer s H E' hr hg (fun cls d _ H => E' cls d H) (takes_of rfl rfl rfl rfl), ?_⟩
  have hl := lenV vs H Q' E' h
  obtain ⟨ws, Cs, Q, E, r, rc, h, kQ, kE⟩ := h
  have hps : ps.length ≤ N.length := by
    have e := congrArg List.length S.pre
    rw [List.length_take] at e
    omega
  refine ⟨rho0 ws, Cs, EndsD Q E, ⟨?_, fun i u e => ?_⟩, rc, pure ws Cs Q E h, ?_⟩
  · show (L2.start N vs).length = N.length
    unfold L2.start
    rw [List.length_append, List.length_map, List.length_replicate]
    omega
  · obtain ⟨v, h1, h2⟩ := reps_get r e
    exact ⟨v, start_get h1, h2⟩
  · refine ⟨fun ρ C σ H' q tr _ rc' => ?_, fun u C v H' q tr rc' rp => ?_, fun ρ C σ H' q => q.elim, fun ρ C σ H' q => q.elim, fun A u ρ C σ d v H' q tr _ rc' rp xv => ?_⟩
    · obtain ⟨C', hp, q⟩ := q
      exact kQ _ C' _ H' q tr (rc'.to hp) (rep_non.mpr rfl)
    · obtain ⟨C', hp, q⟩ := q
      exact kQ _ C' _ H' q tr (rc'.to hp) rp
    · obtain ⟨C', hp, q⟩ := q
      exact kE _ _ C' d v H' q tr (rc'.to hp) rp xv
end
section
variable {X : Cx} {a b c e : Expr} {es : List Expr} {ta tb tc : ME} {t u : MT} {pos p : Pos} {sp : SpW} {k : Nat} {f : Addr} {fd : FuncData} {ps : List Str} {x : Str} {tr : MA}
theorem liftCall {Wx : WX} {σ : L2.St} {H : Hp} {Q' : VK} (h : liftE X Wx (mCall sp tr) σ H Q') : tCallG (spOf X.K sp) Wx (liftA X Wx tr) σ H Q' := by
  obtain ⟨ρ, Cs, E, Q, R, C, h, kQ, kE⟩ := h
  exact ⟨ρ, Cs, E, _, R, C, h, fun ws C1 vs H1 q tr1 rc rp => ⟨ws, C1, Q, E, rp, rc, q, Fin.mono kQ tr1, fun A w C2 d v H2 e tr2 rc2 rp2 xv => kE.ex A w C2 d v H2 e (tr1.trans tr2) rc2 rp2 xv⟩, kE⟩
theorem qe_call (F : FnG X.prog X.w X.K X.mg X.base k f fd ps (spOf X.K sp)) (hr : Room k X.A) (hgu : X.A.guards = some []) (hm : X.mg x = some (.ref f)) (hk : PySem.W.keepIn X.K (.ref f) = true) (hb : Binds X.K fd ps []) (ha : QA X (e :: es) tr) (hg : Gl X x := by rfl)
    (hdb : (x == ("__debug__" : Str)) = false := by decide) (he : starEach (e :: es) X.env = (false, eval e X.env) :: starEach es X.env := by rfl) (hpl : (backTo pos (starEach es X.env)).any (·.1) = false := by rfl) :
    QE X (.Call (.Name x p) (e :: es) [] pos) (mCall sp tr) := fun Wx tk => pe_imp (pe_callG F hr hgu hg hm hk hb tk (ha Wx tk) hdb he hpl) fun _ _ _ h => liftCall h
theorem qe_call0 (F : FnG X.prog X.w X.K X.mg X.base k f fd ps (spOf X.K sp)) (hr : Room k X.A) (hgu : X.A.guards = some []) (hm : X.mg x = some (.ref f)) (hk : PySem.W.keepIn X.K (.ref f) = true) (hb : Binds X.K fd ps []) (hg : Gl X x := by rfl)
    (hdb : (x == ("__debug__" : Str)) = false := by decide) : QE X (.Call (.Name x p) [] [] pos) (mCall sp mNil) := fun Wx tk => pe_imp (pe_callG0 F hr hgu hg hm hk hb tk hdb) fun σ H Q' ⟨ρ, Cs, E, Q, R, C, h, kQ, kE⟩ =>
  ⟨[], Cs, Q, E, reps_nil.mpr rfl, C, h, kQ, fun A w C2 d v H2 e tr2 rc2 rp2 xv => kE.ex A w C2 d v H2 e tr2 rc2 rp2 xv⟩
/-! f(a, k = b): pm puts the positional and the named ones into the parameters' order -/
def QK (X : Cx) (kws : List Keyword) (t : MA) : Prop := ∀ Wx, Takes X Wx → PK X kws (liftA X Wx t)
theorem pk_imp {kws : List Keyword} {t t' : TA} (h : PK X kws t) (k : ∀ σ H Q, t' σ H Q → t σ H Q) : PK X kws t' := ⟨fun pos pins s σ H Q I q => h.run pos pins s σ H Q I (k σ H Q q)⟩
theorem qk_nil : QK X [] mNil := fun Wx _ => pk_imp pk_nil fun σ H Q' ⟨ρ, Cs, E, Q, R, C, h, kQ, kE⟩ => kQ [] Cs [] H h (Tr.refl H) C (reps_nil.mpr rfl)
theorem qk_cons {kws : List Keyword} {nm : Option Str} {kpos : Pos} {tr : MA} (ha : QE X e ta) (hr : QK X kws tr) : QK X (⟨nm, e, kpos⟩ :: kws) (mCons ta tr) := fun Wx tk => pk_imp (pk_cons (ha Wx tk) (hr Wx tk)) fun _ _ _ h => liftCons h
/-- the values of l at the places of o -/
def reord {α : Type} (o : List Nat) (l : List α) : List α := o.filterMap fun i => l[i]?
theorem reord_vals : ∀ (o : List Nat) {vs : List V} {us : List Value}, Vals vs us → Vals (reord o vs) (reord o us)
  | [], _, _, _ => .nil
  | i :: o, vs, us, r => by
    unfold reord
    cases h : vs[i]? with
    | none =>
      rw [List.filterMap_cons_none h, List.filterMap_cons_none (r.none_of h)]
      exact reord_vals o r
    | some x =>
      obtain ⟨u, hu, ru⟩ := r.get h
      rw [List.filterMap_cons_some h, List.filterMap_cons_some hu]
      exact .cons ru (reord_vals o r)
theorem reord_reps {K : PySem.W.Frag} {H : Hp} : ∀ (o : List Nat) {ws : List W} {vs : List V}, reps K H ws vs → reps K H (reord o ws) (reord o vs)
  | [], _, _, _ => reps_nil.mpr rfl
  | i :: o, ws, vs, r => by
    unfold reord
    cases h : ws[i]? with
    | none =>
      have h2 : vs[i]? = none := by
        cases h3 : vs[i]? with
        | none => rfl
        | some x =>
          obtain ⟨w, e, _⟩ := reps_get' r h3
          rw [h] at e
          cases e
      rw [List.filterMap_cons_none h, List.filterMap_cons_none h2]
      exact reord_reps o r
    | some x =>
      obtain ⟨u, hu, ru⟩ := reps_get r h
      rw [List.filterMap_cons_some h, List.filterMap_cons_some hu]
      exact reps_cc.mpr ⟨ru, reord_reps o r⟩
def KBd (fd : FuncData) (ps ks : List Str) (n m : Nat) (o : List Nat) : Prop := ∀ (s : Shared) (us ws : List Value), us.length = n → ws.length = m → BindsTo s fd ⟨us, ks.zip ws⟩ (ps.zip (reord o (us ++ ws)))
def mCallK (sp : SpW) (n m : Nat) (o : List Nat) (t tk : MA) : ME := fun E ρ Cs Q => t E ρ Cs fun ws C1 => tk E ρ C1 fun zs C2 => ws.length = n ∧ zs.length = m ∧ sp (reord o (ws ++ zs)) C2 Q E
def tCallGK (sp : Sp) (W : WX) (n m : Nat) (o : List Nat) (t tk : TA) : TE := fun σ H Q => t σ H fun vs H1 => tk σ H1 fun zs H2 => vs.length = n ∧ zs.length = m ∧ sp (reord o (vs ++ zs)) H2 Q (fun c d H' => W c d σ H')
theorem liftCallK {n m : Nat} {o : List Nat} {t2 : MA} {Wx : WX} {σ : L2.St} {H : Hp} {Q' : VK} (h : liftE X Wx (mCallK sp n m o tr t2) σ H Q') : tCallGK (spOf X.K sp) Wx n m o (liftA X Wx tr) (liftA X Wx t2) σ H Q' := by
  obtain ⟨ρ, Cs, E, Q, R, C, h, kQ, kE⟩ := h
  refine ⟨ρ, Cs, E, _, R, C, h, fun ws C1 vs H1 q tr1 rc rp => ⟨ρ, C1, E, _, R.mono tr1, rc, q, fun zs C2 us H2 q2 tr2 rc2 rp2 => ?_, kE.mono tr1⟩, kE⟩
  obtain ⟨h1, h2, q3⟩ := q2
  exact ⟨by rw [← reps_len rp]; exact h1, by rw [← reps_len rp2]; exact h2, _, C2, Q, E, reord_reps o (reps_app (reps_mono tr2 _ _ rp) rp2), rc2, q3, Fin.mono kQ (tr1.trans tr2), fun A w C3 d v H3 e tr3 rc3 rp3 xv => kE.ex A w C3 d v H3 e ((tr1.trans tr2).trans tr3) rc3 rp3 xv⟩
theorem run_callGK {sp : Sp} {ks : List Str} {W : WX} {n m : Nat} {o : List Nat} {pins : List (Addr × Obj)} {σ : L2.St} {H : Hp} {s : Shared} {Q : VK} {us ws : List Value} {vs zs : List V} (F : FnG X.prog X.w X.K X.mg X.base k f fd ps sp) (hr : Room k X.A) (hgu : X.A.guards = some []) (tk : Takes X W) (hb : KBd fd ps ks n m o)
    (I : Inv X pins σ H s) (r : Vals vs us) (rz : Vals zs ws) (h : vs.length = n ∧ zs.length = m ∧ sp (reord o (vs ++ zs)) H Q (fun c d H' => W c d σ H')) : wpAny (model X.prog X.w) X.A (call (.ref f) us (ks.zip ws)) (EP X pins σ Q) X.xe s := by
  obtain ⟨h1, h2, h3⟩ := h
  refine wpAny_call (codeAny_mono (run_fnG F hr hgu tk I (hb s us ws (by rw [← r.length]; exact h1) (by rw [← rz.length]; exact h2)) (reord_vals o (r.append rz)) h3) fun r s' hq => ?_)
  cases r with
  | error e => exact hq
  | ok fl =>
    cases fl with
    | ret u => exact hq
    | next => exact hq.elim
    | brk => exact hq.elim
    | cont => exact hq.elim
theorem qe_callK {ks : List Str} {n m : Nat} {o : List Nat} {kws : List Keyword} {t2 : MA} (F : FnG X.prog X.w X.K X.mg X.base k f fd ps (spOf X.K sp)) (hr : Room k X.A) (hgu : X.A.guards = some []) (hm : X.mg x = some (.ref f)) (hk : PySem.W.keepIn X.K (.ref f) = true) (hb : KBd fd ps ks n m o) (ha : QA X (e :: es) tr) (hkw : QK X kws t2) (hg : Gl X x := by rfl)
    (hall : (backToKw pos (keywordEach kws X.env)).all (·.1.isSome) = true := by rfl) (hks : (backToKw pos (keywordEach kws X.env)).filterMap (·.1) = ks := by rfl)
    (hdb : (x == ("__debug__" : Str)) = false := by decide) (he : starEach (e :: es) X.env = (false, eval e X.env) :: starEach es X.env := by rfl)
    (hpl : ((backTo pos (starEach (e :: es) X.env)).any (·.1) || (backToKw pos (keywordEach kws X.env)).any (·.1.isNone)) = false := by rfl) :
    QE X (.Call (.Name x p) (e :: es) kws pos) (mCallK sp n m o tr t2) := fun Wx tk => pe_imp (t := tCallGK (spOf X.K sp) Wx n m o (liftA X Wx tr) (liftA X Wx t2)) ⟨fun pins s σ H Q I h => wpAny_Call_Name_kw (ld_glob I hg hm (PySem.W.callWith_KW (h₀ := X.base) I.ok.mod.kin hk hall (thn ((ha Wx tk).run pos pins s σ H _ I h) fun us s1 ⟨vs, H1, I1, r, q⟩ =>
      thn ((hkw Wx tk).run pos pins s1 σ H1 _ I1 q) fun ws s2 ⟨zs, H2, I2, rz, q2⟩ => ⟨I2.kIn, by
        rw [hks]
        refine run_callGK F hr hgu tk hb I2 r rz q2⟩) hpl he) hdb)⟩ fun _ _ _ h => liftCallK h
theorem qe_callK0 {ks : List Str} {m : Nat} {o : List Nat} {kws : List Keyword} {t2 : MA} (F : FnG X.prog X.w X.K X.mg X.base k f fd ps (spOf X.K sp)) (hr : Room k X.A) (hgu : X.A.guards = some []) (hm : X.mg x = some (.ref f)) (hk : PySem.W.keepIn X.K (.ref f) = true) (hb : KBd fd ps ks 0 m o) (hkw : QK X kws t2) (hg : Gl X x := by rfl)
    (hall : (backToKw pos (keywordEach kws X.env)).all (·.1.isSome) = true := by rfl) (hks : (backToKw pos (keywordEach kws X.env)).filterMap (·.1) = ks := by rfl)
    (hdb : (x == ("__debug__" : Str)) = false := by decide)
    (hpl : ((backTo pos (starEach [] X.env)).any (·.1) || (backToKw pos (keywordEach kws X.env)).any (·.1.isNone)) = false := by rfl) :
    QE X (.Call (.Name x p) [] kws pos) (mCallK sp 0 m o mNil t2) := fun Wx tk => pe_imp (t := tCallGK (spOf X.K sp) Wx 0 m o (liftA X Wx mNil) (liftA X Wx t2)) ⟨fun pins s σ H Q I h => wpAny_Call_Name_kw (ld_glob I hg hm (PySem.W.callWith_KW0 (h₀ := X.base) I.ok.mod.kin hk hall (by
      obtain ⟨ρ, Cs, E, Q0, R, C, h, kQ, kE⟩ := h
      have h' := kQ [] Cs [] H h (Tr.refl H) C (reps_nil.mpr rfl)
      exact thn ((hkw Wx tk).run pos pins s σ H _ I h') fun ws s2 ⟨zs, H2, I2, rz, q2⟩ => ⟨I2.kIn, by
        rw [hks]
        exact run_callGK (us := []) F hr hgu tk hb I2 .nil rz q2⟩) hpl) hdb)⟩ fun _ _ _ h => liftCallK h
end

/-! ### [elt for target in iter if ..] -/
def Rho.wipe (ρ : Rho) (vs : List Nat) : Rho := fun i => if i ∈ vs then none else ρ i
abbrev X0 : XW := fun _ _ _ => False
/-- the new list stands at D, with acc so far; Pv by the turn, the list so far and the world without it -/
def mLc (mi : MI) (g : MG) (tt : MT) (te : ME) (vs : List Nat) : ME := fun E ρ Cs Q => mi E ρ Cs fun k C1 => ∀ D, ∃ Pv : Nat → List W → Cells → Prop, (∃ C0, Part C0 C1 ∧ Pv 0 [] C0) ∧ (∀ i acc C', i ≤ k.n → Pv i acc C' → k.keep C') ∧
  (∀ i w acc C', i < k.n → k.it i w → Pv i acc C' → g (ρ.wipe vs) w ((D, .lst acc) :: C') fun ρ2 C2 => tt X0 ρ2 C2 fun b C3 =>
    (b = true → te X0 ρ2 C3 fun y C4 => acc.length < 100000 ∧ ∃ C5, Part ((D, .lst acc) :: C5) C4 ∧ Pv (i + 1) (acc ++ [y]) C5) ∧ (b = false → ∃ C5, Part ((D, .lst acc) :: C5) C3 ∧ Pv (i + 1) acc C5)) ∧
  (∀ acc C', Pv k.n acc C' → Q (.ref D) ((D, .lst acc) :: C'))
def mYes : MT := fun _ _ Cs Q => Q true Cs
theorem wipe_get (σ : L2.St) (i : Nat) : ∀ vs : List Nat, (L2.wipe σ vs)[i]? = if i ∈ vs then (if i < σ.length then some none else none) else σ[i]?
  | [] => by rw [if_neg (by simp)]; rfl
  | v :: vs => by
    unfold L2.wipe
    by_cases h : v = i
    · subst h
      rw [if_pos (by simp)]
      by_cases hl : v < σ.length
      · rw [if_pos hl, List.getElem?_set_self (by rw [L2.wipe_length]; exact hl)]
      · rw [if_neg hl, List.getElem?_eq_none]
        rw [List.length_set, L2.wipe_length]
        omega
    · rw [List.getElem?_set_ne h, wipe_get σ i vs]
      have e : i ∈ v :: vs ↔ i ∈ vs := by
        rw [List.mem_cons]
        exact ⟨fun q => q.elim (fun z => absurd z.symm h) id, .inr⟩
      by_cases hm : i ∈ vs
      · rw [if_pos hm, if_pos (e.mpr hm)]
      · rw [if_neg hm, if_neg (fun z => hm (e.mp z))]
theorem wipe_off {σ σ' : L2.St} {js vs : List Nat} (h : Off js (L2.wipe σ vs) σ') (hs : ∀ j ∈ js, j ∈ vs) : L2.wipe σ' vs = L2.wipe σ vs := by
  refine List.ext_getElem? fun i => ?_
  rw [wipe_get, wipe_get]
  have hl : σ'.length = σ.length := by rw [h.1, L2.wipe_length]
  by_cases hi : i ∈ vs
  · rw [if_pos hi, if_pos hi, hl]
  · rw [if_neg hi, if_neg hi, h.2 i fun z => hi (hs i z), wipe_get, if_neg hi]
theorem RelS.wipe {K : PySem.W.Frag} {n : Nat} {H : Hp} {σ : L2.St} {ρ : Rho} (R : RelS K n H σ ρ) (vs : List Nat) : RelS K n H (L2.wipe σ vs) (ρ.wipe vs) := ⟨by rw [L2.wipe_length]; exact R.len, fun i w e => by
  unfold Rho.wipe at e
  by_cases hi : i ∈ vs
  · rw [if_pos hi] at e
    cases e
  · rw [if_neg hi] at e
    obtain ⟨v, h1, h2⟩ := R.at_ i w e
    exact ⟨v, by rw [wipe_get, if_neg hi]; exact h1, h2⟩⟩
section
variable {X : Cx} {ta te : ME} {pos p : Pos}
def QTs (X : Cx) (es : List Expr) (t : MT) : Prop := ∀ Wx, Takes X Wx → PTs X es (liftT X Wx t)
theorem pts_imp {es : List Expr} {t t' : TT} (h : PTs X es t) (k : ∀ σ H Q, t' σ H Q → t σ H Q) : PTs X es t' := ⟨fun pins s σ H Q I q => h.run pins s σ H Q I (k σ H Q q)⟩
theorem qts_nil : QTs X [] mYes := fun Wx _ => pts_imp pts_nil fun σ H Q' ⟨ρ, Cs, E, Q, R, C, h, kQ, kE⟩ => kQ true Cs H h (Tr.refl H) C
theorem qts_one {c : Expr} {t : MT} (h : QT X c t) : QTs X [c] t := fun Wx tk => pts_one (h Wx tk)
theorem X0.lnk {K : PySem.W.Frag} {n : Nat} {Wx : WX} {σ : L2.St} {H : Hp} : LnkX K n Wx σ H X0 := ⟨fun _ _ _ _ _ _ e => e.elim⟩
theorem lift_lc {js vs : List Nat} {mi : MI} {g : MG} {tt : MT} (hj : ∀ j ∈ js, j ∈ vs) {Xb : Cx} (hK : Xb.K = X.K) (hN : Xb.N = X.N) {Wx : WX} {σ : L2.St} {H : Hp} {Q' : VK} (h : liftE X Wx (mLc mi g tt te vs) σ H Q') :
    tLc (liftI X Wx mi) (liftG Xb js g) (liftT Xb (fun _ _ _ _ => False) tt) (liftE Xb (fun _ _ _ _ => False) te) vs σ H Q' := by
  obtain ⟨ρ, Cs, E, Q, R, C, h, kQ, kE⟩ := h
  refine ⟨ρ, Cs, E, _, R, C, h, fun k C1 H1 J q tr1 rc1 wk D hD => ?_, kE⟩
  obtain ⟨Pv, ⟨C0, hp0, h0⟩, hk, ht, hd⟩ := q D
  have trD : Tr X.K H1 (upd H1 D (.lst [])) := tr_new hD
  refine ⟨fun i m H' => m = k.n - i ∧ i ≤ k.n ∧ ∃ acc C', RelC X.K H' ((D, .lst acc) :: C') ∧ Pv i acc C' ∧ Tr X.K H1 H', ⟨_, rfl, Nat.zero_le _, [], C0, (rc1.to hp0).new hD ⟨[], upd_same, reps_nil.mpr rfl⟩, h0, trD⟩, ?_⟩
  rintro i m H' ⟨rfl, hin, acc, C', rc', p, trJ⟩
  have kp := hk i acc C' hin p
  have rcC : RelC X.K H' C' := rc'.sub (List.sublist_cons_self _ _)
  by_cases hlt : i < k.n
  · refine .inr ⟨wk.goes i H' C' trJ hlt rcC kp, fun H2 => ∃ acc' C2, RelC X.K H2 ((D, .lst acc') :: C2) ∧ Pv (i + 1) acc' C2 ∧ Tr X.K H1 H2, fun H2 ⟨acc', C2, z⟩ => ⟨k.n - (i + 1), by omega, rfl, hlt, acc', C2, z⟩, fun x H2 y => ?_⟩
    obtain ⟨tr2, rcs, w, hw, rw2⟩ := wk.yields i H' x H2 C' trJ hlt rcC kp y
    have rcD := rcs _ rc'
    have tr12 := trJ.trans tr2
    have Rw : RelS Xb.K Xb.N.length H2 (L2.wipe σ vs) (ρ.wipe vs) := by
      rw [hK, hN]
      exact (R.mono (tr1.trans tr12)).wipe vs
    refine ⟨ρ.wipe vs, w, (D, .lst acc) :: C', _, Rw, by rw [hK]; exact rcD, by rw [hK]; exact rw2, ht i w acc C' hlt hw p, fun ρ3 C3 σ3 H3 q3 tr3 R3 rc3 of3 => ⟨wipe_off of3 hj, ρ3, C3, _, _, R3, rc3, q3, fun b C4 H4 ⟨q4, q5⟩ tr4 rc4 => ?_, X0.lnk⟩⟩
    have tr14 : Tr X.K H1 H4 := by
      rw [hK] at tr3 tr4
      exact (tr12.trans tr3).trans tr4
    cases b with
    | true =>
      refine iteT ?_
      refine ⟨ρ3, C4, _, _, R3.mono tr4, rc4, q4 rfl, fun y C5 vy H5 q6 tr5 rc5 ry => ?_, X0.lnk⟩
      obtain ⟨hz, C6, hp, q6⟩ := q6
      rw [hK] at tr5 rc5 ry
      have rc6 := rc5.to hp
      obtain ⟨xs, e1, e2⟩ := rc6.mem List.mem_cons_self
      have rl := reps_len e2
      have trw : Tr X.K H5 (upd H5 D (.lst (xs ++ [vy]))) := rc6.tr_write
      exact ⟨xs, e1, Nat.lt_of_lt_of_le (by rw [← rl]; exact hz) (by decide), acc ++ [y], C6, rc6.write ⟨_, upd_same, reps_mono trw _ _ (reps_app e2 (reps_cc.mpr ⟨ry, reps_nil.mpr rfl⟩))⟩, q6, (tr14.trans tr5).trans trw⟩
    | false =>
      refine iteF ?_
      obtain ⟨C6, hp, q6⟩ := q5 rfl
      rw [hK] at rc4
      exact ⟨acc, C6, rc4.to hp, q6, tr14⟩
  · have e : i = k.n := by omega
    subst e
    exact .inl ⟨wk.stops H' C' trJ rcC kp, kQ _ _ _ H' (hd acc C' p) (tr1.trans trJ) rc' (rep_ref.mpr rfl)⟩
theorem qe_lc {js : List Nat} {elt tg iter : Expr} {ifs : List Expr} {scope : Scope} (own : List (Str × Nat)) {mi : MI} {g : MG} {tt : MT} (hc : X.calm = true) (hN : X.N.Nodup) (hi : QI X tg iter mi) (ok : BlkOk X.N X.env.scope scope own)
    (hg : ∀ (s : Shared) (H : Hp) (C : Addr) (cl : List (Str × Addr)) (fp : List Addr), QG (X.blk s H scope (compEnvC scope cl C X.env) fp) js tg g) (ht : ∀ (s : Shared) (H : Hp) (C : Addr) (cl : List (Str × Addr)) (fp : List Addr), QTs (X.blk s H scope (compEnvC scope cl C X.env) fp) ifs tt)
    (he : ∀ (s : Shared) (H : Hp) (C : Addr) (cl : List (Str × Addr)) (fp : List Addr), QE (X.blk s H scope (compEnvC scope cl C X.env) fp) elt te) (hj : ∀ j ∈ js, j ∈ own.map (·.2) := by decide) (hs : ∀ x, foldedSetIterable iter X.env x = pure x := by intro _; rfl) :
    QE X (.ListComp elt [⟨tg, iter, ifs, 0⟩] scope pos) (mLc mi g tt te (own.map (·.2))) := fun Wx tk => by
  refine pe_imp (pe_lc (wi := liftI X Wx mi) (g := liftG X js g) (tt := liftT X (fun _ _ _ _ => False) tt) (te := liftE X (fun _ _ _ _ => False) te) hc hN (hi Wx tk) ok (fun s H C cl fp => hg s H C cl fp) (fun s H C cl fp => ht s H C cl fp _ takes0) (fun s H C cl fp => he s H C cl fp _ takes0) hs) fun σ H Q' h => ?_
  exact lift_lc hj rfl rfl h
/-- name = [..], where the block's list is stored within the comprehension's frame -/
theorem qs_setLc (i : Nat) {js : List Nat} {y : Str} {py : Pos} {elt tg iter : Expr} {ifs : List Expr} {scope : Scope} (own : List (Str × Nat)) {spos : Pos} {mi : MI} {g : MG} {tt : MT} (hc : X.calm = true) (hN : X.N.Nodup)
    (hsw : swapsWith (.ListComp elt [⟨tg, iter, ifs, 0⟩] scope pos) (some (.Name y py)) spos.line X.env = pure true) (hi : QI X tg iter mi) (ok : BlkOk X.N X.env.scope scope own)
    (hg : ∀ (s : Shared) (H : Hp) (C : Addr) (cl : List (Str × Addr)) (fp : List Addr), QG (X.blk s H scope (compEnvC scope cl C X.env) fp) js tg g) (ht : ∀ (s : Shared) (H : Hp) (C : Addr) (cl : List (Str × Addr)) (fp : List Addr), QTs (X.blk s H scope (compEnvC scope cl C X.env) fp) ifs tt)
    (he : ∀ (s : Shared) (H : Hp) (C : Addr) (cl : List (Str × Addr)) (fp : List Addr), QE (X.blk s H scope (compEnvC scope cl C X.env) fp) elt te) (hy : X.N[i]? = some y := by rfl) (hyl : X.env.scope.names.lookup y = some .local := by rfl) (hj : ∀ j ∈ js, j ∈ own.map (·.2) := by decide) (hs : ∀ x, foldedSetIterable iter X.env x = pure x := by intro _; rfl) :
    QS X (.Assign [.Name y py] (.ListComp elt [⟨tg, iter, ifs, 0⟩] scope pos) spos) (sAsg (mLc mi g tt te (own.map (·.2))) (gSet i)) := fun Wx tk => by
  refine ps_imp (ps_setLc (wi := liftI X Wx mi) (g := liftG X js g) (tt := liftT X (fun _ _ _ _ => False) tt) (te := liftE X (fun _ _ _ _ => False) te) hc hN hy hyl hsw (hi Wx tk) ok (fun s H C cl fp => hg s H C cl fp) (fun s H C cl fp => ht s H C cl fp _ takes0) (fun s H C cl fp => he s H C cl fp _ takes0) hs) fun D σ H ⟨ρ, Cs, DW, R, C, h, L⟩ => ?_
  exact lift_lc (Q' := fun x H1 => gName i x σ H1 D.nx) hj rfl rfl ⟨ρ, Cs, _, _, R, C, h, fun w C1 v H1 q tr rc rp => L.nx _ C1 _ H1 q tr ((R.mono tr).set (List.getElem?_eq_some_iff.mp hy).1 rp) rc, L.lnkX R⟩
end
end SL
namespace SL
open PySem PySem.Spec PyProof.Rows L2

/-! ### whole numbers -/
def qI2 (C : Int → Int → Prop) (g : Int → Int → W) : RW2 := fun x y Cs Q => ∃ i j, x = .int i ∧ y = .int j ∧ C i j ∧ Q (g i j) Cs
def qI (g : Int → Int → W) : RW2 := fun x y Cs Q => ∃ i j, x = .int i ∧ y = .int j ∧ Q (g i j) Cs
def CMulA (i j : Int) : Prop := CMul i j ∨ CMulW i j
def CPowA (i j : Int) : Prop := 0 ≤ j ∧ (Builtin.Int.intBits i : Int) * j ≤ 2 ^ 27
abbrev qAdd : RW2 := qI fun i j => .int (i + j)
abbrev qSub : RW2 := qI fun i j => .int (i - j)
abbrev qMul : RW2 := qI2 CMulA fun i j => .int (i * j)
abbrev qMod : RW2 := qI2 (fun _ j => 0 < j) fun i j => .int (i % j)
abbrev qFdiv : RW2 := qI2 (fun _ j => 0 < j ∧ j.natAbs.log2 < 9000) fun i j => .int (i / j)
abbrev qPow : RW2 := qI2 CPowA fun i j => .int (i ^ j.toNat)
abbrev qLt : RW2 := qI fun i j => .bl (decide (i < j))
abbrev qLe : RW2 := qI fun i j => .bl (decide (i ≤ j))
abbrev qGt : RW2 := qI fun i j => .bl (decide (j < i))
abbrev qGe : RW2 := qI fun i j => .bl (decide (j ≤ i))
section
variable {K : PySem.W.Frag} {X : Cx}
theorem lk_I0 {g : Int → Int → V} {g' : Int → Int → W} (h : ∀ H i j, rep K H (g' i j) (g i j)) : Lk2 K (rI0 g) (qI g') := fun x y vx vy H Cs Q Q' ⟨i, j, e1, e2, q⟩ rc rx ry k => by
  subst e1 e2
  exact ⟨i, j, rep_int.mp rx, rep_int.mp ry, k.here q rc (h H i j)⟩
theorem lk_I {C C' : Int → Int → Prop} {g : Int → Int → V} {g' : Int → Int → W} (hc : ∀ i j, C' i j → C i j) (h : ∀ H i j, rep K H (g' i j) (g i j)) : Lk2 K (rI C g) (qI2 C' g') := fun x y vx vy H Cs Q Q' ⟨i, j, e1, e2, c, q⟩ rc rx ry k => by
  subst e1 e2
  exact ⟨i, j, rep_int.mp rx, rep_int.mp ry, hc i j c, k.here q rc (h H i j)⟩
theorem lk_add : Lk2 K (rI0 fun i j => .int (i + j)) qAdd := lk_I0 fun _ _ _ => rep_int.mpr rfl
theorem lk_sub : Lk2 K (rI0 fun i j => .int (i - j)) qSub := lk_I0 fun _ _ _ => rep_int.mpr rfl
theorem op_mulA : OpR X (binaryOp .Mult) (rI CMulA fun i j => .int (i * j)) := fun pins s σ H x y v u Q I r1 r2 ⟨i, j, e1, e2, c, q⟩ => by
  rcases c with c | c
  · exact op_mul pins s σ H x y v u Q I r1 r2 ⟨i, j, e1, e2, c, q⟩
  · exact op_mulW pins s σ H x y v u Q I r1 r2 ⟨i, j, e1, e2, c, q⟩
theorem lk_mul : Lk2 K (rI CMulA fun i j => .int (i * j)) qMul := lk_I (fun _ _ h => h) fun _ _ _ => rep_int.mpr rfl
theorem lk_mod : Lk2 K (rI (fun _ j => 0 < j) fun i j => .int (i % j)) qMod := lk_I (fun _ _ h => h) fun _ _ _ => rep_int.mpr rfl
theorem lk_fdiv : Lk2 K (rI CDivW fun i j => .int (i / j)) qFdiv := lk_I (fun _ _ h => h) fun _ _ _ => rep_int.mpr rfl
theorem op_powA : OpR X (binaryOp .Pow) (rI CPowA fun i j => .int (i ^ j.toNat)) := opI fun _ _ _ _ _ _ _ hc q => pow_int hc.1 hc.2 q
theorem lk_pow : Lk2 K (rI CPowA fun i j => .int (i ^ j.toNat)) qPow := lk_I (fun _ _ h => h) fun _ _ _ => rep_int.mpr rfl
theorem lk_lt : Lk2 K (rI0 fun i j => .bl (decide (i < j))) qLt := lk_I0 fun _ _ _ => rep_bl.mpr rfl
theorem lk_le : Lk2 K (rI0 fun i j => .bl (decide (i ≤ j))) qLe := lk_I0 fun _ _ _ => rep_bl.mpr rfl
theorem lk_gt : Lk2 K (rI0 fun i j => .bl (decide (j < i))) qGt := lk_I0 fun _ _ _ => rep_bl.mpr rfl
theorem lk_ge : Lk2 K (rI0 fun i j => .bl (decide (j ≤ i))) qGe := lk_I0 fun _ _ _ => rep_bl.mpr rfl
def qNeg : RW1 := fun x Cs Q => ∃ i, x = .int i ∧ Q (.int (-i)) Cs
theorem lk_neg : Lk1 K (rU fun i => .int (-i)) qNeg := fun x vx H Cs Q Q' ⟨i, e, q⟩ rc rx k => by
  subst e
  exact ⟨i, rep_int.mp rx, k.here q rc (rep_int.mpr rfl)⟩
theorem lk_aadd : Lk2 K (ipI fun i j => i + j) qAdd := fun x y vx vy H Cs Q Q' ⟨i, j, e1, e2, q⟩ rc rx ry k => by
  subst e1 e2
  exact ⟨i, j, rep_int.mp rx, rep_int.mp ry, k.here q rc (rep_int.mpr rfl)⟩
theorem lk_asub : Lk2 K (ipI fun i j => i - j) qSub := fun x y vx vy H Cs Q Q' ⟨i, j, e1, e2, q⟩ rc rx ry k => by
  subst e1 e2
  exact ⟨i, j, rep_int.mp rx, rep_int.mp ry, k.here q rc (rep_int.mpr rfl)⟩

/-! ### equality of scalars, None -/
/-- == of two plain things, where the answer is told by their kinds -/
def seq : W → W → Option Bool
  | .int i, .int j => some (decide (i = j))
  | .str i, .str j => some (decide (i = j))
  | .bl i, .bl j => some (decide (i = j))
  | .non, .non => some true
  | .non, .int _ => some false
  | .int _, .non => some false
  | .non, .str _ => some false
  | .str _, .non => some false
  | .non, .bl _ => some false
  | .bl _, .non => some false
  | .int _, .str _ => some false
  | .str _, .int _ => some false
  | .bl _, .str _ => some false
  | .str _, .bl _ => some false
  | _, _ => none
theorem seq_ok {H : Hp} {x y : W} {vx vy : V} {b : Bool} (h : seq x y = some b) (rx : rep K H x vx) (ry : rep K H y vy) : scal vx vy = true ∧ decide (vx = vy) = b := by
  unfold seq at h
  split at h
  all_goals first | (cases h; done) | skip
  all_goals (injection h with h; subst h)
  all_goals (simp only [rep] at rx ry; subst rx ry)
  all_goals exact ⟨rfl, by simp⟩
def qEq : RW2 := fun x y Cs Q => ∃ b, seq x y = some b ∧ Q (.bl b) Cs
def qNe : RW2 := fun x y Cs Q => ∃ b, seq x y = some b ∧ Q (.bl (!b)) Cs
theorem lk_eq : Lk2 K rEq qEq := fun x y vx vy H Cs Q Q' ⟨b, e, q⟩ rc rx ry k => by
  obtain ⟨h1, h2⟩ := seq_ok e rx ry
  refine ⟨h1, ?_⟩
  rw [h2]
  exact k.here q rc (rep_bl.mpr rfl)
theorem lk_ne : Lk2 K rNe qNe := fun x y vx vy H Cs Q Q' ⟨b, e, q⟩ rc rx ry k => by
  obtain ⟨h1, h2⟩ := seq_ok e rx ry
  refine ⟨h1, ?_⟩
  rw [h2]
  exact k.here q rc (rep_bl.mpr rfl)
def isNon : W → Bool
  | .non => true
  | _ => false
theorem isNon_ok {H : Hp} {x : W} {vx : V} (rx : rep K H x vx) : decide (vx = V.non) = isNon x := by
  cases x with
  | tup ws => obtain ⟨t, xs, rfl, _⟩ := rep_tup.mp rx; rfl
  | cst a ws => obtain ⟨rfl, _⟩ := rep_cst.mp rx; rfl
  | ls ws => obtain ⟨_, _, _, rfl, _⟩ := rep_ls.mp rx; rfl
  | exn a C w => obtain ⟨rfl, _⟩ := rep_exn.mp rx; rfl
  | _ => simp only [rep] at rx; subst rx; rfl
def qIsN : RW2 := fun x y Cs Q => y = .non ∧ Q (.bl (isNon x)) Cs
def qNotN : RW2 := fun x y Cs Q => y = .non ∧ Q (.bl (!isNon x)) Cs
theorem lk_isN : Lk2 K (fun x y H Q => y = .non ∧ Q (.bl (decide (x = .non))) H) qIsN := fun x y vx vy H Cs Q Q' ⟨e, q⟩ rc rx ry k => by
  subst e
  refine ⟨rep_non.mp ry, ?_⟩
  rw [isNon_ok rx]
  exact k.here q rc (rep_bl.mpr rfl)
theorem lk_notN : Lk2 K (fun x y H Q => y = .non ∧ Q (.bl (!decide (x = .non))) H) qNotN := fun x y vx vy H Cs Q Q' ⟨e, q⟩ rc rx ry k => by
  subst e
  refine ⟨rep_non.mp ry, ?_⟩
  rw [isNon_ok rx]
  exact k.here q rc (rep_bl.mpr rfl)

/-! ### places -/
/-- the i-th of a list, from either end -/
def nth {α : Type} (ws : List α) (i : Int) : Option α := if 0 ≤ i then ws[i.toNat]? else if -(ws.length : Int) ≤ i then ws[(i + ws.length).toNat]? else none
theorem nth_at {H : Hp} {ws : List W} {xs : List V} {i : Int} {w : W} (r : reps K H ws xs) (h : nth ws i = some w) : ∃ x, atI xs i = some x ∧ rep K H w x := by
  have hl := reps_len r
  unfold nth at h
  unfold atI ixN
  by_cases h0 : 0 ≤ i
  · rw [if_pos h0] at h ⊢
    obtain ⟨x, h1, h2⟩ := reps_get r h
    have hb : i < (xs.length : Int) := by
      have := (List.getElem?_eq_some_iff.mp h1).1
      omega
    rw [if_pos hb]
    exact ⟨x, h1, h2⟩
  · rw [if_neg h0] at h ⊢
    by_cases h1 : -(ws.length : Int) ≤ i
    · rw [if_pos h1] at h
      rw [if_pos (by rw [← hl]; exact h1)]
      rw [hl] at h
      exact reps_get r h
    · rw [if_neg h1] at h
      cases h
def qIxT : RW2 := fun x y Cs Q => ∃ ws i w, x = .tup ws ∧ y = .int i ∧ nth ws i = some w ∧ Q w Cs
def qIxL : RW2 := fun x y Cs Q => ∃ a ws i w, x = .ref a ∧ y = .int i ∧ LsAt a ws Cs ∧ nth ws i = some w ∧ Q w Cs
theorem lk_ixT : Lk2 K (rIxT K) qIxT := fun x y vx vy H Cs Q Q' ⟨ws, i, w, e1, e2, e3, q⟩ rc rx ry k => by
  subst e1 e2
  obtain ⟨t, xs, rfl, h1, h2⟩ := rep_tup.mp rx
  obtain ⟨v, h3, h4⟩ := nth_at h2 e3
  exact ⟨t, xs, i, v, rfl, rep_int.mp ry, h1, h3, k.here q rc h4⟩
theorem lk_ixL : Lk2 K (rIxL K) qIxL := fun x y vx vy H Cs Q Q' ⟨a, ws, i, w, e1, e2, hl, e3, q⟩ rc rx ry k => by
  subst e1 e2
  obtain ⟨xs, h1, h2⟩ := hl.get rc
  obtain ⟨v, h3, h4⟩ := nth_at h2 e3
  exact ⟨a, xs, i, v, rep_ref.mp rx, rep_int.mp ry, h1, h3, k.here q rc h4⟩
/-- xs[i] = v -/
def qSetL : RSet := fun o i v Cs Q => ∃ a j ws Ds, o = .ref a ∧ i = .int j ∧ Cs.Perm ((a, .lst ws) :: Ds) ∧ 0 ≤ j ∧ j < ws.length ∧ Q ((a, .lst (ws.set j.toNat v)) :: Ds)
theorem lk_setL : LkSet K rSetL qSetL := fun o i v vo vi vv H Cs Q Q' ⟨a, j, ws, Ds, e1, e2, hp, h0, h1, q⟩ rc ro ri rv k => by
  subst e1 e2
  have rc' := rc.perm hp
  obtain ⟨xs, e3, r⟩ := rc'.mem List.mem_cons_self
  have hl := reps_len r
  have trw : Tr K H (upd H a (.lst (xs.set j.toNat vv))) := rc'.tr_write
  refine ⟨a, xs, j, j.toNat, rep_ref.mp ro, rep_int.mp ri, e3, ?_, k _ _ q trw (rc'.write ⟨_, upd_same, reps_mono trw _ _ (reps_set _ r rv)⟩)⟩
  unfold ixN
  rw [if_pos h0, if_pos (by rw [← hl]; exact h1)]

/-! ### in a tuple, in a list -/
def flatW : W → Bool
  | .non => true
  | .bl _ => true
  | .int _ => true
  | .str _ => true
  | _ => false
def weq : W → W → Bool
  | .non, .non => true
  | .bl a, .bl b => a == b
  | .bl a, .int b => (if a then 1 else 0) == b
  | .int a, .bl b => a == (if b then 1 else 0)
  | .int a, .int b => a == b
  | .str a, .str b => a == b
  | _, _ => false
def win (x : W) (ws : List W) : Bool := ws.any fun y => weq y x
theorem flat_ok {H : Hp} {x : W} {vx : V} (f : flatW x = true) (rx : rep K H x vx) : flatV vx = true := by
  cases x <;> first | (cases f; done) | (simp only [rep] at rx; subst rx; rfl)
theorem weq_ok {H : Hp} {x y : W} {vx vy : V} (fx : flatW x = true) (fy : flatW y = true) (rx : rep K H x vx) (ry : rep K H y vy) : eqV vy vx = weq y x := by
  cases x <;> cases y <;> first | (cases fx; done) | (cases fy; done) | (simp only [rep] at rx ry; subst rx ry; rfl)
theorem win_ok {H : Hp} {x : W} {vx : V} (fx : flatW x = true) (rx : rep K H x vx) : ∀ {ws : List W} {xs : List V}, ws.all flatW = true → reps K H ws xs → xs.all flatV = true ∧ inV vx xs = win x ws
  | [], xs, _, r => by rw [reps_nil.mp r]; exact ⟨rfl, rfl⟩
  | w :: ws, xs, f, r => by
    obtain ⟨v, vs, rfl, r1, r2⟩ := reps_cons.mp r
    rw [List.all_cons, Bool.and_eq_true] at f
    obtain ⟨h1, h2⟩ := win_ok fx rx f.2 r2
    refine ⟨by rw [List.all_cons, flat_ok f.1 r1, h1]; rfl, ?_⟩
    unfold inV win at h2 ⊢
    rw [List.any_cons, List.any_cons, weq_ok fx f.1 rx r1, h2]
def qInT (neg : Bool) : RW2 := fun x y Cs Q => ∃ ws, y = .tup ws ∧ flatW x = true ∧ ws.all flatW = true ∧ Q (.bl (if neg then !win x ws else win x ws)) Cs
def qInL (neg : Bool) : RW2 := fun x y Cs Q => ∃ a ws, y = .ref a ∧ LsAt a ws Cs ∧ flatW x = true ∧ ws.all flatW = true ∧ Q (.bl (if neg then !win x ws else win x ws)) Cs
theorem lk_inT {neg : Bool} : Lk2 K (rIn K neg) (qInT neg) := fun x y vx vy H Cs Q Q' ⟨ws, e, fx, fw, q⟩ rc rx ry k => by
  subst e
  obtain ⟨t, xs, rfl, h1, h2⟩ := rep_tup.mp ry
  obtain ⟨h3, h4⟩ := win_ok fx rx fw h2
  refine ⟨t, xs, rfl, .inr h1, flat_ok fx rx, h3, ?_⟩
  rw [h4]
  exact k.here q rc (rep_bl.mpr rfl)
theorem lk_inL {neg : Bool} : Lk2 K (rIn K neg) (qInL neg) := fun x y vx vy H Cs Q Q' ⟨a, ws, e, hl, fx, fw, q⟩ rc rx ry k => by
  subst e
  obtain ⟨xs, h1, h2⟩ := hl.get rc
  obtain ⟨h3, h4⟩ := win_ok fx rx fw h2
  refine ⟨a, xs, rep_ref.mp ry, .inl h1, flat_ok fx rx, h3, ?_⟩
  rw [h4]
  exact k.here q rc (rep_bl.mpr rfl)

/-! ### texts -/
def qCatS : RW2 := fun x y Cs Q => ∃ i j, x = .str i ∧ y = .str j ∧ i.length + j.length ≤ sizeLine ∧ Q (.str (i ++ j)) Cs
theorem lk_catS : Lk2 K (fun x y H Q => ∃ i j, x = .str i ∧ y = .str j ∧ i.length + j.length ≤ sizeLine ∧ Q (.str (i ++ j)) H) qCatS := fun x y vx vy H Cs Q Q' ⟨i, j, e1, e2, c, q⟩ rc rx ry k => by
  subst e1 e2
  exact ⟨i, j, rep_str.mp rx, rep_str.mp ry, c, k.here q rc (rep_str.mpr rfl)⟩
/-! ### lists -/
theorem LsAt.lst {a : Addr} {ws : List W} {Cs : Cells} (h : (a, MO.lst ws) ∈ Cs) : LsAt a ws Cs := h
def qCat : RW2 := fun x y Cs Q => ∃ a b ws us, x = .ref a ∧ y = .ref b ∧ (a, MO.lst ws) ∈ Cs ∧ (b, MO.lst us) ∈ Cs ∧ ws.length + us.length ≤ 100000 ∧ ∀ p, Q (.ref p) ((p, .lst (ws ++ us)) :: Cs)
theorem lk_cat : Lk2 K rCat qCat := fun x y vx vy H Cs Q Q' ⟨a, b, ws, us, e1, e2, h1, h2, hz, q⟩ rc rx ry k => by
  subst e1 e2
  obtain ⟨xs, f1, r1⟩ := rc.mem h1
  obtain ⟨ys, f2, r2⟩ := rc.mem h2
  exact ⟨a, b, xs, ys, rep_ref.mp rx, rep_ref.mp ry, f1, f2, Nat.le_trans (by rw [← reps_len r1, ← reps_len r2]; exact hz) (by decide), fun p hp => k _ _ _ _ (q p) (tr_new hp) (rc.new hp ⟨_, upd_same, reps_mono (tr_new hp) _ _ (reps_app r1 r2)⟩) (rep_ref.mpr rfl)⟩
theorem reps_rep {H : Hp} {ws : List W} {xs : List V} (r : reps K H ws xs) : ∀ k : Nat, reps K H (List.replicate k ws).flatten (List.replicate k xs).flatten
  | 0 => reps_nil.mpr rfl
  | k + 1 => by
    rw [List.replicate_succ, List.flatten_cons, List.replicate_succ, List.flatten_cons]
    exact reps_app r (reps_rep r k)
def qRep : RW2 := fun x y Cs Q => ∃ a k ws, x = .ref a ∧ y = .int k ∧ (a, MO.lst ws) ∈ Cs ∧ (-9223372036854775808 ≤ k ∧ k < 9223372036854775808) ∧ ws.length * k.toNat ≤ 100000 ∧ ∀ p, Q (.ref p) ((p, .lst (List.replicate k.toNat ws).flatten) :: Cs)
end
end SL
namespace SL
open PySem PySem.Spec PyProof.Rows L2

/-! ### data at any depth -/
mutual
/-- a tree without addresses, as data -/
def dW : W → PyData
  | .non => .none
  | .bl b => .bool b
  | .int i => .int i
  | .str x => .str x
  | .tup ws => .tuple (dWs ws)
  | .ref _ => .none
  | .ty _ => .none
  | .cst _ _ => .none
  | .ls ws => .list (dWs ws)
  | .exn _ _ _ => .none
def dWs : List W → List PyData
  | [] => []
  | w :: ws => dW w :: dWs ws
end
mutual
def noref : W → Bool
  | .ref _ => false
  | .ty _ => false
  | .cst _ _ => false
  | .ls ws => norefs ws
  | .exn _ _ _ => false
  | .tup ws => norefs ws
  | .non => true
  | .bl _ => true
  | .int _ => true
  | .str _ => true
def norefs : List W → Bool
  | [] => true
  | w :: ws => noref w && norefs ws
end
theorem dWs_map : ∀ ws : List W, dWs ws = ws.map dW
  | [] => rfl
  | w :: ws => by rw [dWs, dWs_map ws]; rfl
theorem norefs_all : ∀ ws : List W, norefs ws = ws.all noref
  | [] => rfl
  | w :: ws => by rw [norefs, norefs_all ws]; rfl
inductive Dw (Cs : Cells) : W → PyData → Prop
  | flat {w : W} (h : noref w = true) : Dw Cs w (dW w)
  | lst {a : Addr} {ws : List W} {ds : List PyData} (h : LsAt a ws Cs) (hl : ws.length = ds.length) (hd : ∀ (i : Nat) (w : W) (d : PyData), ws[i]? = some w → ds[i]? = some d → Dw Cs w d) : Dw Cs (.ref a) (.list ds)
  | tup {ws : List W} {ds : List PyData} (hl : ws.length = ds.length) (hd : ∀ (i : Nat) (w : W) (d : PyData), ws[i]? = some w → ds[i]? = some d → Dw Cs w d) : Dw Cs (.tup ws) (.tuple ds)
theorem Dw.is {Cs : Cells} {w : W} {d e : PyData} (h : Dw Cs w d) (he : d = e) : Dw Cs w e := he ▸ h
theorem Dw.lflat {Cs : Cells} {a : Addr} {ws : List W} (h : LsAt a ws Cs) (hf : norefs ws = true) : Dw Cs (.ref a) (.list (ws.map dW)) :=
  .lst h (by rw [List.length_map]) fun i w d e1 e2 => by
    rw [List.getElem?_map, e1] at e2
    cases e2
    refine .flat ?_
    rw [norefs_all] at hf
    exact List.all_eq_true.mp hf w (List.mem_of_getElem? e1)
theorem Dw.mono {Cs Ds : Cells} (h : ∀ a ws, LsAt a ws Cs → LsAt a ws Ds) {w : W} {d : PyData} (q : Dw Cs w d) : Dw Ds w d := by
  induction q with
  | flat h => exact .flat h
  | lst hl hn _ ih => exact .lst (h _ _ hl) hn ih
  | tup hn _ ih => exact .tup hn ih
section
variable {K : PySem.W.Frag} {H : Hp} {Cs : Cells}
theorem dpAll_of : ∀ {vs : List V} {ds : List PyData}, vs.length = ds.length → (∀ (i : Nat) (v : V) (d : PyData), vs[i]? = some v → ds[i]? = some d → Dp K H v d) → DpAll K H vs ds
  | [], [], _, _ => .nil
  | v :: vs, d :: ds, hl, h => .cons (h 0 v d rfl rfl) (dpAll_of (by simpa using hl) fun i v' d' e1 e2 => h (i + 1) v' d' (by simpa using e1) (by simpa using e2))
mutual
theorem dp_flat : ∀ (w : W) (v : V), noref w = true → rep K H w v → Dp K H v (dW w)
  | .non, v, _, r => by rw [rep_non.mp r]; exact .non
  | .bl b, v, _, r => by rw [rep_bl.mp r]; exact .bl b
  | .int i, v, _, r => by rw [rep_int.mp r]; exact .int i
  | .str x, v, _, r => by rw [rep_str.mp r]; exact .str x
  | .tup ws, v, h, r => by
    obtain ⟨t, xs, rfl, h1, h2⟩ := rep_tup.mp r
    rw [dW]
    exact .tup h1 (dp_flats ws xs (by simpa only [noref] using h) h2)
  | .ref _, _, h, _ => by simp [noref] at h
  | .ty _, _, h, _ => by simp [noref] at h
  | .cst _ _, _, h, _ => by simp [noref] at h
  | .ls ws, v, h, r => by
    obtain ⟨t, o, xs, rfl, h1, h2⟩ := rep_ls.mp r
    rw [dW]
    exact .lst (.inl (.inr ⟨o, h1⟩)) (dp_flats ws xs (by simpa only [noref] using h) h2)
  | .exn _ _ _, _, h, _ => by simp [noref] at h
theorem dp_flats : ∀ (ws : List W) (vs : List V), norefs ws = true → reps K H ws vs → DpAll K H vs (dWs ws)
  | [], vs, _, r => by rw [reps_nil.mp r]; exact .nil
  | w :: ws, vs, h, r => by
    obtain ⟨v, us, rfl, h1, h2⟩ := reps_cons.mp r
    rw [norefs, Bool.and_eq_true] at h
    rw [dWs]
    exact .cons (dp_flat w v h.1 h1) (dp_flats ws us h.2 h2)
end
theorem Dw.dp (R : RelC K H Cs) {w : W} {d : PyData} (q : Dw Cs w d) : ∀ {v : V}, rep K H w v → Dp K H v d := by
  induction q with
  | flat h => exact fun r => dp_flat _ _ h r
  | lst hl hn _ ih =>
    intro v r
    rw [rep_ref.mp r]
    obtain ⟨xs, h1, h2⟩ := hl.get R
    refine .lst h1 (dpAll_of (by rw [← reps_len h2]; exact hn) fun i x d e1 e2 => ?_)
    obtain ⟨w, e3, e4⟩ := reps_get' h2 e1
    exact ih i w d e3 e2 e4
  | tup hn _ ih =>
    intro v r
    obtain ⟨t, xs, rfl, h1, h2⟩ := rep_tup.mp r
    refine .tup h1 (dpAll_of (by rw [← reps_len h2]; exact hn) fun i x d e1 e2 => ?_)
    obtain ⟨w, e3, e4⟩ := reps_get' h2 e1
    exact ih i w d e3 e2 e4
def qEqD : RW2 := fun x y Cs Q => ∃ d e, Dw Cs x d ∧ Dw Cs y e ∧ SeqAt.shaped d = true ∧ SeqAt.shaped e = true ∧ Q (.bl (PyData.eqv d e)) Cs
def qNeD : RW2 := fun x y Cs Q => ∃ d e, Dw Cs x d ∧ Dw Cs y e ∧ SeqAt.shaped d = true ∧ SeqAt.shaped e = true ∧ Q (.bl (!PyData.eqv d e)) Cs
theorem lk_eqD : Lk2 K (rEqD K) qEqD := fun x y vx vy H Cs Q Q' ⟨d, e, h1, h2, s1, s2, q⟩ rc rx ry k => ⟨d, e, h1.dp rc rx, h2.dp rc ry, s1, s2, k.here q rc (rep_bl.mpr rfl)⟩
theorem lk_neD : Lk2 K (rNeD K) qNeD := fun x y vx vy H Cs Q Q' ⟨d, e, h1, h2, s1, s2, q⟩ rc rx ry k => ⟨d, e, h1.dp rc rx, h2.dp rc ry, s1, s2, k.here q rc (rep_bl.mpr rfl)⟩
end

/-! ### repr -/
def qRepr : RWL := fun xs Cs Q => ∃ a ds, xs = [.ref a] ∧ Dw Cs (.ref a) (.list ds) ∧ PyData.showableAll ds = true ∧ PyData.hasDictAll ds = false ∧ PyData.depthAll ds ≤ 60 ∧ (PyData.shown (.list ds)).length ≤ sizeLine ∧ Q (.str (PyData.shown (.list ds))) Cs
def rReprL (K : PySem.W.Frag) : List V → Hp → VK → Prop := fun vs H Q => ∃ a ds, vs = [.ref a] ∧ Dp K H (.ref a) (.list ds) ∧ PyData.showableAll ds = true ∧ PyData.hasDictAll ds = false ∧ PyData.depthAll ds ≤ 60 ∧ (PyData.shown (.list ds)).length ≤ sizeLine ∧ Q (.str (PyData.shown (.list ds))) H
section
variable {X : Cx} {K : PySem.W.Frag}
theorem call_reprL (hg : X.A.guards = some []) (hu : X.A.units + 64 < cLine) : CallR X (.builtin "repr") (rReprL X.K) := by
  intro pins s σ H xs us Q I r h
  obtain ⟨a, ds, rfl, hd, h1, h2, h3, h4, q⟩ := h
  obtain ⟨u, rfl, ru⟩ := vals1 r
  obtain ⟨as, rd⟩ := Dp.reads I _ _ u hd ru
  obtain rfl : u = Value.ref a := ru
  refine repr_of_reads' (s := s) rd (by rw [PyData.showable]; exact h1) (fun z => ?_) hg ?_ (fun _ _ e => e) (fun h' t tk k => ⟨.str _, H, I.kept k, ⟨t, rfl⟩, q⟩) h4
  · rw [PyData.hasDict, h2] at z
    cases z
  · rw [PyData.depth]
    omega
theorem lk_repr : LkL K (rReprL K) qRepr := fun xs vs H Cs Q Q' ⟨a, ds, e, hd, h1, h2, h3, h4, q⟩ rc rx k => by
  subst e
  obtain ⟨x, r, rfl, r1, r2⟩ := reps_cons.mp rx
  obtain rfl := reps_nil.mp r2
  have hd' := hd.dp rc r1
  obtain rfl := rep_ref.mp r1
  exact ⟨a, ds, rfl, hd', h1, h2, h3, h4, k.here q rc (rep_str.mpr rfl)⟩
end
end SL
namespace SL
open PySem PySem.Spec PyProof.Rows L2

/-! ### built-ins by name -/
section
variable {X : Cx} {K : PySem.W.Frag} {H : Hp} {Cs : Cells}
def qLenL : RWL := fun xs Cs Q => ∃ a ws, xs = [.ref a] ∧ LsAt a ws Cs ∧ Q (.int (ws.length : Nat)) Cs
def qLenT : RWL := fun xs Cs Q => ∃ ws, xs = [.tup ws] ∧ Q (.int (ws.length : Nat)) Cs
def qLenS : RWL := fun xs Cs Q => ∃ z, xs = [.str z] ∧ z.length ≤ sizeLine ∧ Q (.int (z.length : Nat)) Cs
/-- len of a list or of a tuple -/
def qLen : RWL := fun xs Cs Q => qLenL xs Cs Q ∨ qLenT xs Cs Q
theorem one_rep {x : W} {vs : List V} (r : reps K H [x] vs) : ∃ v, vs = [v] ∧ rep K H x v := by
  obtain ⟨v, t, rfl, r1, r2⟩ := reps_cons.mp r
  obtain rfl := reps_nil.mp r2
  exact ⟨v, rfl, r1⟩
theorem two_rep {x y : W} {vs : List V} (r : reps K H [x, y] vs) : ∃ v u, vs = [v, u] ∧ rep K H x v ∧ rep K H y u := by
  obtain ⟨v, t, rfl, r1, r2⟩ := reps_cons.mp r
  obtain ⟨u, rfl, r3⟩ := one_rep r2
  exact ⟨v, u, rfl, r1, r3⟩
theorem lk_lenQ : LkL K (fun xs H Q => ∃ p ys, xs = [.ref p] ∧ (SqL K H p ys ∨ SqT K H p ys) ∧ Q (.int ys.length) H) qLen := fun xs vs H Cs Q Q' h rc rx k => by
  rcases h with ⟨a, ws, rfl, hl, q⟩ | ⟨ws, rfl, q⟩
  · obtain ⟨v, rfl, r⟩ := one_rep rx
    obtain rfl := rep_ref.mp r
    obtain ⟨ys, h1, h2⟩ := hl.get rc
    refine ⟨a, ys, rfl, .inl h1, ?_⟩
    rw [← reps_len h2]
    exact k.here q rc (rep_int.mpr rfl)
  · obtain ⟨v, rfl, r⟩ := one_rep rx
    obtain ⟨t, ys, rfl, h1, h2⟩ := rep_tup.mp r
    refine ⟨t, ys, rfl, .inr h1, ?_⟩
    rw [← reps_len h2]
    exact k.here q rc (rep_int.mpr rfl)
theorem lk_lenS : LkL K (fun xs H Q => ∃ z, xs = [.str z] ∧ z.length ≤ sizeLine ∧ Q (.int z.length) H) qLenS := fun xs vs H Cs Q Q' ⟨z, e, hz, q⟩ rc rx k => by
  subst e
  obtain ⟨v, rfl, r⟩ := one_rep rx
  exact ⟨z, by rw [rep_str.mp r], hz, k.here q rc (rep_int.mpr rfl)⟩
def qMax2 : RWL := fun xs Cs Q => ∃ i j, xs = [.int i, .int j] ∧ Q (.int (if j > i then j else i)) Cs
def qMin2 : RWL := fun xs Cs Q => ∃ i j, xs = [.int i, .int j] ∧ Q (.int (if j < i then j else i)) Cs
theorem lk_max2 : LkL K (fun xs H Q => ∃ i j, xs = [.int i, .int j] ∧ Q (.int (if j > i then j else i)) H) qMax2 := fun xs vs H Cs Q Q' ⟨i, j, e, q⟩ rc rx k => by
  subst e
  obtain ⟨v, u, rfl, r1, r2⟩ := two_rep rx
  exact ⟨i, j, by rw [rep_int.mp r1, rep_int.mp r2], k.here q rc (rep_int.mpr rfl)⟩
theorem lk_min2 : LkL K (fun xs H Q => ∃ i j, xs = [.int i, .int j] ∧ Q (.int (if j < i then j else i)) H) qMin2 := fun xs vs H Cs Q Q' ⟨i, j, e, q⟩ rc rx k => by
  subst e
  obtain ⟨v, u, rfl, r1, r2⟩ := two_rep rx
  exact ⟨i, j, by rw [rep_int.mp r1, rep_int.mp r2], k.here q rc (rep_int.mpr rfl)⟩
def qAbs : RWL := fun xs Cs Q => ∃ i, xs = [.int i] ∧ Q (.int (if i < 0 then -i else i)) Cs
theorem lk_abs : LkL K (fun xs H Q => ∃ i, xs = [.int i] ∧ Q (.int (if i < 0 then -i else i)) H) qAbs := fun xs vs H Cs Q Q' ⟨i, e, q⟩ rc rx k => by
  subst e
  obtain ⟨v, rfl, r1⟩ := one_rep rx
  exact ⟨i, by rw [rep_int.mp r1], k.here q rc (rep_int.mpr rfl)⟩
/-- int(a truth value) -/
def qIntB : RWL := fun xs Cs Q => ∃ b, xs = [.bl b] ∧ Q (.int (if b then 1 else 0)) Cs
theorem lk_intB : LkL K (fun xs H Q => (∃ i, xs = [.int i] ∧ Q (.int i) H) ∨ ∃ k, xs = [.bl k] ∧ Q (.int (if k then 1 else 0)) H) qIntB := fun xs vs H Cs Q Q' ⟨b, e, q⟩ rc rx k => by
  subst e
  obtain ⟨v, rfl, r1⟩ := one_rep rx
  exact .inr ⟨b, by rw [rep_bl.mp r1], k.here q rc (rep_int.mpr rfl)⟩
/-- int(a text that is a number) -/
def qIntS : RWL := fun xs Cs Q => ∃ a n, xs = [.str a] ∧ PySem.intText? a = some n ∧ a.length ≤ 640 ∧ Q (.int n) Cs
theorem lk_intS : LkL K (fun xs H Q => ∃ a n, xs = [.str a] ∧ PySem.intText? a = some n ∧ a.length ≤ 640 ∧ Q (.int n) H) qIntS := fun xs vs H Cs Q Q' ⟨a, n, e, h1, h2, q⟩ rc rx k => by
  subst e
  obtain ⟨v, rfl, r1⟩ := one_rep rx
  exact ⟨a, n, by rw [rep_str.mp r1], h1, h2, k.here q rc (rep_int.mpr rfl)⟩
def qStrI : RWL := fun xs Cs Q => ∃ i : Int, xs = [.int i] ∧ i.natAbs.log2 < 1920 ∧ Q (.str (toString i)) Cs
theorem lk_strI : LkL K (fun xs H Q => ∃ i : Int, xs = [.int i] ∧ i.natAbs.log2 < 1920 ∧ Q (.str (toString i)) H) qStrI := fun xs vs H Cs Q Q' ⟨a, e, h2, q⟩ rc rx k => by
  subst e
  obtain ⟨v, rfl, r1⟩ := one_rep rx
  exact ⟨a, by rw [rep_int.mp r1], h2, k.here q rc (rep_str.mpr rfl)⟩
/-- list(a list), list(a tuple) -/
def qListL : RWL := fun xs Cs Q => ∃ a ws, xs = [.ref a] ∧ LsAt a ws Cs ∧ ∀ p, Q (.ref p) ((p, .lst ws) :: Cs)
def qListT : RWL := fun xs Cs Q => ∃ ws, xs = [.tup ws] ∧ ∀ p, Q (.ref p) ((p, .lst ws) :: Cs)
def qList : RWL := fun xs Cs Q => qListL xs Cs Q ∨ qListT xs Cs Q
theorem lk_list : LkL K (fun xs H Q => ∃ p ys, xs = [.ref p] ∧ (SqL K H p ys ∨ SqT K H p ys) ∧ ∀ l, H l = none → Q (.ref l) (upd H l (.lst ys))) qList := fun xs vs H Cs Q Q' h rc rx k => by
  rcases h with ⟨a, ws, rfl, hl, q⟩ | ⟨ws, rfl, q⟩
  · obtain ⟨v, rfl, r⟩ := one_rep rx
    obtain rfl := rep_ref.mp r
    obtain ⟨ys, h1, h2⟩ := hl.get rc
    exact ⟨a, ys, rfl, .inl h1, fun l hn => k _ _ _ _ (q l) (tr_new hn) (rc.new hn ⟨ys, upd_same, reps_mono (tr_new hn) _ _ h2⟩) (rep_ref.mpr rfl)⟩
  · obtain ⟨v, rfl, r⟩ := one_rep rx
    obtain ⟨t, ys, rfl, h1, h2⟩ := rep_tup.mp r
    exact ⟨t, ys, rfl, .inr h1, fun l hn => k _ _ _ _ (q l) (tr_new hn) (rc.new hn ⟨ys, upd_same, reps_mono (tr_new hn) _ _ h2⟩) (rep_ref.mpr rfl)⟩
def qSum : RWL := fun xs Cs Q => ∃ (x : W) (ns : List Int), xs = [x] ∧ LsV x (ns.map W.int) Cs ∧ Q (.int ns.sum) Cs
theorem lk_sum : LkL K (rSum K) qSum := fun xs vs H Cs Q Q' ⟨a, ns, e, hl, q⟩ rc rx k => by
  subst e
  obtain ⟨v, rfl, r⟩ := one_rep rx
  obtain ⟨a, ys, rfl, h1, h2⟩ := hl.get rc r
  obtain rfl := reps_ints.mp h2
  exact ⟨a, ns, rfl, .inl h1, k.here q rc (rep_int.mpr rfl)⟩
/-- min, max of a list of ints -/
def qMinL : RWL := fun xs Cs Q => ∃ (a : W) (ns : List Int), xs = [a] ∧ LsV a (ns.map W.int) Cs ∧ 0 < ns.length ∧ ∀ m, m ∈ ns → (∀ y, y ∈ ns → m ≤ y) → Q (.int m) Cs
def qMaxL : RWL := fun xs Cs Q => ∃ (a : W) (ns : List Int), xs = [a] ∧ LsV a (ns.map W.int) Cs ∧ 0 < ns.length ∧ ∀ m, m ∈ ns → (∀ y, y ∈ ns → y ≤ m) → Q (.int m) Cs
theorem lk_minL : LkL K (rMin K) qMinL := fun xs vs H Cs Q Q' ⟨a, ns, e, hl, hz, q⟩ rc rx k => by
  subst e
  obtain ⟨v, rfl, r⟩ := one_rep rx
  obtain ⟨a, ys, rfl, h1, h2⟩ := hl.get rc r
  obtain rfl := reps_ints.mp h2
  exact ⟨a, ns, rfl, .inl h1, hz, fun m h3 h4 => k.here (q m h3 h4) rc (rep_int.mpr rfl)⟩
theorem lk_maxL : LkL K (rMax K) qMaxL := fun xs vs H Cs Q Q' ⟨a, ns, e, hl, hz, q⟩ rc rx k => by
  subst e
  obtain ⟨v, rfl, r⟩ := one_rep rx
  obtain ⟨a, ys, rfl, h1, h2⟩ := hl.get rc r
  obtain rfl := reps_ints.mp h2
  exact ⟨a, ns, rfl, .inl h1, hz, fun m h3 h4 => k.here (q m h3 h4) rc (rep_int.mpr rfl)⟩
def qAll : RWL := fun xs Cs Q => ∃ (a : W) (bs : List Bool), xs = [a] ∧ LsV a (bs.map W.bl) Cs ∧ Q (.bl (bs.all id)) Cs
theorem lk_all : LkL K (rAll K) qAll := fun xs vs H Cs Q Q' ⟨a, ns, e, hl, q⟩ rc rx k => by
  subst e
  obtain ⟨v, rfl, r⟩ := one_rep rx
  obtain ⟨a, ys, rfl, h1, h2⟩ := hl.get rc r
  obtain rfl := reps_bls.mp h2
  exact ⟨a, ns, rfl, .inl h1, k.here q rc (rep_bl.mpr rfl)⟩

/-! ### isinstance with one built-in class -/
def tyW (Cs : Cells) : W → String → Prop
  | .non, t => t = "NoneType"
  | .bl _, t => t = "bool"
  | .int _, t => t = "int"
  | .str _, t => t = "str"
  | .tup _, t => t = "tuple"
  | .ref a, t => (t = "list" ∧ ∃ ws, LsAt a ws Cs) ∨ (t = "dict" ∧ ∃ kvs, (a, MO.dic kvs) ∈ Cs)
  | .cst _ _, t => t = "list"
  | .ls _, t => t = "list"
  | .exn _ _ _, _ => False
  | .ty _, _ => False
theorem tyW_ok (R : RelC K H Cs) {w : W} {v : V} {t : String} (h : tyW Cs w t) (r : rep K H w v) : TyX K H v (.type t) := by
  cases w with
  | non => obtain rfl := rep_non.mp r; obtain rfl := (show t = _ from h); exact .base .non
  | bl b => obtain rfl := rep_bl.mp r; obtain rfl := (show t = _ from h); exact .base (.bl b)
  | int b => obtain rfl := rep_int.mp r; obtain rfl := (show t = _ from h); exact .base (.int b)
  | str b => obtain rfl := rep_str.mp r; obtain rfl := (show t = _ from h); exact .base (.str b)
  | tup ws =>
    obtain rfl := (show t = _ from h)
    obtain ⟨p, xs, rfl, h1, _⟩ := rep_tup.mp r
    rcases h1 with (h1 | ⟨o, h1⟩) | ⟨o, its, n, h1, h2, _⟩
    · exact .base (.tup h1)
    · exact .fTuple h1
    · exact .kTuple h1 h2
  | ref a =>
    obtain rfl := rep_ref.mp r
    rcases h with ⟨rfl, ws, h⟩ | ⟨rfl, kvs, h⟩
    · obtain ⟨xs, e, _⟩ := R.mem h
      exact .base (.lst e)
    · obtain ⟨xs, e, _⟩ := R.mem h
      exact .base (.dK e)
  | cst a ws =>
    obtain rfl := (show t = _ from h)
    obtain ⟨rfl, xs, ⟨h1, h2⟩, _⟩ := rep_cst.mp r
    rcases h1 with (h1 | ⟨o, h1⟩) | ⟨o, its, n, h1, h2, _⟩
    · exact .base (.lst h1)
    · exact .base (.frz h1)
    · exact .kList h1 h2
  | ls ws =>
    obtain rfl := (show t = _ from h)
    obtain ⟨a, o, xs, rfl, h1, _⟩ := rep_ls.mp r
    exact .base (.frz h1)
  | ty n => exact h.elim
  | exn a C w => exact h.elim
def qIsi : RWL := fun xs Cs Q => ∃ x c t b, xs = [x, .ty c] ∧ tyW Cs x t ∧ kitB t c = some b ∧ Q (.bl b) Cs
theorem lk_isi : LkL K (rIsi K) qIsi := fun xs vs H Cs Q Q' ⟨x, c, t, b, e, h1, h2, q⟩ rc rx k => by
  subst e
  obtain ⟨v, u, rfl, r1, r2⟩ := two_rep rx
  obtain rfl := rep_ty.mp r2
  exact ⟨v, .ty c, .type t, .type c, b, rfl, .ty c, tyW_ok rc h1 r1, kit_ty h2, k.here q rc (rep_bl.mpr rfl)⟩

/-! ### slices -/
def cutW {α : Type} (ws : List α) (lo hi : Option Int) : List α := (ws.drop (HT.sIx ws.length 0 lo)).take (HT.sIx ws.length ws.length hi - HT.sIx ws.length 0 lo)
theorem reps_cut {ws : List W} {xs : List V} (r : reps K H ws xs) (lo hi : Option Int) : reps K H (cutW ws lo hi) (cutV xs lo hi) := by
  unfold cutW cutV
  rw [reps_len r]
  exact reps_take _ (reps_drop _ r)
abbrev MO2 := XW → Rho → Cells → (Option Int → Cells → Prop) → Prop
def oNone : MO2 := fun _ _ Cs Q => Q none Cs
def oSome (t : ME) : MO2 := fun E ρ Cs Q => t E ρ Cs fun w C => ∃ i, w = .int i ∧ Q (some i) C
def liftO (X : Cx) (Wx : WX) (t : MO2) : TO := fun σ H Q' => ∃ (ρ : Rho) (Cs : Cells) (E : XW) (Q : Option Int → Cells → Prop), RelS X.K X.N.length H σ ρ ∧ RelC X.K H Cs ∧ t E ρ Cs Q ∧
  (∀ o Cs' H', Q o Cs' → Tr X.K H H' → RelC X.K H' Cs' → Q' o H') ∧ LnkX X.K X.N.length Wx σ H E
def QO (X : Cx) (e : Option Expr) (t : MO2) : Prop := ∀ Wx, Takes X Wx → PO X e (liftO X Wx t)
theorem po_imp {e : Option Expr} {t t' : TO} (h : PO X e t) (k : ∀ σ H Q, t' σ H Q → t σ H Q) : PO X e t' := ⟨fun pins s σ H Q I q => h.run pins s σ H Q I (k σ H Q q)⟩
theorem qo_none : QO X none oNone := fun Wx _ => po_imp po_none fun σ H Q' ⟨ρ, Cs, E, Q, R, C, h, kQ, kE⟩ => kQ none Cs H h (Tr.refl H) C
theorem qo_some {e : Expr} {t : ME} (h : QE X e t) : QO X (some e) (oSome t) := fun Wx tk => po_imp (po_some (h Wx tk)) fun σ H Q' ⟨ρ, Cs, E, Q, R, C, h, kQ, kE⟩ => ⟨ρ, Cs, E, _, R, C, h, fun w C1 v H1 ⟨i, e, q⟩ tr rc rp => by
  subst e
  exact ⟨i, rep_int.mp rp, kQ (some i) C1 H1 q tr rc⟩, kE⟩
abbrev RWS := W → Option Int → Option Int → Cells → WK → Prop
def LkS (K : PySem.W.Frag) (r : V → Option Int → Option Int → Hp → VK → Prop) (q : RWS) : Prop := ∀ x vx lo hi H Cs Q Q', q x lo hi Cs Q → RelC K H Cs → rep K H x vx → Fin K H Q Q' → r vx lo hi H Q'
def mSl (q : RWS) (t : ME) (lo hi : MO2) : ME := fun E ρ Cs Q => t E ρ Cs fun x C1 => lo E ρ C1 fun l C2 => hi E ρ C2 fun u C3 => q x l u C3 Q
theorem qe_slice {e : Expr} {lo hi : Option Expr} {t : ME} {tl th : MO2} {p2 pos : Pos} {r : V → Option Int → Option Int → Hp → VK → Prop} {q : RWS} (hr : SlR X r) (lk : LkS X.K r q) (he : QE X e t) (hl : QO X lo tl) (hu : QO X hi th) : QE X (.Subscript e (.Slice lo hi none p2) pos) (mSl q t tl th) := fun Wx tk =>
  pe_imp (pe_slice hr (he Wx tk) (hl Wx tk) (hu Wx tk)) fun σ H Q' ⟨ρ, Cs, E, Q, R, C, h, kQ, kE⟩ => ⟨ρ, Cs, E, _, R, C, h, fun x C1 vx H1 q1 tr1 rc1 rx => ⟨ρ, C1, E, _, R.mono tr1, rc1, q1, fun l C2 H2 q2 tr2 rc2 => ⟨ρ, C2, E, _, R.mono (tr1.trans tr2), rc2, q2, fun u C3 H3 q3 tr3 rc3 =>
    lk x vx l u H3 C3 Q Q' q3 rc3 (rep_mono (tr2.trans tr3) _ _ rx) (Fin.mono kQ ((tr1.trans tr2).trans tr3)), kE.mono (tr1.trans tr2)⟩, kE.mono tr1⟩, kE⟩
def qSlL : RWS := fun x lo hi Cs Q => ∃ a ws, x = .ref a ∧ LsAt a ws Cs ∧ ∀ p, Q (.ref p) ((p, .lst (cutW ws lo hi)) :: Cs)
theorem lk_slL : LkS K (rSlL K) qSlL := fun x vx lo hi H Cs Q Q' ⟨a, ws, e, hl, q⟩ rc rx k => by
  subst e
  obtain ⟨xs, h1, h2⟩ := hl.get rc
  exact ⟨a, xs, rep_ref.mp rx, h1, fun p hp => k _ _ _ _ (q p) (tr_new hp) (rc.new hp ⟨_, upd_same, reps_mono (tr_new hp) _ _ (reps_cut h2 lo hi)⟩) (rep_ref.mpr rfl)⟩
def qSlS : RWS := fun x lo hi Cs Q => ∃ z, x = .str z ∧ z.length ≤ sizeLine ∧ Q (.str (cutS z lo hi)) Cs

/-! ### methods of built-in types -/
abbrev RWM := W → List W → Cells → WK → Prop
def LkM (K : PySem.W.Frag) (r : V → List V → Hp → VK → Prop) (q : RWM) : Prop := ∀ x xs vx vs H Cs Q Q', q x xs Cs Q → RelC K H Cs → rep K H x vx → reps K H xs vs → Fin K H Q Q' → r vx vs H Q'
def mtyW (T : String) (w : W) (Cs : Cells) : Prop := (∃ z, w = .str z ∧ T = "str") ∨ (∃ a ws, w = .ref a ∧ T = "list" ∧ LsAt a ws Cs) ∨ (∃ a kvs, w = .ref a ∧ T = "dict" ∧ (a, MO.dic kvs) ∈ Cs) ∨ ∃ ws, w = .ls ws ∧ T = "list"
theorem mtyW_ok (R : RelC K H Cs) {T : String} {w : W} {v : V} (h : mtyW T w Cs) (r : rep K H w v) : tyV K T v H := by
  rcases h with ⟨z, rfl, rfl⟩ | ⟨a, ws, rfl, rfl, hl⟩ | ⟨a, kvs, rfl, rfl, hl⟩ | ⟨ws, rfl, rfl⟩
  · obtain rfl := rep_str.mp r; exact rfl
  · obtain rfl := rep_ref.mp r
    obtain ⟨xs, h1, _⟩ := hl.get R
    exact .inl ⟨rfl, xs, h1⟩
  · obtain rfl := rep_ref.mp r
    obtain ⟨xs, h1, _⟩ := R.mem hl
    exact .inr (.inr (.inl ⟨rfl, .inl ⟨xs, h1⟩⟩))
  · obtain ⟨a, o, xs, rfl, h1, _⟩ := rep_ls.mp r
    exact .inl ⟨rfl, xs, .inl (.inr ⟨o, h1⟩)⟩
def mBM (T : String) (q : RWM) (to : ME) (t : MA) : ME := fun E ρ Cs Q => to E ρ Cs fun x C1 => mtyW T x C1 ∧ t E ρ C1 fun xs C2 => q x xs C2 Q
def mBM0 (T : String) (q : RWM) (to : ME) : ME := fun E ρ Cs Q => to E ρ Cs fun x C1 => mtyW T x C1 ∧ q x [] C1 Q
theorem qe_bm {o e : Expr} {es : List Expr} {to : ME} {t : MA} {name : Str} {apos cpos : Pos} {T id : String} {r : V → List V → Hp → VK → Prop} {q : RWM} (pa : PlainAttrs T) (slot : Slot T name id) (hty : typeOf (.builtin id) = pure (.type "method_descriptor")) (hm : MtR X id r) (lk : LkM X.K r q) (ho : QE X o to) (ha : QA X (e :: es) t)
    (hbase : attributeBase o name X.env (eval o X.env) = eval o X.env := by rfl)
    (hfew : ((backTo cpos (starEach (e :: es) X.env)).all (fun x => !x.1) && (backToKw cpos (keywordEach [] X.env)).all (fun x => x.1.isSome)
      && decide ((e :: es).length + ([] : List Keyword).length + (if ([] : List Keyword).isEmpty then 0 else 1) < 30)) = true := by rfl)
    (hline : (apos.endLine == cpos.line) = true := by rfl) (hs : starEach (e :: es) X.env = (false, eval e X.env) :: starEach es X.env := by rfl) (hplain : (backTo cpos (starEach es X.env)).any (·.1) = false := by rfl) :
    QE X (.Call (.Attribute o name apos) (e :: es) [] cpos) (mBM T q to t) := fun Wx tk => pe_imp (pe_bm pa slot hty hm (ho Wx tk) (ha Wx tk) hbase hfew hline hs hplain) fun σ H Q' ⟨ρ, Cs, E, Q, R, C, h, kQ, kE⟩ =>
  ⟨ρ, Cs, E, _, R, C, h, fun x C1 vx H1 ⟨ty, q1⟩ tr1 rc1 rx => ⟨mtyW_ok rc1 ty rx, ρ, C1, E, _, R.mono tr1, rc1, q1, fun xs C2 vs H2 q2 tr2 rc2 rxs => lk x xs vx vs H2 C2 Q Q' q2 rc2 (rep_mono tr2 _ _ rx) rxs (Fin.mono kQ (tr1.trans tr2)), kE.mono tr1⟩, kE⟩
theorem qe_bm0 {o : Expr} {to : ME} {name : Str} {apos cpos : Pos} {T id : String} {r : V → List V → Hp → VK → Prop} {q : RWM} (pa : PlainAttrs T) (slot : Slot T name id) (hty : typeOf (.builtin id) = pure (.type "method_descriptor")) (hm : MtR X id r) (lk : LkM X.K r q) (ho : QE X o to)
    (hbase : attributeBase o name X.env (eval o X.env) = eval o X.env := by rfl) (hline : (apos.endLine == cpos.line) = true := by rfl) :
    QE X (.Call (.Attribute o name apos) [] [] cpos) (mBM0 T q to) := fun Wx tk => pe_imp (pe_bm0 pa slot hty hm (ho Wx tk) hbase hline) fun σ H Q' ⟨ρ, Cs, E, Q, R, C, h, kQ, kE⟩ =>
  ⟨ρ, Cs, E, _, R, C, h, fun x C1 vx H1 ⟨ty, q1⟩ tr1 rc1 rx => ⟨mtyW_ok rc1 ty rx, lk x [] vx [] H1 C1 Q Q' q1 rc1 rx (reps_nil.mpr rfl) (Fin.mono kQ tr1)⟩, kE⟩
/-- a list's method that writes it: the list at a, taken out of the world -/
def qMutL (g : List W → List W → Option (W × List W)) : RWM := fun x xs Cs Q => ∃ a ws Ds y us, x = .ref a ∧ Cs.Perm ((a, .lst ws) :: Ds) ∧ g ws xs = some (y, us) ∧ Q y ((a, .lst us) :: Ds)
def gAppend : List W → List W → Option (W × List W)
  | ws, [y] => if ws.length < 100000 then some (.non, ws ++ [y]) else none
  | _, _ => none
theorem lk_append : LkM K rAppend (qMutL gAppend) := fun x xs vx vs H Cs Q Q' ⟨a, ws, Ds, y, us, e, hp, hg, q⟩ rc rx rxs k => by
  subst e
  have rc' := rc.perm hp
  obtain ⟨ys, e1, r1⟩ := rc'.mem List.mem_cons_self
  match xs, rxs, hg with
  | [], _, hg => cases hg
  | _ :: _ :: _, _, hg => cases hg
  | [z], rxs, hg =>
    unfold gAppend at hg
    dsimp only at hg
    by_cases hz : ws.length < 100000
    · rw [if_pos hz] at hg
      injection hg with hg
      injection hg with h1 h2
      subst h1 h2
      obtain ⟨v, rfl, rv⟩ := one_rep rxs
      have trw : Tr K H (upd H a (.lst (ys ++ [v]))) := rc'.tr_write
      exact ⟨a, ys, v, rep_ref.mp rx, rfl, e1, Nat.lt_of_lt_of_le (by rw [← reps_len r1]; exact hz) (by decide), k _ _ _ _ q trw (rc'.write ⟨_, upd_same, reps_mono trw _ _ (reps_app r1 (reps_cc.mpr ⟨rv, reps_nil.mpr rfl⟩))⟩) (rep_non.mpr rfl)⟩
    · rw [if_neg hz] at hg
      cases hg
theorem reps_dropLast : ∀ {ws : List W} {xs : List V}, reps K H ws xs → reps K H ws.dropLast xs.dropLast
  | [], xs, h => by rw [reps_nil.mp h]; exact reps_nil.mpr rfl
  | [w], xs, h => by
    obtain ⟨v, rfl, _⟩ := one_rep h
    exact reps_nil.mpr rfl
  | w :: u :: ws, xs, h => by
    obtain ⟨v, r, rfl, h1, h2⟩ := reps_cons.mp h
    obtain ⟨v', r', rfl, h3, h4⟩ := reps_cons.mp h2
    rw [List.dropLast_cons_cons, List.dropLast_cons_cons]
    exact reps_cc.mpr ⟨h1, reps_dropLast (reps_cc.mpr ⟨h3, h4⟩)⟩
theorem reps_eraseIdx : ∀ {ws : List W} {xs : List V} (i : Nat), reps K H ws xs → reps K H (ws.eraseIdx i) (xs.eraseIdx i)
  | [], xs, i, h => by rw [reps_nil.mp h]; exact reps_nil.mpr rfl
  | w :: ws, xs, 0, h => by
    obtain ⟨v, r, rfl, h1, h2⟩ := reps_cons.mp h
    exact h2
  | w :: ws, xs, i + 1, h => by
    obtain ⟨v, r, rfl, h1, h2⟩ := reps_cons.mp h
    exact reps_cc.mpr ⟨h1, reps_eraseIdx i h2⟩
/-- xs.pop(0) -/
def gPop0 : List W → List W → Option (W × List W)
  | w :: ws, [.int 0] => some (w, ws)
  | _, _ => none
theorem lk_pop0 : LkM K rPopAt (qMutL gPop0) := fun x xs vx vs H Cs Q Q' ⟨a, ws, Ds, y, us, e, hp, hg, q⟩ rc rx rxs k => by
  subst e
  have rc' := rc.perm hp
  obtain ⟨ys, e1, r1⟩ := rc'.mem List.mem_cons_self
  unfold gPop0 at hg
  split at hg
  · injection hg with hg
    injection hg with h1 h2
    subst h1 h2
    obtain ⟨v, rfl, rv⟩ := one_rep rxs
    obtain rfl := rep_int.mp rv
    obtain ⟨u, r, rfl, r2, r3⟩ := reps_cons.mp r1
    have trw : Tr K H (upd H a (.lst ((u :: r).eraseIdx 0))) := rc'.tr_write
    refine ⟨a, u :: r, 0, 0, u, rep_ref.mp rx, rfl, e1, by decide, by decide, ?_, rfl, k _ _ _ _ q trw (rc'.write ⟨_, upd_same, reps_mono trw _ _ r3⟩) (rep_mono trw _ _ r2)⟩
    simp [seqIndex?]
  · cases hg
/-- xs.pop() -/
def gPop : List W → List W → Option (W × List W)
  | ws, [] => ws.getLast?.map fun y => (y, ws.dropLast)
  | _, _ => none
theorem lk_pop : LkM K rPop (qMutL gPop) := fun x xs vx vs H Cs Q Q' ⟨a, ws, Ds, y, us, e, hp, hg, q⟩ rc rx rxs k => by
  subst e
  have rc' := rc.perm hp
  obtain ⟨ys, e1, r1⟩ := rc'.mem List.mem_cons_self
  match xs, rxs, hg with
  | _ :: _, _, hg => cases hg
  | [], rxs, hg =>
    unfold gPop at hg
    dsimp only at hg
    cases hy : ws.getLast? with
    | none => rw [hy] at hg; cases hg
    | some w =>
      rw [hy] at hg
      injection hg with hg
      injection hg with h1 h2
      subst h1 h2
      obtain rfl := reps_nil.mp rxs
      rw [List.getLast?_eq_getElem?] at hy
      obtain ⟨u, hu, ru⟩ := reps_get r1 hy
      have trw : Tr K H (upd H a (.lst ys.dropLast)) := rc'.tr_write
      rw [reps_len r1] at hu
      exact ⟨a, ys, u, rep_ref.mp rx, rfl, e1, hu, k _ _ _ _ q trw (rc'.write ⟨_, upd_same, reps_mono trw _ _ (reps_dropLast r1)⟩) (rep_mono trw _ _ ru)⟩
/-- xs.insert(i, y), 0 ≤ i -/
def gInsert : List W → List W → Option (W × List W)
  | ws, [.int i, y] => if 0 ≤ i ∧ i < 9223372036854775808 ∧ ws.length < 100000 then some (.non, ws.take i.toNat ++ [y] ++ ws.drop i.toNat) else none
  | _, _ => none
theorem lk_insert : LkM K (fun x vs H Q => ∃ (l : Addr) (xs : List V) (i : Int) (y : V), x = .ref l ∧ vs = [.int i, y] ∧ H l = some (.lst xs) ∧ xs.length < sizeLine ∧ 0 ≤ i ∧ i < 2 ^ 63 ∧
    Q .non (upd H l (.lst (xs.take i.toNat ++ [y] ++ xs.drop i.toNat)))) (qMutL gInsert) := fun x xs vx vs H Cs Q Q' ⟨a, ws, Ds, y, us, e, hp, hg, q⟩ rc rx rxs k => by
  subst e
  have rc' := rc.perm hp
  obtain ⟨ys, e1, r1⟩ := rc'.mem List.mem_cons_self
  match xs, rxs, hg with
  | [], _, hg => cases hg
  | [_], _, hg => simp [gInsert] at hg
  | _ :: _ :: _ :: _, _, hg => simp [gInsert] at hg
  | [.non, _], _, hg => cases hg
  | [.bl _, _], _, hg => cases hg
  | [.str _, _], _, hg => cases hg
  | [.ref _, _], _, hg => cases hg
  | [.ty _, _], _, hg => cases hg
  | [.cst _ _, _], _, hg => cases hg
  | [.ls _, _], _, hg => cases hg
  | [.exn _ _ _, _], _, hg => cases hg
  | [.tup _, _], _, hg => cases hg
  | [.int i, z], rxs, hg =>
    unfold gInsert at hg
    dsimp only at hg
    by_cases hz : 0 ≤ i ∧ i < 9223372036854775808 ∧ ws.length < 100000
    · rw [if_pos hz] at hg
      injection hg with hg
      injection hg with h1 h2
      subst h1 h2
      obtain ⟨v, u, rfl, rv, ru⟩ := two_rep rxs
      obtain rfl := rep_int.mp rv
      have trw : Tr K H (upd H a (.lst (ys.take i.toNat ++ [u] ++ ys.drop i.toNat))) := rc'.tr_write
      exact ⟨a, ys, i, u, rep_ref.mp rx, rfl, e1, Nat.lt_of_lt_of_le (by rw [← reps_len r1]; exact hz.2.2) (by decide), hz.1, hz.2.1, k _ _ _ _ q trw (rc'.write ⟨_, upd_same, reps_mono trw _ _ (reps_app (reps_app (reps_take _ r1) (reps_cc.mpr ⟨ru, reps_nil.mpr rfl⟩)) (reps_drop _ r1))⟩) (rep_non.mpr rfl)⟩
    · rw [if_neg hz] at hg
      cases hg
def gClear : List W → List W → Option (W × List W)
  | _, [] => some (.non, [])
  | _, _ => none
theorem lk_clear : LkM K rClear (qMutL gClear) := fun x xs vx vs H Cs Q Q' ⟨a, ws, Ds, y, us, e, hp, hg, q⟩ rc rx rxs k => by
  subst e
  have rc' := rc.perm hp
  obtain ⟨ys, e1, r1⟩ := rc'.mem List.mem_cons_self
  unfold gClear at hg
  split at hg
  · injection hg with hg
    injection hg with h1 h2
    subst h1 h2
    obtain rfl := reps_nil.mp rxs
    have trw : Tr K H (upd H a (.lst [])) := rc'.tr_write
    exact ⟨a, ys, rep_ref.mp rx, rfl, e1, k _ _ _ _ q trw (rc'.write ⟨_, upd_same, reps_nil.mpr rfl⟩) (rep_non.mpr rfl)⟩
  · cases hg
/-- xs.extend(ys) -/
def qExtend : RWM := fun x xs Cs Q => ∃ a b ws us Ds, x = .ref a ∧ xs = [.ref b] ∧ Cs.Perm ((a, .lst ws) :: Ds) ∧ (b, MO.lst us) ∈ Cs ∧ ws.length + us.length ≤ 100000 ∧ Q .non ((a, .lst (ws ++ us)) :: Ds)
theorem lk_extend : LkM K rExtend qExtend := fun x xs vx vs H Cs Q Q' ⟨a, b, ws, us, Ds, e, e2, hp, hb, hz, q⟩ rc rx rxs k => by
  subst e e2
  obtain ⟨zs, f1, r2⟩ := rc.mem hb
  have rc' := rc.perm hp
  obtain ⟨ys, e1, r1⟩ := rc'.mem List.mem_cons_self
  obtain ⟨v, rfl, rv⟩ := one_rep rxs
  obtain rfl := rep_ref.mp rv
  have trw : Tr K H (upd H a (.lst (ys ++ zs))) := rc'.tr_write
  exact ⟨a, b, ys, zs, rep_ref.mp rx, rfl, e1, f1, Nat.le_trans (by rw [← reps_len r1, ← reps_len r2]; exact hz) (by decide), k _ _ _ _ q trw (rc'.write ⟨_, upd_same, reps_mono trw _ _ (reps_app r1 r2)⟩) (rep_non.mpr rfl)⟩
/-- sep.join(xs), xs a list of texts -/
def qJoin : RWM := fun x xs Cs Q => ∃ (a : Str) (p : W) (ys : List Str), x = .str a ∧ xs = [p] ∧ LsV p (ys.map W.str) Cs ∧ (ys.map (·.length)).sum + ys.length * a.length ≤ 16777216 ∧ Q (.str (Txt.join a ys)) Cs
theorem lk_join : LkM K (fun x xs H Q => ∃ a p, ∃ ys : List Str, x = .str a ∧ xs = [.ref p] ∧ (SqL K H p (ys.map V.str) ∨ SqT K H p (ys.map V.str)) ∧
    (ys.map (·.length)).sum + ys.length * a.length ≤ 16777216 ∧ Q (.str (Txt.join a ys)) H) qJoin := fun x xs vx vs H Cs Q Q' ⟨a, p, ys, e, e2, hl, hz, q⟩ rc rx rxs k => by
  subst e e2
  obtain ⟨v, rfl, rv⟩ := one_rep rxs
  obtain ⟨p, zs, rfl, h1, h2⟩ := hl.get rc rv
  obtain rfl := reps_strs.mp h2
  exact ⟨a, p, ys, rep_str.mp rx, rfl, .inl (.inl h1), hz, k.here q rc (rep_str.mpr rfl)⟩
end
end SL
namespace SL
open PySem PySem.Spec PyProof.Rows L2
theorem lk_slS {K : PySem.W.Frag} : LkS K rSlS qSlS := fun x vx lo hi H Cs Q Q' ⟨z, e, hz, q⟩ rc rx k => by
  subst e
  exact ⟨z, rep_str.mp rx, hz, k.here q rc (rep_str.mpr rfl)⟩
end SL
namespace SL
open PySem PySem.Spec PyProof.Rows L2

/-! ### a, *b = t, t a tuple -/
section
variable {prog : Program} {w : World} {A : Around} {E : Value → Shared → Prop} {s : Shared} {env : Env}
theorem star_items {l : Addr} {x : Value} {r : List Value} {items : Array Value} {Q : List Value → Shared → Prop} (hl : IsTup s.heap l items) (hh : A.handled = none) (he : items.toList = x :: r) (hz : items.size ≤ 16384)
    (h : ∀ D h' tk, s.heap.get? D = none → (∀ b o, s.heap.get? b = some o → h'.get? b = some o) → h'.get? D = some { cls := .type "list", data := .seq r.toArray } → Q [x, .ref D] { s with heap := h', toks := tk }) :
    wpAny (model prog w) A (unpackItems (.ref l) 2 (some 1)) Q E s := by
  have hlt : l ≠ s.heap.objs.size := by obtain ⟨o, ho, _⟩ := hl; exact Nat.ne_of_lt (Heap.lt_size ho)
  have hsz : items.size = r.length + 1 := by rw [← Array.length_toList, he]; rfl
  unfold unpackItems notIterableAtAll
  refine wpAny_bind (wpAny_bind (wpAny_specialOf hl.typeIs slot_tuple_iter.lookup (wpAny_pure ?_)))
  refine wpAny_bind (wpAny_holding (iter_tuple hl ?_))
  refine wpAny_bind (wpAny_holding (draw_tuple hlt 1 0 _ _ ⟨_, Heap.get?_push_size _ rfl, rfl, rfl⟩ (hl.push _) (by omega) fun h1 it1 sb1 => ?_))
  have hl1 : IsTup h1 l items := (hl.push _).extBut sb1.extBut hlt
  obtain ⟨oi, hoi, _⟩ := id it1
  obtain ⟨ol, hol, _⟩ := id hl1
  have e1 : (items.toList.drop 0).take 1 = [x] := by rw [he]; rfl
  rw [e1]
  show wpAny _ _ (holding [x] (collect (.ref s.heap.objs.size)) >>= fun rest => _) _ _ _
  refine wpAny_bind (wpAny_holding (PySem.W.kun_collect (s := { s with heap := h1 }) (T := "tuple_iterator") (.inr (.inr (.inr rfl))) (Walks.tuple (A := A.in1) hh s.heap.objs.size l hlt items) (fun j u st => st.1.typeIs) (k := 1) (by omega) ⟨it1, hl1⟩ (Heap.lt_size hoi) (Heap.lt_size hol) (fun h2 tk hk => ?_) (by rw [sizeLine_eq]; omega)))
  have e2 : items.toList.drop 1 = r := by rw [he]; rfl
  rw [e2]
  have e3 : r.length - (2 - 1 - 1) = r.length := by omega
  show wpAny _ _ (newList (r.take (r.length - (2 - 1 - 1))) >>= fun d => pure ([x] ++ [d] ++ r.drop (r.length - (2 - 1 - 1)))) _ _ _
  rw [e3, List.take_length, List.drop_length]
  have old : ∀ b o, s.heap.get? b = some o → h2.get? b = some o := fun b o e => by
    have hb : b ≠ s.heap.objs.size := Nat.ne_of_lt (Heap.lt_size e)
    exact hk b o hb ((sb1.2 b hb).trans (Heap.get?_push_of_some _ e))
  refine wpAny_bind (wpAny_newObj_type ?_ (by show r.toArray.size ≤ sizeLine; rw [List.size_toArray, sizeLine_eq]; omega))
  refine wpAny_pure (h _ _ _ ?_ (fun b o e => Heap.get?_push_of_some _ (old b o e)) (Heap.get?_push_size _ rfl))
  cases q : s.heap.get? h2.objs.size with
  | none => rfl
  | some o => exact absurd (Heap.lt_size (old _ _ q)) (Nat.lt_irrefl _)
end
section
variable {X : Cx} {pins : List (Addr × Obj)} {σ : L2.St} {H : Hp} {s : Shared} {h' : Heap} {a : Addr} {o : HO}
theorem HOk_none {P : Program} {w : World} {H : Hp} {h : Heap} {a : Addr} (x : HOk P w H h) (hn : h.get? a = none) : H a = none := by
  cases q : H a with
  | none => rfl
  | some u =>
    have h1 : ∃ ob, h.get? a = some ob := by
      have ok := x a u q
      clear q
      induction u with
      | lst xs => obtain ⟨_, _, _, _, e⟩ := ok; exact ⟨_, e⟩
      | tup xs => obtain ⟨_, _, _, ob, e, _⟩ := ok; exact ⟨_, e⟩
      | dK kvs => obtain ⟨_, _, _, _, ob, _, _, e, _⟩ := ok; exact ⟨_, e⟩
      | dT kvs => obtain ⟨_, _, _, _, ob, _, _, e, _⟩ := ok; exact ⟨_, e⟩
      | set S n => obtain ⟨ob, _, _, _, e, _⟩ := ok; exact ⟨_, e⟩
      | ins C dx fs => obtain ⟨_, _, _, e, _⟩ := ok; exact ⟨_, e⟩
      | own y => exact ok
      | xd fs => obtain ⟨_, ⟨_, _, _, e, _⟩, _⟩ := ok; exact ⟨_, e⟩
      | rng lo hi => obtain ⟨_, _, _, e⟩ := ok; exact ⟨_, e⟩
      | frz ob u ih => obtain ⟨e, _⟩ := ok; exact ⟨_, e⟩
      | tbl ps => exact ⟨_, ok⟩
      | met f y => exact ⟨_, ok⟩
      | ext φ => obtain ⟨_, ⟨ob, e⟩, _⟩ := ok; exact ⟨_, e⟩
    obtain ⟨ob, e⟩ := h1
    rw [hn] at e
    cases e
/-- a new object laid and tracked, wherever it stands -/
theorem inv_laid {t' : Nat} (I : Inv X pins σ H s) (k : ∀ b u, s.heap.get? b = some u → h'.get? b = some u) (hn : s.heap.get? a = none) (new : ObjOk X.prog X.w (upd H a o) h' a o) :
    Inv X pins σ (upd H a o) { s with heap := h', toks := t' } := by
  have nH := HOk_none I.hok hn
  have ne : ∀ {b u}, s.heap.get? b = some u → b ≠ a := fun {b u} e z => by
    rw [z, hn] at e
    cases e
  refine I.un ⟨fun b u q _ _ _ => k b u q, fun b u q _ _ _ => ⟨u.slots, k b u q⟩, fun b u q n _ => by rw [upd_ne (ne q)]; exact n, fun b u q _ => ⟨u, k b u q⟩, fun b xs q => by rw [upd_ne (ne_of_none q nH)]; exact q,
    fun b u xs q => by rw [upd_ne (ne_of_none q nH)]; exact q, fun b ps q => ⟨#[], by rw [upd_ne (ne_of_none q nH), q]; simp⟩⟩ fun b u e => ?_
  by_cases hb : b = a
  · subst hb
    rw [upd_same] at e
    cases e
    exact new
  · rw [upd_ne hb] at e
    exact (I.hok b u e).stay (fun c v _ q => k c v q) (fun c q => by rw [upd_ne (ne_of_none q nH)]; exact q) fun c xs q => by rw [upd_ne (ne_of_none q nH)]; exact q
/-- (a, *b) = a tuple of one or more -/
def gTupStar (K : PySem.W.Frag) (t : TGs) : TG := fun v σ H Q => ∃ a x r, v = .ref a ∧ SqT K H a (x :: r) ∧ r.length ≤ 1000 ∧ ∀ D, H D = none → t [x, .ref D] σ (upd H D (.lst r)) Q
theorem pg_tupStar {es : List Expr} {k : Nat} {t : TGs} {pos : Pos} (hc : X.calm = true) (h : PGs X es t)
    (hn : (assignEach es X.env).length = 2 := by rfl) (hst : (assignEach es X.env).findIdx? (·.1) = some 1 := by rfl) : PG X (.Tuple es k pos) (gTupStar X.K t) := by
  refine ⟨fun pins s σ H v u Q I r hw => ?_⟩
  obtain ⟨a, x, rest, e1, hq, hl, hw⟩ := hw
  subst e1
  cases r
  obtain ⟨its, rv, ht, hz⟩ := I.tuple hq
  cases rv with
  | @cons _ u _ us r1 r2 =>
    have hlen := r2.length
    rw [assign_Tuple]
    refine wpAny_bind (wpAny_standAt ?_)
    unfold unpack
    rw [hn, hst]
    refine wpAny_bind (wpAny_holding (star_items ht (I.ok.hd hc) (x := u) (r := us) (by simp) (by simp only [List.size_toArray, List.length_cons]; omega) fun D h' tk hD old hob => ?_))
    have I1 : Inv X pins σ (upd H D (.lst rest)) { s with heap := h', toks := tk } := inv_laid I old hD ⟨sz1000 hl, us, 0, r2, hob⟩
    exact h.run pins _ σ _ [x, .ref D] [u, .ref D] Q I1 (.cons r1 (.cons rfl .nil)) (hw D (HOk_none I.hok hD))
end
/-- a name that takes a star's list -/
def gStarW (t : MGs) : MG := fun ρ w Cs Q => ∃ x r, w = .tup (x :: r) ∧ r.length ≤ 1000 ∧ ∀ D, t ρ [x, .ref D] ((D, .lst r) :: Cs) Q
section
variable {X : Cx} {es : List Expr} {pos : Pos}
theorem qg_star {js : List Nat} {k : Nat} {gs : MGs} (hc : X.calm = true) (h : QGs X js es gs) (hn : (assignEach es X.env).length = 2 := by rfl) (hst : (assignEach es X.env).findIdx? (·.1) = some 1 := by rfl) : QG X js (.Tuple es k pos) (gStarW gs) :=
  pg_imp (pg_tupStar hc h hn hst) fun v σ H Q' ⟨ρ, w, Cs, Q, R, C, rp, ⟨x, r, e, hl, h⟩, kQ⟩ => by
    subst e
    obtain ⟨t, xs, rfl, h1, h2⟩ := rep_tup.mp rp
    obtain ⟨vx, vr, rfl, r1, r2⟩ := reps_cons.mp h2
    refine ⟨t, vx, vr, rfl, h1, by rw [← reps_len r2]; exact hl, fun D hD => ?_⟩
    have tr : Tr X.K H (upd H D (.lst vr)) := tr_new hD
    exact ⟨ρ, [x, .ref D], (D, .lst r) :: Cs, Q, R.mono tr, C.new hD ⟨vr, upd_same, reps_mono tr _ _ r2⟩, reps_cc.mpr ⟨rep_mono tr _ _ r1, reps_cc.mpr ⟨rep_ref.mpr rfl, reps_nil.mpr rfl⟩⟩, h D, fun ρ' C' σ' H' q tr2 => kQ ρ' C' σ' H' q (tr.trans tr2)⟩
/-- *b as a target in a row -/
theorem qgs_consStar {js ks : List Nat} {e : Expr} {p : Pos} {g : MG} {gs : MGs} (h1 : QG X js e g) (h2 : QGs X ks es gs) (hs : (assignEach (.Starred e p :: es) X.env).map (·.2) = assign e X.env :: (assignEach es X.env).map (·.2) := by rfl) : QGs X (js ++ ks) (.Starred e p :: es) (gsCons g gs) := by
  have base : PGs X (.Starred e p :: es) (gCons (liftG X js g) (liftGs X ks gs)) := ⟨fun pins s σ H vs us Q I r h => by
    obtain ⟨v, vr, e1, h⟩ := h
    subst e1
    cases r with
    | cons r rr =>
      rw [hs]
      exact assignInOrder_cons (thn (h1.run pins s σ H _ _ _ I r h) fun _ s1 ⟨σ1, H1, I1, q1⟩ => h2.run pins s1 σ1 H1 _ _ Q I1 rr q1)⟩
  exact pgs_imp base fun vs σ H Q' ⟨ρ, ws, Cs, Q, R, C, rp, ⟨w, r, e, h⟩, kQ⟩ => by
    subst e
    obtain ⟨x, xs, rfl, r1, r2⟩ := reps_cons.mp rp
    exact ⟨x, xs, rfl, ρ, w, Cs, _, R, C, r1, h, fun ρ' C' σ' H' q tr R' rc of => ⟨ρ', r, C', Q, R', rc, reps_mono tr _ _ r2, q, fun ρ2 C2 σ2 H2 q2 tr2 R2 rc2 of2 => kQ ρ2 C2 σ2 H2 q2 (tr.trans tr2) R2 rc2 (of.trans of2)⟩⟩
end
end SL
/-! ### match over written texts -/
namespace SL
open PySem PySem.Spec PyProof.Rows L2
def mGo (x : Str) : List (Str × MS) → MS
  | [] => sNext
  | (y, b) :: r => fun D ρ Cs => (x = y → b D ρ Cs) ∧ (x ≠ y → mGo x r D ρ Cs)
def sMatch (t : ME) (cs : List (Str × MS)) : MS := fun D ρ Cs => t (fun C w Cs => D.ex C w ρ Cs) ρ Cs fun w C => ∃ x, w = .str x ∧ mGo x cs D ρ C
section
variable {X : Cx} {body : List Stmt} {rest : List MatchCase} {b : MS} {r : List (Str × MS)}
structure QMs (X : Cx) (cases : List MatchCase) (cs : List (Str × MS)) : Prop where
  run : ∀ (Wx : WX), Takes X Wx → ∀ (pins : List (Addr × Obj)) (s : Shared) (σ : L2.St) (H : Hp) (D : Ends) (x : Str) (v : Value) (first : Bool), Inv X pins σ H s → RelV (.str x) v → liftS X Wx (mGo x cs) D σ H →
    wpAny (model X.prog X.w) X.A (matchCases cases X.env v first) (SP X pins D) X.xe s
theorem qms_nil : QMs X [] [] := ⟨fun Wx tk pins s σ H D x v first I r ⟨ρ, Cs, DW, R, C, h, L⟩ => wpAny_matchCases_nil ⟨σ, H, I, L.nx ρ Cs σ H h (Tr.refl H) R C⟩⟩
theorem qms_cons {y : Str} {j : Nat} {p1 p2 : Pos} (hb : QSs X body b) (hr : QMs X rest r) : QMs X (⟨.MatchValue (.Constant (.str y) j p1) p2, none, body⟩ :: rest) ((y, b) :: r) := ⟨fun Wx tk pins s σ H D x v first I rv ⟨ρ, Cs, DW, R, C, ⟨h1, h2⟩, L⟩ => by
  have rv' : RelV (.str x) v := rv
  obtain ⟨t, rfl⟩ := rv'
  refine wpAny_matchCases_cons (wpAny_matchPattern_Value (Calls.Constant_str ?_))
  refine thn (op_eq pins { s with toks := s.toks + 1 } σ H (.str x) (.str y) _ _ (fun z H' => z = .bl (decide (x = y)) ∧ H' = H) (I.tok _) rv ⟨_, rfl⟩ ⟨rfl, by simp, rfl⟩) fun c s1 hc => ?_
  obtain ⟨z, H', I1, rz, e1, e2⟩ := hc
  subst e1 e2
  cases rz
  refine wpAny_truthy_bool ?_
  by_cases e : x = y
  · rw [decide_eq_true e]
    show wpAny _ _ (assignInOrder [] []) _ _ _
    exact assignInOrder_nil ((hb Wx tk).run pins s1 σ H' D I1 ⟨ρ, Cs, DW, R, C, h1 e, L⟩)
  · rw [decide_eq_false e]
    exact hr.run Wx tk pins s1 σ H' D x _ false I1 rv ⟨ρ, Cs, DW, R, C, h2 e, L⟩⟩
theorem qs_match {subject : Expr} {cases : List MatchCase} {t : ME} {cs : List (Str × MS)} {pos : Pos} (he : QE X subject t) (hc : QMs X cases cs) : QS X (.Match subject cases pos) (sMatch t cs) := fun Wx tk => ⟨fun pins s σ H D I ⟨ρ, Cs, DW, R, C, h, L⟩ => by
  have base := (he Wx tk).run pins s σ H (fun v H1 => ∃ x, v = .str x ∧ liftS X Wx (mGo x cs) D σ H1) I ⟨ρ, Cs, _, _, R, C, h, fun w C1 v H1 ⟨x, e, q⟩ tr rc rp => by
    subst e
    exact ⟨x, rep_str.mp rp, ρ, C1, DW, R.mono tr, rc, q, L.mono tr⟩, L.lnkX R⟩
  refine wpAny_Match (thn base fun v s1 hv => ?_)
  obtain ⟨v', H1, I1, rv, x, e, q⟩ := hv
  subst e
  exact hc.run Wx tk pins s1 σ H1 D x v true I1 rv q⟩
end
/-! ### a dict of the module's top -/
/-- what the written dict at d answers: its texts and numbers by text keys -/
structure DTab (K : PySem.W.Frag) (w : World) (d : Addr) (f : Str → Option W) : Prop where
  lit : ∃ es n, KDict K w d es n
  get : ∀ x y, f x = some y → ∃ u v, PySem.W.nsIn K d x = some (some u) ∧ RelV v u ∧ ∀ H, rep K H y v
  non : ∀ x, f x = none → PySem.W.nsIn K d x = some none
/-- the keys of a written dict -/
def KeysAre : List Str → List DictEntry → Prop
  | [], [] => True
  | k :: ks, e :: es => (∃ t, e.key = .str k t) ∧ KeysAre ks es
  | _, _ => False
theorem keys_miss {K : PySem.W.Frag} {d : Addr} {es : Array DictEntry} {n : Nat} {ks : List Str} {x : Str} (hl : K.lookup d = some { cls := .type "dict", data := .dict es n }) (h : KeysAre ks es.toList) (hx : ¬ x ∈ ks) : PySem.W.nsIn K d x = some none := by
  have key : ∀ (ks : List Str) (l : List DictEntry), KeysAre ks l → ¬ x ∈ ks → l.find? (·.key.isStr x) = none ∧ l.any (·.refKey) = false := by
    intro ks
    induction ks with
    | nil =>
      intro l h _
      cases l with
      | nil => exact ⟨rfl, rfl⟩
      | cons e l => exact h.elim
    | cons k ks ih =>
      intro l h hx
      cases l with
      | nil => exact h.elim
      | cons e l =>
        obtain ⟨⟨t, e1⟩, h2⟩ := h
        obtain ⟨i1, i2⟩ := ih l h2 fun m => hx (List.mem_cons_of_mem _ m)
        have hne : ¬ k = x := fun e => hx (by rw [e]; exact List.mem_cons_self)
        refine ⟨?_, ?_⟩
        · rw [List.find?_cons_of_neg]
          · exact i1
          · rw [e1]
            simp [PySem.Value.isStr, hne]
        · rw [List.any_cons, i2, Bool.or_false]
          simp [PySem.DictEntry.refKey, e1]
  unfold PySem.W.nsIn
  rw [hl]
  obtain ⟨h1, h2⟩ := key ks es.toList h hx
  simp only [h1, h2]
  rfl
def qIxD (d : Addr) (f : Str → Option W) : RW2 := fun x y Cs Q => x = .ref d ∧ ∃ z w, y = .str z ∧ f z = some w ∧ Q w Cs
theorem lk_ixD {K : PySem.W.Frag} {w : World} {d : Addr} {f : Str → Option W} (T : DTab K w d f) : Lk2 K (rIxD K w) (qIxD d f) := fun x y vx vy H Cs Q Q' ⟨e, z, u, e2, hf, q⟩ rc rx ry k => by
  subst e e2
  obtain ⟨es, n, D⟩ := T.lit
  obtain ⟨uv, v, h1, h2, h3⟩ := T.get z u hf
  exact ⟨d, z, v, rep_ref.mp rx, rep_str.mp ry, ⟨es, n, uv, D.at_, D.lit, h1, h2⟩, k.here q rc (h3 H)⟩
end SL
namespace SL
open PySem PySem.Spec PyProof.Rows L2

/-! ### dicts with keys that are ints or texts -/
def kW : Key → W
  | .inl i => .int i
  | .inr x => .str x
section
variable {κ : Type} [DecidableEq κ]
def valW (kvs : List (κ × W)) (k : κ) : Option W := (kvs.find? fun kv => decide (kv.1 = k)).map (·.2)
def putW (kvs : List (κ × W)) (k : κ) (v : W) : List (κ × W) :=
  if (kvs.any fun kv => decide (kv.1 = k)) = true then kvs.map (fun kv => if kv.1 = k then (kv.1, v) else kv) else kvs ++ [(k, v)]
def mergeW (kvs more : List (Key × W)) : List (Key × W) := more.foldl (fun acc kv => putW acc kv.1 kv.2) kvs
variable {K : PySem.W.Frag} {H : Hp}
theorem repKV_nil {κ : Type} {kvs' : List (κ × V)} : repKV K H ([] : List (κ × W)) kvs' ↔ kvs' = [] := by
  constructor
  · rintro ⟨h, _⟩
    exact List.map_eq_nil_iff.mp h.symm
  · rintro rfl
    exact ⟨rfl, reps_nil.mpr rfl⟩
theorem repKV_cons {κ : Type} {k : κ} {w : W} {kvs : List (κ × W)} {kvs' : List (κ × V)} : repKV K H ((k, w) :: kvs) kvs' ↔ ∃ v r, kvs' = (k, v) :: r ∧ rep K H w v ∧ repKV K H kvs r := by
  constructor
  · rintro ⟨h1, h2⟩
    cases kvs' with
    | nil => cases h1
    | cons p r =>
      obtain ⟨k', v⟩ := p
      rw [List.map_cons, List.map_cons] at h1 h2
      injection h1 with h3 h4
      obtain ⟨h5, h6⟩ := reps_cc.mp h2
      have h3' : k = k' := h3
      subst h3'
      exact ⟨v, r, rfl, h5, h4, h6⟩
  · rintro ⟨v, r, rfl, h1, h2, h3⟩
    exact ⟨by rw [List.map_cons, List.map_cons, h2], reps_cc.mpr ⟨h1, h3⟩⟩
theorem val_rel (k : κ) : ∀ {kvs : List (κ × W)} {kvs' : List (κ × V)}, repKV K H kvs kvs' → (∀ w, valW kvs k = some w → ∃ v, valV kvs' k = some v ∧ rep K H w v) ∧ (valW kvs k = none → valV kvs' k = none)
  | [], kvs', h => by
    rw [repKV_nil.mp h]
    exact ⟨fun w e => (by cases e), fun _ => rfl⟩
  | (j, w) :: kvs, kvs', h => by
    obtain ⟨v, r, rfl, h1, h2⟩ := repKV_cons.mp h
    obtain ⟨i1, i2⟩ := val_rel k h2
    unfold valW valV at *
    by_cases e : j = k
    · rw [List.find?_cons_of_pos (by simp [e]), List.find?_cons_of_pos (by simp [e])]
      refine ⟨fun u q => ?_, fun q => by cases q⟩
      injection q with q
      subst q
      exact ⟨v, rfl, h1⟩
    · rw [List.find?_cons_of_neg (by simp [e]), List.find?_cons_of_neg (by simp [e])]
      exact ⟨i1, i2⟩
theorem any_rel (k : κ) {kvs : List (κ × W)} {kvs' : List (κ × V)} (h : repKV K H kvs kvs') : (kvs.any fun kv => decide (kv.1 = k)) = kvs'.any fun kv => decide (kv.1 = k) := by
  have e : (kvs.map (·.1)).any (fun x => decide (x = k)) = (kvs'.map (·.1)).any (fun x => decide (x = k)) := by rw [h.1]
  rw [List.any_map, List.any_map] at e
  exact e
theorem put_rel (k : κ) {w : W} {v : V} (hw : rep K H w v) {kvs : List (κ × W)} {kvs' : List (κ × V)} (h : repKV K H kvs kvs') : repKV K H (putW kvs k w) (putK kvs' k v) := by
  unfold putW putK
  rw [any_rel k h]
  by_cases e : (kvs'.any fun kv => decide (kv.1 = k)) = true
  · rw [if_pos e, if_pos e]
    clear e
    induction kvs generalizing kvs' with
    | nil => rw [repKV_nil.mp h]; exact repKV_nil.mpr rfl
    | cons p kvs ih =>
      obtain ⟨j, u⟩ := p
      obtain ⟨v', r, rfl, h1, h2⟩ := repKV_cons.mp h
      rw [List.map_cons, List.map_cons]
      by_cases e : j = k
      · rw [if_pos (show (j, u).1 = k from e), if_pos (show (j, v').1 = k from e)]
        exact repKV_cons.mpr ⟨v, _, rfl, hw, ih h2⟩
      · rw [if_neg (show ¬ (j, u).1 = k from e), if_neg (show ¬ (j, v').1 = k from e)]
        exact repKV_cons.mpr ⟨v', _, rfl, h1, ih h2⟩
  · rw [if_neg e, if_neg e]
    refine ⟨by rw [List.map_append, List.map_append, h.1]; rfl, ?_⟩
    rw [List.map_append, List.map_append]
    exact reps_app h.2 (reps_cc.mpr ⟨hw, reps_nil.mpr rfl⟩)
theorem merge_rel : ∀ {more : List (Key × W)} {more' : List (Key × V)} {kvs : List (Key × W)} {kvs' : List (Key × V)}, repKV K H more more' → repKV K H kvs kvs' → repKV K H (mergeW kvs more) (mergeK kvs' more')
  | [], more', kvs, kvs', h, g => by rw [repKV_nil.mp h]; exact g
  | (k, w) :: more, more', kvs, kvs', h, g => by
    obtain ⟨v, r, rfl, h1, h2⟩ := repKV_cons.mp h
    show repKV K H (mergeW (putW kvs k w) more) (mergeK (putK kvs' k v) r)
    exact merge_rel h2 (put_rel k h1 g)
theorem kW_rep {k : Key} {v : V} : rep K H (kW k) v ↔ v = kV k := by
  cases k with
  | inl i => exact rep_int
  | inr x => exact rep_str
end
section
variable {X : Cx} {K : PySem.W.Frag} {pos : Pos}
/-- {} -/
def mDNew : ME := fun _ _ Cs Q => ∀ p, Q (.ref p) ((p, .dic []) :: Cs)
theorem qe_dnew : QE X (.Dict [] [] pos) mDNew := fun Wx _ => pe_imp pe_dnewK fun σ H Q' ⟨ρ, Cs, E, Q, R, C, h, kQ, kE⟩ p hp =>
  kQ _ _ _ _ (h p) (tr_new hp) (C.new hp ⟨[], upd_same, repKV_nil.mpr rfl⟩) (rep_ref.mpr rfl)
/-- {k: v, ..} -/
def mPairs : List (ME × ME) → XW → Rho → Cells → (List (W × W) → Cells → Prop) → Prop
  | [], _, _, Cs, Q => Q [] Cs
  | (tk, tv) :: r, E, ρ, Cs, Q => tk E ρ Cs fun x C1 => tv E ρ C1 fun y C2 => mPairs r E ρ C2 fun ps C3 => Q ((x, y) :: ps) C3
def mDisp (trs : List (ME × ME)) : ME := fun E ρ Cs Q => ∀ p, mPairs trs E ρ ((p, .dic []) :: Cs) fun ps C2 => ∃ Ds kvs, C2.Perm ((p, .dic []) :: Ds) ∧ ps = kvs.map (fun kv => (kW kv.1, kv.2)) ∧ kvs.length ≤ 15 ∧ Q (.ref p) ((p, .dic (mergeW [] kvs)) :: Ds)
def liftPs (X : Cx) (Wx : WX) : List (ME × ME) → List (TE × TE)
  | [] => []
  | (a, b) :: r => (liftE X Wx a, liftE X Wx b) :: liftPs X Wx r
structure QPs (X : Cx) (pos : Pos) (keys : List (Option Expr)) (values : List Expr) (trs : List (ME × ME)) : Prop where
  run : ∀ Wx, Takes X Wx → PPs X pos keys values (liftPs X Wx trs)
theorem qps_nil : QPs X pos [] [] [] := ⟨fun _ _ => pps_nil⟩
theorem qps_cons {k v : Expr} {ks : List (Option Expr)} {vs : List Expr} {tk tv : ME} {trs : List (ME × ME)} (hk : QE X k tk) (hv : QE X v tv) (hr : QPs X pos ks vs trs) : QPs X pos (some k :: ks) (v :: vs) ((tk, tv) :: trs) := ⟨fun Wx t => pps_cons (hk Wx t) (hv Wx t) (hr.run Wx t)⟩
theorem lift_ps {Wx : WX} : ∀ {trs : List (ME × ME)} {σ : L2.St} {H : Hp} {ρ : Rho} {Cs : Cells} {E : XW} {Q : List (W × W) → Cells → Prop} {Q' : List (V × V) → Hp → Prop}, RelS X.K X.N.length H σ ρ → RelC X.K H Cs → mPairs trs E ρ Cs Q →
    (∀ ps Cs' ps' H', Q ps Cs' → Tr X.K H H' → RelC X.K H' Cs' → reps X.K H' (ps.map (·.1)) (ps'.map (·.1)) → reps X.K H' (ps.map (·.2)) (ps'.map (·.2)) → Q' ps' H') → LnkX X.K X.N.length Wx σ H E → tPairs (liftPs X Wx trs) σ H Q'
  | [], σ, H, ρ, Cs, E, Q, Q', R, C, h, k, kE => k [] Cs [] H h (Tr.refl H) C (reps_nil.mpr rfl) (reps_nil.mpr rfl)
  | (a, b) :: r, σ, H, ρ, Cs, E, Q, Q', R, C, h, k, kE => ⟨ρ, Cs, E, _, R, C, h, fun x C1 vx H1 q1 tr1 rc1 rx => ⟨ρ, C1, E, _, R.mono tr1, rc1, q1, fun y C2 vy H2 q2 tr2 rc2 ry =>
      lift_ps (R.mono (tr1.trans tr2)) rc2 q2 (fun ps C3 ps' H3 q3 tr3 rc3 r1 r2 => k ((x, y) :: ps) C3 ((vx, vy) :: ps') H3 q3 ((tr1.trans tr2).trans tr3) rc3 (reps_cc.mpr ⟨rep_mono (tr2.trans tr3) _ _ rx, r1⟩) (reps_cc.mpr ⟨rep_mono tr3 _ _ ry, r2⟩)) (kE.mono (tr1.trans tr2)), kE.mono tr1⟩, kE⟩
theorem keys_of {H : Hp} : ∀ {kvs : List (Key × W)} {ps' : List (V × V)}, reps K H ((kvs.map fun kv => (kW kv.1, kv.2)).map (·.1)) (ps'.map (·.1)) → reps K H ((kvs.map fun kv => (kW kv.1, kv.2)).map (·.2)) (ps'.map (·.2)) →
    ∃ kvs' : List (Key × V), ps' = kvs'.map (fun kv => (kV kv.1, kv.2)) ∧ repKV K H kvs kvs'
  | [], ps', h1, h2 => by
    have e := reps_nil.mp h1
    rw [List.map_eq_nil_iff] at e
    subst e
    exact ⟨[], rfl, repKV_nil.mpr rfl⟩
  | (k, w) :: kvs, ps', h1, h2 => by
    cases ps' with
    | nil =>
      obtain ⟨_, _, e, _⟩ := reps_cons.mp h1
      cases e
    | cons p ps' =>
      obtain ⟨x, v⟩ := p
      obtain ⟨a1, a2⟩ := reps_cc.mp h1
      obtain ⟨b1, b2⟩ := reps_cc.mp h2
      obtain ⟨kvs', e, hr⟩ := keys_of a2 b2
      have hx : x = kV k := kW_rep.mp a1
      exact ⟨(k, v) :: kvs', by rw [e, hx]; rfl, repKV_cons.mpr ⟨v, kvs', rfl, b1, hr⟩⟩
theorem qe_disp {keys : List (Option Expr)} {values : List Expr} {trs : List (ME × ME)} (h : QPs X pos keys values trs) (hall : keys.all (·.isSome) = true := by rfl) (hl : keys.length = values.length := by rfl) (h0 : keys ≠ [] := by intro z; cases z)
    (h15 : keys.length ≤ 15 := by decide) : QE X (.Dict keys values pos) (mDisp trs) := fun Wx tk => pe_imp (pe_disp (h.run Wx tk) hall hl h0 h15) fun σ H Q' ⟨ρ, Cs, E, Q, R, C, h, kQ, kE⟩ p hp => by
  have tr0 : Tr X.K H (upd H p (.dK [])) := tr_new hp
  refine lift_ps (R.mono tr0) (C.new (o := .dic []) hp ⟨[], upd_same, repKV_nil.mpr rfl⟩) (h p) (fun ps C2 ps' H2 q tr2 rc2 r1 r2 => ?_) (kE.mono tr0)
  obtain ⟨Ds, kvs, hpm, e, h15', q⟩ := q
  subst e
  have rc3 := rc2.perm hpm
  obtain ⟨kv0, e1, e2⟩ := rc3.mem List.mem_cons_self
  obtain rfl := repKV_nil.mp e2
  obtain ⟨kvs', e3, hr⟩ := keys_of r1 r2
  have trw : Tr X.K H2 (upd H2 p (.dK (mergeK [] kvs'))) := rc3.tr_write
  refine ⟨e1, kvs', e3, ?_, kQ _ _ _ _ q ((tr0.trans tr2).trans trw) (rc3.write ⟨_, upd_same, repKV_mono trw (merge_rel hr (repKV_nil.mpr rfl))⟩) (rep_ref.mpr rfl)⟩
  have := congrArg List.length hr.1
  rw [List.length_map, List.length_map] at this
  omega
/-- d[k] -/
def qDGet : RW2 := fun x y Cs Q => ∃ a kvs k w, x = .ref a ∧ (a, MO.dic kvs) ∈ Cs ∧ y = kW k ∧ valW kvs k = some w ∧ Q w Cs
theorem qe_dget {o i : Expr} {td ty : ME} (hu : X.A.units + 1 < cLine) (ho : QE X o td) (hi : QE X i ty) (hs : NoSl i) : QE X (.Subscript o i pos) (mBin qDGet td ty) := fun Wx tk => pe_imp (pe_dget hu (ho Wx tk) (hi Wx tk) hs) fun σ H Q' h =>
  lift2 (r := fun x y H2 Q => ∃ a v, x = .ref a ∧ DGet H2 a y (some v) ∧ Q v H2) (fun x y vx vy H Cs Q Q' ⟨a, kvs, k, w, e1, hm, e2, e3, q⟩ rc rx ry kq => by
    subst e1 e2
    obtain ⟨kvs', f1, f2⟩ := rc.mem hm
    obtain ⟨v, g1, g2⟩ := (val_rel k f2).1 w e3
    obtain rfl := kW_rep.mp ry
    refine ⟨a, v, rep_ref.mp rx, ?_, kq.here q rc g2⟩
    rw [← g1]
    exact DGet.k f1) h
/-- k in d, k not in d -/
def qDIn (neg : Bool) : RW2 := fun y x Cs Q => ∃ a kvs k, x = .ref a ∧ (a, MO.dic kvs) ∈ Cs ∧ y = kW k ∧ Q (.bl (if neg then !(valW kvs k).isSome else (valW kvs k).isSome)) Cs
/-- d.get(k), d.get(k, x) -/
def mDGet1 (td ty : ME) : ME := fun E ρ Cs Q => td E ρ Cs fun x C1 => (∃ a kvs, x = .ref a ∧ (a, MO.dic kvs) ∈ C1) ∧ ty E ρ C1 fun y C2 => ∃ a kvs k, x = .ref a ∧ (a, MO.dic kvs) ∈ C2 ∧ y = kW k ∧ Q ((valW kvs k).getD .non) C2
def mDGet2 (td ty tx : ME) : ME := fun E ρ Cs Q => td E ρ Cs fun x C1 => (∃ a kvs, x = .ref a ∧ (a, MO.dic kvs) ∈ C1) ∧ ty E ρ C1 fun y C2 => tx E ρ C2 fun z C3 => ∃ a kvs k, x = .ref a ∧ (a, MO.dic kvs) ∈ C3 ∧ y = kW k ∧ Q ((valW kvs k).getD z) C3
theorem getD_rel {H : Hp} {kvs : List (Key × W)} {kvs' : List (Key × V)} {k : Key} {z : W} {vz : V} (h : repKV K H kvs kvs') (hz : rep K H z vz) : rep K H ((valW kvs k).getD z) ((valV kvs' k).getD vz) := by
  obtain ⟨h1, h2⟩ := val_rel k h
  cases e : valW kvs k with
  | none => rw [h2 e]; exact hz
  | some w =>
    obtain ⟨v, e1, e2⟩ := h1 w e
    rw [e1]
    exact e2
theorem qe_dget1 {o e : Expr} {apos cpos : Pos} {td ty : ME} (hu : X.A.units + 1 < cLine) (ho : QE X o td) (he : QE X e ty) (m : M1 X o "get" apos e cpos) : QE X (.Call (.Attribute o "get" apos) [e] [] cpos) (mDGet1 td ty) := fun Wx tk => pe_imp (pe_dget1 hu (ho Wx tk) (he Wx tk) m) fun σ H Q' ⟨ρ, Cs, E, Q, R, C, h, kQ, kE⟩ =>
  ⟨ρ, Cs, E, _, R, C, h, fun x C1 vx H1 ⟨⟨a, kvs, e1, hm⟩, q1⟩ tr1 rc1 rx => by
    subst e1
    obtain ⟨kvs', f1, _⟩ := rc1.mem hm
    refine ⟨a, rep_ref.mp rx, .inl ⟨kvs', .inl f1⟩, ρ, C1, E, _, R.mono tr1, rc1, q1, fun y C2 vy H2 q2 tr2 rc2 ry => ?_, kE.mono tr1⟩
    obtain ⟨a', kvs2, k, e2, hm2, e3, q⟩ := q2
    injection e2 with e2
    subst e2 e3
    obtain ⟨kvs3, g1, g2⟩ := rc2.mem hm2
    obtain rfl := kW_rep.mp ry
    exact ⟨_, DGet.k g1, kQ _ C2 _ H2 q (tr1.trans tr2) rc2 (getD_rel g2 (rep_non.mpr rfl))⟩, kE⟩
theorem qe_dget2 {o e f : Expr} {apos cpos : Pos} {td ty tx : ME} (hu : X.A.units + 1 < cLine) (ho : QE X o td) (he : QE X e ty) (hf : QE X f tx) (m : M2 X o "get" apos e f cpos) : QE X (.Call (.Attribute o "get" apos) [e, f] [] cpos) (mDGet2 td ty tx) := fun Wx tk => pe_imp (pe_dget2 hu (ho Wx tk) (he Wx tk) (hf Wx tk) m) fun σ H Q' ⟨ρ, Cs, E, Q, R, C, h, kQ, kE⟩ =>
  ⟨ρ, Cs, E, _, R, C, h, fun x C1 vx H1 ⟨⟨a, kvs, e1, hm⟩, q1⟩ tr1 rc1 rx => by
    subst e1
    obtain ⟨kvs', f1, _⟩ := rc1.mem hm
    refine ⟨a, rep_ref.mp rx, .inl ⟨kvs', .inl f1⟩, ρ, C1, E, _, R.mono tr1, rc1, q1, fun y C2 vy H2 q2 tr2 rc2 ry => ⟨ρ, C2, E, _, R.mono (tr1.trans tr2), rc2, q2, fun z C3 vz H3 q3 tr3 rc3 rz => ?_, kE.mono (tr1.trans tr2)⟩, kE.mono tr1⟩
    obtain ⟨a', kvs2, k, e2, hm2, e3, q⟩ := q3
    injection e2 with e2
    subst e2 e3
    obtain ⟨kvs3, g1, g2⟩ := rc3.mem hm2
    obtain rfl := kW_rep.mp ry
    exact ⟨_, DGet.k g1, kQ _ C3 _ H3 q ((tr1.trans tr2).trans tr3) rc3 (getD_rel g2 rz)⟩, kE⟩
/-- d[k] = v -/
def sDPutW (td ty tv : ME) : MS := fun D ρ Cs => tv (fun C w Cs => D.ex C w ρ Cs) ρ Cs fun v C1 => td (fun C w Cs => D.ex C w ρ Cs) ρ C1 fun x C2 => ty (fun C w Cs => D.ex C w ρ Cs) ρ C2 fun y C3 =>
  ∃ a kvs k Ds, x = .ref a ∧ C3.Perm ((a, .dic kvs) :: Ds) ∧ y = kW k ∧ kvs.length < 100000 ∧ D.nx ρ ((a, .dic (putW kvs k v)) :: Ds)
theorem qs_dput {o i v : Expr} {pos' : Pos} {td ty tv : ME} (hu : X.A.units + 1 < cLine) (ho : QE X o td) (hi : QE X i ty) (hv : QE X v tv) (hs : swapsWith v (some (.Subscript o i pos')) pos.line X.env = pure false := by rfl) : QS X (.Assign [.Subscript o i pos'] v pos) (sDPutW td ty tv) := fun Wx tk =>
  ps_imp (ps_dput hu (ho Wx tk) (hi Wx tk) (hv Wx tk) hs) fun D σ H ⟨ρ, Cs, DW, R, C, h, L⟩ => ⟨ρ, Cs, _, _, R, C, h, fun w C1 vw H1 q1 tr1 rc1 rw1 => ⟨ρ, C1, _, _, R.mono tr1, rc1, q1, fun x C2 vx H2 q2 tr2 rc2 rx => ⟨ρ, C2, _, _, R.mono (tr1.trans tr2), rc2, q2, fun y C3 vy H3 q3 tr3 rc3 ry => by
    obtain ⟨a, kvs, k, Ds, e1, hp, e2, hz, q⟩ := q3
    subst e1 e2
    have rc4 := rc3.perm hp
    obtain ⟨kvs', f1, f2⟩ := rc4.mem List.mem_cons_self
    obtain rfl := kW_rep.mp ry
    have trw : Tr X.K H3 (upd H3 a (.dK (putK kvs' k vw))) := rc4.tr_write
    have tr := ((tr1.trans tr2).trans tr3).trans trw
    have hl := congrArg List.length f2.1
    rw [List.length_map, List.length_map] at hl
    exact ⟨a, _, rep_ref.mp (rep_mono tr3 _ _ rx), DPut.k f1 (Nat.lt_of_lt_of_le (by rw [← hl]; exact hz) (by decide)), L.nx ρ _ σ _ q tr (R.mono tr) (rc4.write ⟨_, upd_same, repKV_mono trw (put_rel k (rep_mono (tr2.trans tr3) _ _ rw1) f2)⟩)⟩, (L.lnkX R).mono (tr1.trans tr2)⟩, (L.lnkX R).mono tr1⟩, L.lnkX R⟩
end
end SL
namespace SL
open PySem PySem.Spec PyProof.Rows L2

/-! ### operators by the kinds of their operands -/
def uAdd : RW2
  | .int i, .int j, Cs, Q => Q (.int (i + j)) Cs
  | .str i, .str j, Cs, Q => i.length + j.length ≤ sizeLine ∧ Q (.str (i ++ j)) Cs
  | x, y, Cs, Q => ∃ ws us, LsV x ws Cs ∧ LsV y us Cs ∧ ws.length + us.length ≤ 100000 ∧ ∀ p, Q (.ref p) ((p, .lst (ws ++ us)) :: Cs)
def uMul : RW2
  | .int i, .int j, Cs, Q => CMulA i j ∧ Q (.int (i * j)) Cs
  | x, .int k, Cs, Q => ∃ ws, LsV x ws Cs ∧ (-9223372036854775808 ≤ k ∧ k < 9223372036854775808) ∧ ws.length * k.toNat ≤ 100000 ∧ ∀ p, Q (.ref p) ((p, .lst (List.replicate k.toNat ws).flatten) :: Cs)
  | _, _, _, _ => False
def deepW : W → Bool
  | .ref _ => true
  | .tup _ => true
  | _ => false
def uEq : RW2 := fun x y Cs Q => match seq x y with
  | some b => Q (.bl b) Cs
  | none => qEqD x y Cs Q
def uNe : RW2 := fun x y Cs Q => match seq x y with
  | some b => Q (.bl (!b)) Cs
  | none => qNeD x y Cs Q
def uIn (neg : Bool) : RW2
  | x, .tup ws, Cs, Q => flatW x = true ∧ ws.all flatW = true ∧ Q (.bl (if neg then !win x ws else win x ws)) Cs
  | x, y, Cs, Q => ∃ ws, LsV y ws Cs ∧ flatW x = true ∧ ws.all flatW = true ∧ Q (.bl (if neg then !win x ws else win x ws)) Cs
def uIx : RW2
  | .tup ws, .int i, Cs, Q => ∃ w, nth ws i = some w ∧ Q w Cs
  | .ref a, .int i, Cs, Q => ∃ ws w, LsAt a ws Cs ∧ nth ws i = some w ∧ Q w Cs
  | .cst _ ws, .int i, Cs, Q => ∃ w, nth ws i = some w ∧ Q w Cs
  | .ls ws, .int i, Cs, Q => ∃ w, nth ws i = some w ∧ Q w Cs
  | .str z, .int i, Cs, Q => ∃ c, z.length ≤ sizeLine ∧ atI z.cps.toList i = some c ∧ Q (.str ⟨#[c]⟩) Cs
  | _, _, _, _ => False
section
variable {X : Cx} {K : PySem.W.Frag}
/-- two lists that are read, one behind the other -/
def rCatR : R2 := fun x y H Q => ∃ l b xs zs, x = .ref l ∧ y = .ref b ∧ Rd H l (.lst xs) ∧ Rd H b (.lst zs) ∧ xs.length + zs.length ≤ sizeLine ∧ ∀ p, H p = none → Q (.ref p) (upd H p (.lst (xs ++ zs)))
theorem rdM {pins : List (Addr × Obj)} {σ : L2.St} {H : Hp} {s : Shared} {l : Addr} {xs : List V} (I : Inv X pins σ H s) (h : Rd H l (.lst xs)) : xs.length ≤ sizeLine ∧ ∃ (its : List Value) (n : Nat), Vals xs its ∧ xs.length = its.length ∧ s.heap.get? l = some { cls := .type "list", data := .seq its.toArray n } := by
  obtain ⟨z, its, n, r, e⟩ := h.ok I.hok
  exact ⟨z, its, n, r, r.length, e⟩
theorem op_catR : OpR X (binaryOp .Add) rCatR := by
  intro pins s σ H x y v u Q I rx ry h
  obtain ⟨l, b, xs, zs, rfl, rfl, hH, hB, hz, q⟩ := h
  cases rx
  cases ry
  obtain ⟨z, its, n, r, hl, e⟩ := rdM I hH
  obtain ⟨z2, its2, n2, r2, hl2, e2⟩ := rdM I hB
  refine PySem.P.add_list e e2 ?_ (by rw [List.size_toArray, List.size_toArray]; omega)
  have ea : its.toArray ++ its2.toArray = (its ++ its2).toArray := by simp
  rw [ea]
  exact ⟨.ref _, _, I.lnew (t' := s.toks) (r.append r2) (by rw [List.length_append]; omega), rfl, q _ I.fresh⟩
def rRepR : R2 := fun x y H Q => ∃ l k xs, x = .ref l ∧ y = .int k ∧ Rd H l (.lst xs) ∧ -(2 ^ 63) ≤ k ∧ k < 2 ^ 63 ∧ xs.length * k.toNat ≤ sizeLine ∧
  ∀ p, H p = none → Q (.ref p) (upd H p (.lst (List.replicate k.toNat xs).flatten))
theorem op_repR : OpR X (binaryOp .Mult) rRepR := by
  intro pins s σ H x y v u Q I rx ry h
  obtain ⟨l, k, xs, rfl, rfl, hH, h1, h2, hz, q⟩ := h
  have hI := I
  rcases hH with hH | ⟨o, hH⟩
  · exact op_rep pins s σ H _ _ v u Q I rx ry ⟨l, k, xs, rfl, rfl, hH, h1, h2, hz, q⟩
  · cases rx
    obtain ⟨t, rfl⟩ := ry
    obtain ⟨z, its, n, r, hl, e⟩ := rdM I (.inr ⟨o, hH⟩)
    have hlen : its.toArray.size * k.toNat ≤ sizeLine := by rw [List.size_toArray, ← hl]; exact hz
    have hcap : ¬ its.toArray.size * k.toNat > (2 ^ 63 - 1) / 8 := by
      have : (sizeLine : Nat) ≤ (2 ^ 63 - 1) / 8 := by decide
      omega
    have hfit : ¬ (!Builtin.List.listFitsIndex k) = true := by
      rw [fitsIndex_both h1 h2]
      exact Bool.false_ne_true
    have hlong : ¬ Builtin.List.listTooLong (its.toArray.size * k.toNat) = true := by
      rw [notLongL hlen]
      exact Bool.false_ne_true
    have hnew : List.foldl (fun x1 x2 => x1 ++ x2) #[] (List.replicate (if its.toArray.isEmpty = true then 0 else k.toNat) its.toArray) = (List.replicate k.toNat its).flatten.toArray := by
      have f0 : ∀ m : Nat, List.foldl (fun x1 x2 => x1 ++ x2) #[] (List.replicate m its.toArray) = (List.replicate m its).flatten.toArray := fun m => by
        have := foldl_rep its m []
        rw [List.nil_append] at this
        exact this
      rw [f0]
      cases its with
      | nil => simp
      | cons a r' => rw [if_neg (by simp)]
    refine wpAny_binaryOp_repeat_ref (T := "list") (U := "int") (by decide) ⟨_, e, rfl⟩ (fun s' => typeIs_int s' k t) noFill_list_mul F.fills_int_mul F.slot_int_rmul repeat_list F.slot_int_index.lookup
      (call_meets F.slot_int_rmul (typeIs_int s k t) F.entry_int_rmul (F.args_int_rmul_2 _ _) (int___rmul___int_list k t l its.toArray n)
        ⟨e, rfl, ⟨_, e, rfl⟩, call_meets F.slot_list_mul ⟨_, e, rfl⟩ F.entry_list_mul (F.args_list_mul_2 _ _) (AutoListH.list___mul___list_int_3 l its.toArray n k t hfit hcap hlong) ⟨e, ?_⟩⟩)
    rw [hnew]
    exact ⟨.ref _, _, I.lnew (t' := s.toks) (r.rep k.toNat) (by rw [PyProof.Rows.lm_len_rep_flat, Nat.mul_comm]; exact hz), rfl, q _ I.fresh⟩
def rAddU : R2 := fun x y H Q => (rI0 (fun i j => .int (i + j))) x y H Q ∨ (∃ i j, x = .str i ∧ y = .str j ∧ i.length + j.length ≤ sizeLine ∧ Q (.str (i ++ j)) H) ∨ rCatR x y H Q
theorem op_addU : OpR X (binaryOp .Add) rAddU := op_add.or (op_add_str.or op_catR)
theorem lk_addU : Lk2 K rAddU uAdd := fun x y vx vy H Cs Q Q' h rc rx ry k => by
  unfold uAdd at h
  split at h
  · exact .inl (lk_add _ _ vx vy H Cs Q Q' ⟨_, _, rfl, rfl, h⟩ rc rx ry k)
  · exact .inr (.inl (lk_catS _ _ vx vy H Cs Q Q' ⟨_, _, rfl, rfl, h.1, h.2⟩ rc rx ry k))
  · obtain ⟨ws, us, h1, h2, h3, h4⟩ := h
    obtain ⟨a, xs, rfl, f1, r1⟩ := h1.get rc rx
    obtain ⟨b, ys, rfl, f2, r2⟩ := h2.get rc ry
    exact .inr (.inr ⟨a, b, xs, ys, rfl, rfl, f1, f2, Nat.le_trans (by rw [← reps_len r1, ← reps_len r2]; exact h3) (by decide), fun p hp => k _ _ _ _ (h4 p) (tr_new hp) (rc.new hp ⟨_, upd_same, reps_mono (tr_new hp) _ _ (reps_app r1 r2)⟩) (rep_ref.mpr rfl)⟩)
def rMulU : R2 := fun x y H Q => (rI CMulA (fun i j => .int (i * j))) x y H Q ∨ rRepR x y H Q
theorem op_mulU : OpR X (binaryOp .Mult) rMulU := op_mulA.or op_repR
theorem lk_mulU : Lk2 K rMulU uMul := fun x y vx vy H Cs Q Q' h rc rx ry k => by
  unfold uMul at h
  split at h
  · exact .inl (lk_mul _ _ vx vy H Cs Q Q' ⟨_, _, rfl, rfl, h.1, h.2⟩ rc rx ry k)
  · obtain ⟨ws, h1, h2, h3, h4⟩ := h
    obtain ⟨a, xs, rfl, f1, r1⟩ := h1.get rc rx
    exact .inr ⟨a, _, xs, rfl, rep_int.mp ry, f1, h2.1, h2.2, Nat.le_trans (by rw [← reps_len r1]; exact h3) (by decide), fun p hp => k _ _ _ _ (h4 p) (tr_new hp) (rc.new hp ⟨_, upd_same, reps_mono (tr_new hp) _ _ (reps_rep r1 _)⟩) (rep_ref.mpr rfl)⟩
  · exact h.elim
def rEqU (K : PySem.W.Frag) : R2 := fun x y H Q => rEq x y H Q ∨ rEqD K x y H Q
theorem op_eqU (hu : X.A.units + 64 < cLine) : OpR X (compareOp .Eq) (rEqU X.K) := op_eq.or (op_eqD hu)
theorem lk_eqU : Lk2 K (rEqU K) uEq := fun x y vx vy H Cs Q Q' h rc rx ry k => by
  unfold uEq at h
  cases e : seq x y with
  | some b =>
    rw [e] at h
    exact .inl (lk_eq x y vx vy H Cs Q Q' ⟨b, e, h⟩ rc rx ry k)
  | none =>
    rw [e] at h
    exact .inr (lk_eqD x y vx vy H Cs Q Q' h rc rx ry k)
def rNeU (K : PySem.W.Frag) : R2 := fun x y H Q => rNe x y H Q ∨ rNeD K x y H Q
theorem op_neU (hu : X.A.units + 64 < cLine) : OpR X (compareOp .NotEq) (rNeU X.K) := op_ne.or (op_neD hu)
theorem lk_neU : Lk2 K (rNeU K) uNe := fun x y vx vy H Cs Q Q' h rc rx ry k => by
  unfold uNe at h
  cases e : seq x y with
  | some b =>
    rw [e] at h
    exact .inl (lk_ne x y vx vy H Cs Q Q' ⟨b, e, h⟩ rc rx ry k)
  | none =>
    rw [e] at h
    exact .inr (lk_neD x y vx vy H Cs Q Q' h rc rx ry k)
theorem lk_inU {neg : Bool} : Lk2 K (rIn K neg) (uIn neg) := fun x y vx vy H Cs Q Q' h rc rx ry k => by
  unfold uIn at h
  split at h
  · exact lk_inT _ _ vx vy H Cs Q Q' ⟨_, rfl, h.1, h.2.1, h.2.2⟩ rc rx ry k
  · obtain ⟨ws, h1, h2, h3, h4⟩ := h
    obtain ⟨a, xs, rfl, f1, r1⟩ := h1.get rc ry
    obtain ⟨h5, h6⟩ := win_ok h2 rx h3 r1
    refine ⟨a, xs, rfl, .inl (.inl f1), flat_ok h2 rx, h5, ?_⟩
    rw [h6]
    exact k.here h4 rc (rep_bl.mpr rfl)
theorem lk_ixU : Lk2 K (rIx K) uIx := fun x y vx vy H Cs Q Q' h rc rx ry k => by
  unfold uIx at h
  split at h
  · obtain ⟨w, h1, h2⟩ := h
    exact .inr (.inl (lk_ixT _ _ vx vy H Cs Q Q' ⟨_, _, w, rfl, rfl, h1, h2⟩ rc rx ry k))
  · obtain ⟨ws, w, h0, h1, h2⟩ := h
    exact .inl (lk_ixL _ _ vx vy H Cs Q Q' ⟨_, ws, _, w, rfl, rfl, h0, h1, h2⟩ rc rx ry k)
  · obtain ⟨w, h1, h2⟩ := h
    obtain ⟨rfl, ys, hs, r2⟩ := rep_cst.mp rx
    obtain ⟨v, h3, h4⟩ := nth_at r2 h1
    exact .inl ⟨_, ys, _, v, rfl, rep_int.mp ry, hs.1, h3, k.here h2 rc h4⟩
  · obtain ⟨w, h1, h2⟩ := h
    obtain ⟨a, o, ys, rfl, hs, r2⟩ := rep_ls.mp rx
    obtain ⟨v, h3, h4⟩ := nth_at r2 h1
    exact .inl ⟨a, ys, _, v, rfl, rep_int.mp ry, .inl (.inr ⟨o, hs⟩), h3, k.here h2 rc h4⟩
  · obtain ⟨c, h0, h1, h2⟩ := h
    exact .inr (.inr ⟨_, _, c, rep_str.mp rx, rep_int.mp ry, h0, h1, k.here h2 rc (rep_str.mpr rfl)⟩)
  · exact h.elim
/-- len -/
def uLen : RWL
  | [.cst _ ws], Cs, Q => Q (.int (ws.length : Nat)) Cs
  | [.ls ws], Cs, Q => Q (.int (ws.length : Nat)) Cs
  | [.ref a], Cs, Q => ∃ ws, LsAt a ws Cs ∧ Q (.int (ws.length : Nat)) Cs
  | [.tup ws], Cs, Q => Q (.int (ws.length : Nat)) Cs
  | [.str z], Cs, Q => z.length ≤ sizeLine ∧ Q (.int (z.length : Nat)) Cs
  | _, _, _ => False
def rLenU (K : PySem.W.Frag) : List V → Hp → VK → Prop := fun xs H Q => (∃ p ys, xs = [.ref p] ∧ (SqL K H p ys ∨ SqT K H p ys) ∧ Q (.int ys.length) H) ∨ ∃ z, xs = [.str z] ∧ z.length ≤ sizeLine ∧ Q (.int z.length) H
theorem call_lenU : CallR X (.builtin "len") (rLenU X.K) := call_len_seq.or call_len_str
theorem lk_lenU : LkL K (rLenU K) uLen := fun xs vs H Cs Q Q' h rc rx k => by
  unfold uLen at h
  split at h
  · obtain ⟨v, rfl, r⟩ := one_rep rx
    obtain ⟨rfl, ys, hs, r2⟩ := rep_cst.mp r
    refine .inl ⟨_, ys, rfl, .inl hs.1, ?_⟩
    rw [← reps_len r2]
    exact k.here h rc (rep_int.mpr rfl)
  · obtain ⟨v, rfl, r⟩ := one_rep rx
    obtain ⟨a, o, ys, rfl, hs, r2⟩ := rep_ls.mp r
    refine .inl ⟨_, ys, rfl, .inl (.inl (.inr ⟨o, hs⟩)), ?_⟩
    rw [← reps_len r2]
    exact k.here h rc (rep_int.mpr rfl)
  · obtain ⟨ws, h1, h2⟩ := h
    exact .inl (lk_lenQ _ vs H Cs Q Q' (.inl ⟨_, ws, rfl, h1, h2⟩) rc rx k)
  · exact .inl (lk_lenQ _ vs H Cs Q Q' (.inr ⟨_, rfl, h⟩) rc rx k)
  · exact .inr (lk_lenS _ vs H Cs Q Q' ⟨_, rfl, h.1, h.2⟩ rc rx k)
  · exact h.elim
/-- min, max of two ints, of a list -/
def uMin : RWL
  | [.int i, .int j], Cs, Q => Q (.int (if j < i then j else i)) Cs
  | [x], Cs, Q => ∃ ns : List Int, LsV x (ns.map W.int) Cs ∧ 0 < ns.length ∧ ∀ m, m ∈ ns → (∀ y, y ∈ ns → m ≤ y) → Q (.int m) Cs
  | _, _, _ => False
def uMax : RWL
  | [.int i, .int j], Cs, Q => Q (.int (if j > i then j else i)) Cs
  | [x], Cs, Q => ∃ ns : List Int, LsV x (ns.map W.int) Cs ∧ 0 < ns.length ∧ ∀ m, m ∈ ns → (∀ y, y ∈ ns → y ≤ m) → Q (.int m) Cs
  | _, _, _ => False
def rMinU (K : PySem.W.Frag) : List V → Hp → VK → Prop := fun xs H Q => (∃ i j, xs = [.int i, .int j] ∧ Q (.int (if j < i then j else i)) H) ∨ rMin K xs H Q
def rMaxU (K : PySem.W.Frag) : List V → Hp → VK → Prop := fun xs H Q => (∃ i j, xs = [.int i, .int j] ∧ Q (.int (if j > i then j else i)) H) ∨ rMax K xs H Q
theorem call_minU (hc : X.calm = true) : CallR X (.builtin "min") (rMinU X.K) := (call_min2 hc).or (cr_min hc)
theorem call_maxU (hc : X.calm = true) : CallR X (.builtin "max") (rMaxU X.K) := (call_max2 hc).or (cr_max hc)
theorem lk_minU : LkL K (rMinU K) uMin := fun xs vs H Cs Q Q' h rc rx k => by
  unfold uMin at h
  split at h
  · exact .inl (lk_min2 _ vs H Cs Q Q' ⟨_, _, rfl, h⟩ rc rx k)
  · obtain ⟨ns, h1, h2, h3⟩ := h
    exact .inr (lk_minL _ vs H Cs Q Q' ⟨_, ns, rfl, h1, h2, h3⟩ rc rx k)
  · exact h.elim
theorem lk_maxU : LkL K (rMaxU K) uMax := fun xs vs H Cs Q Q' h rc rx k => by
  unfold uMax at h
  split at h
  · exact .inl (lk_max2 _ vs H Cs Q Q' ⟨_, _, rfl, h⟩ rc rx k)
  · obtain ⟨ns, h1, h2, h3⟩ := h
    exact .inr (lk_maxL _ vs H Cs Q Q' ⟨_, ns, rfl, h1, h2, h3⟩ rc rx k)
  · exact h.elim
/-- int(a truth value), int(a text) -/
def uInt : RWL
  | [.bl b], Cs, Q => Q (.int (if b then 1 else 0)) Cs
  | [.int b], Cs, Q => Q (.int b) Cs
  | [.str a], Cs, Q => ∃ n, PySem.intText? a = some n ∧ a.length ≤ 640 ∧ Q (.int n) Cs
  | _, _, _ => False
def rIntU : List V → Hp → VK → Prop := fun xs H Q => ((∃ i, xs = [.int i] ∧ Q (.int i) H) ∨ ∃ k, xs = [.bl k] ∧ Q (.int (if k then 1 else 0)) H) ∨ ∃ a n, xs = [.str a] ∧ PySem.intText? a = some n ∧ a.length ≤ 640 ∧ Q (.int n) H
theorem call_intU : CallR X (.type "int") rIntU := call_int1.or call_int_str
theorem lk_intU : LkL K rIntU uInt := fun xs vs H Cs Q Q' h rc rx k => by
  unfold uInt at h
  split at h
  · exact .inl (lk_intB _ vs H Cs Q Q' ⟨_, rfl, h⟩ rc rx k)
  · obtain ⟨v, rfl, r1⟩ := one_rep rx
    exact .inl (.inl ⟨_, by rw [rep_int.mp r1], k.here h rc (rep_int.mpr rfl)⟩)
  · obtain ⟨n, h1, h2, h3⟩ := h
    exact .inr (lk_intS _ vs H Cs Q Q' ⟨_, n, rfl, h1, h2, h3⟩ rc rx k)
  · exact h.elim
def uList : RWL
  | [.ls ws], Cs, Q => ∀ p, Q (.ref p) ((p, .lst ws) :: Cs)
  | [.ref a], Cs, Q => ∃ ws, LsAt a ws Cs ∧ ∀ p, Q (.ref p) ((p, .lst ws) :: Cs)
  | [.tup ws], Cs, Q => ∀ p, Q (.ref p) ((p, .lst ws) :: Cs)
  | _, _, _ => False
theorem lk_listU : LkL K (fun xs H Q => ∃ p ys, xs = [.ref p] ∧ (SqL K H p ys ∨ SqT K H p ys) ∧ ∀ l, H l = none → Q (.ref l) (upd H l (.lst ys))) uList := fun xs vs H Cs Q Q' h rc rx k => by
  unfold uList at h
  split at h
  · obtain ⟨v, rfl, r⟩ := one_rep rx
    obtain ⟨a, o, ys, rfl, hs, h2⟩ := rep_ls.mp r
    exact ⟨a, ys, rfl, .inl (.inl (.inr ⟨o, hs⟩)), fun l hn => k _ _ _ _ (h l) (tr_new hn) (rc.new hn ⟨ys, upd_same, reps_mono (tr_new hn) _ _ h2⟩) (rep_ref.mpr rfl)⟩
  · obtain ⟨ws, h1, h2⟩ := h
    exact lk_list _ vs H Cs Q Q' (.inl ⟨_, ws, rfl, h1, h2⟩) rc rx k
  · exact lk_list _ vs H Cs Q Q' (.inr ⟨_, rfl, h⟩) rc rx k
  · exact h.elim
/-- isinstance with one built-in class -/
def uIsi : RWL
  | [x, .ty c], Cs, Q => ∃ t b, tyW Cs x t ∧ kitB t c = some b ∧ Q (.bl b) Cs
  | _, _, _ => False
theorem lk_isiU : LkL K (rIsi K) uIsi := fun xs vs H Cs Q Q' h rc rx k => by
  unfold uIsi at h
  split at h
  · obtain ⟨t, b, h1, h2, h3⟩ := h
    exact lk_isi _ vs H Cs Q Q' ⟨_, _, t, b, rfl, h1, h2, h3⟩ rc rx k
  · exact h.elim
/-- slices of lists, tuples and texts -/
def uSl : RWS
  | .cst _ ws, lo, hi, Cs, Q => ∀ p, Q (.ref p) ((p, .lst (cutW ws lo hi)) :: Cs)
  | .ls ws, lo, hi, Cs, Q => ∀ p, Q (.ref p) ((p, .lst (cutW ws lo hi)) :: Cs)
  | .ref a, lo, hi, Cs, Q => ∃ ws, LsAt a ws Cs ∧ ∀ p, Q (.ref p) ((p, .lst (cutW ws lo hi)) :: Cs)
  | .str z, lo, hi, Cs, Q => z.length ≤ sizeLine ∧ Q (.str (cutS z lo hi)) Cs
  | .tup ws, lo, hi, Cs, Q => Q (.tup (cutW ws lo hi)) Cs
  | _, _, _, _, _ => False
def rSlU (K : PySem.W.Frag) : V → Option Int → Option Int → Hp → VK → Prop := fun x lo hi H Q => (rSlL K x lo hi H Q ∨ rSlS x lo hi H Q) ∨ rSlA K x lo hi H Q
theorem sl_U : SlR X (rSlU X.K) := (sl_list.or sl_str).or sl_tupA
theorem cutW_all {α : Type} {ws : List α} {lo hi : Option Int} (h : HT.sIx ws.length 0 lo = 0 ∧ HT.sIx ws.length ws.length hi = ws.length) : cutW ws lo hi = ws := by
  unfold cutW
  rw [h.1, h.2, List.drop_zero, Nat.sub_zero, List.take_length]
theorem lk_slU : LkS K (rSlU K) uSl := fun x vx lo hi H Cs Q Q' h rc rx k => by
  unfold uSl at h
  split at h
  · obtain ⟨rfl, ys, hs, r2⟩ := rep_cst.mp rx
    exact .inl (.inl ⟨_, ys, rfl, hs.1, fun p hp => k _ _ _ _ (h p) (tr_new hp) (rc.new hp ⟨_, upd_same, reps_mono (tr_new hp) _ _ (reps_cut r2 lo hi)⟩) (rep_ref.mpr rfl)⟩)
  · obtain ⟨a, o, ys, rfl, hs, r2⟩ := rep_ls.mp rx
    exact .inl (.inl ⟨_, ys, rfl, .inl (.inr ⟨o, hs⟩), fun p hp => k _ _ _ _ (h p) (tr_new hp) (rc.new hp ⟨_, upd_same, reps_mono (tr_new hp) _ _ (reps_cut r2 lo hi)⟩) (rep_ref.mpr rfl)⟩)
  · obtain ⟨ws, h1, h2⟩ := h
    exact .inl (.inl (lk_slL _ vx _ _ H Cs Q Q' ⟨_, ws, rfl, h1, h2⟩ rc rx k))
  · exact .inl (.inr (lk_slS _ vx _ _ H Cs Q Q' ⟨_, rfl, h.1, h.2⟩ rc rx k))
  · obtain ⟨t, ys, rfl, hs, r2⟩ := rep_tup.mp rx
    have hl := reps_len r2
    refine .inr ⟨t, ys, rfl, hs, fun e => ?_, fun e p hp => ?_⟩
    · rw [← hl] at e
      rw [cutW_all e] at h
      exact k.here h rc rx
    · exact k _ _ _ _ h (tr_new hp) (rc.hid hp) (rep_tup.mpr ⟨p, _, rfl, .inl (.inl upd_same), reps_mono (tr_new hp) _ _ (reps_cut r2 lo hi)⟩)
  · exact h.elim
end
end SL
namespace SL
open PySem PySem.Spec PyProof.Rows L2

/-! ### the end: the law's own call, nothing being shown around it -/
section
variable {P : Program} {w : World} {K : PySem.W.Frag} {mg mb : Str → Option Value} {k : Nat} {fa a : Addr} {fd : FuncData} {x : Str} {sp : Sp} {s : Shared} {vs : List Value} {ns : List Int}
/-- one abstract heap that tells at most of the script -/
theorem call_from {H : Hp} (KX : K.In s.heap) (hns : s.heap.Ns mainGlobals mg) (hb : s.heap.Ns builtinsNs mb) (hbb : ∀ x : Str, x ≠ "__name__" → mb x = bootBuiltins x) (hlim : s.heap.NoLimit) (hg : s.gens = #[])
    (ha : s.heap.get? a = some { cls := .type "list", data := .seq vs.toArray }) (hr : Room k callerA)
    (F : ∀ base : Heap, K.In base → base.Ns mainGlobals mg → FnG P w K mg base k fa fd [x] sp) (hbind : ∀ (s : Shared) (u : Value), BindsTo s fd ⟨[u], []⟩ [(x, u)])
    (hsp : sp [.ref a] H (fun v _ => v = .bl true) fun _ _ _ => False) (hok : HOk P w H s.heap) (hA : ∀ b u, H b = some u → b = a ∧ (∃ o, u = .frz o (.lst (ns.map V.int))) ∧ K.lookup a = none) :
    codeAny (model P w) callerA (.call (.ref fa) ⟨[.ref a], []⟩) (fun r s' => r = .ok (.ret (.bool true)) ∧ OldK s.heap s'.heap ∧ s'.os = s.os ∧ AllBare s'.gens) s := by
  have free : ∀ {b : Addr} {o : Obj}, s.heap.get? b = some o → b ≠ a → H b = none := fun {b o} _ hb => by
    cases q : H b with
    | none => rfl
    | some u => exact absurd (hA b u q).1 hb
  have nd : ∀ {b : Addr} {o : Obj} {es : Array DictEntry} {ep : Nat}, s.heap.get? b = some o → o.data = .dict es ep → b ≠ a := fun {b o es ep} e d z => by
    subst z
    rw [ha] at e
    cases e
    cases (show Data.seq vs.toArray _ = Data.dict es ep from d)
  have nsK : ∀ {b : Addr} {m : Str → Option Value}, s.heap.Ns b m → (hidT s.heap H).Ns b m := fun {b m} ⟨o, es, ep, e, d, r⟩ => ⟨o, es, ep, hidT_get e (free e (nd e d)), d, r⟩
  have hKb : K.In (hidT s.heap H) := fun b o e => by
    refine hidT_get (KX b o e) ?_
    cases q : H b with
    | none => rfl
    | some u =>
      obtain ⟨z, _, kn⟩ := hA b u q
      rw [z, kn] at e
      cases e
  obtain ⟨mc, l1, l2⟩ := hlim
  have e0 : Env0 P w K mg (hidT s.heap H) callerA [] s H :=
    ⟨rfl, ⟨hKb, nsK hns, ⟨mb, nsK hb, hbb⟩, ⟨mc, nsK l1, l2⟩⟩, fun _ _ e => of_hidT e, Nat.le_of_eq (hidT_size _ _), trivial, fun _ hb => (nomatch hb), hok, .of_eq hg⟩
  refine codeAny_mono ((F _ hKb (nsK hns)).run callerA [] s H ⟨[.ref a], []⟩ [.ref a] [.ref a] _ _ hr rfl e0 (hbind s (.ref a)) (.cons rfl .nil) hsp) fun r s' h => ?_
  match r, h with
  | .error e, h =>
    obtain ⟨_, _, _, _, _, _, _, _, _, _, _, _, z⟩ := h
    exact z.elim
  | .ok .next, h => exact h.elim
  | .ok .brk, h => exact h.elim
  | .ok .cont, h => exact h.elim
  | .ok (.ret u), h =>
    obtain ⟨v, H', os, bare, un, hok', r', q⟩ := h
    obtain rfl : v = .bl true := q
    obtain rfl : u = Value.bool true := r'
    refine ⟨rfl, OldK.of_keep fun b o e => ?_, os, bare⟩
    cases q : H b with
    | none => exact un.keep b o e q (fun z => nomatch z) (fun z => nomatch z)
    | some u =>
      obtain ⟨_, ⟨ob, rfl⟩, _⟩ := hA b u q
      obtain ⟨e1, _⟩ := hok b _ q
      obtain ⟨e2, _⟩ := hok' b _ (un.frzs b ob _ q)
      rw [e] at e1
      cases e1
      exact e2
theorem law_callG (KX : K.In s.heap) (hns : s.heap.Ns mainGlobals mg) (hb : s.heap.Ns builtinsNs mb) (hbb : ∀ x : Str, x ≠ "__name__" → mb x = bootBuiltins x) (hlim : s.heap.NoLimit) (hg : s.gens = #[])
    (ha : s.heap.get? a = some { cls := .type "list", data := .seq vs.toArray }) (hi : IntsAre vs ns) (hl : ns.length ≤ sizeLine) (hr : Room k callerA)
    (F : ∀ base : Heap, K.In base → base.Ns mainGlobals mg → FnG P w K mg base k fa fd [x] sp) (hbind : ∀ (s : Shared) (u : Value), BindsTo s fd ⟨[u], []⟩ [(x, u)])
    (hsp : ∀ H : Hp, KL K H a (ns.map V.int) → sp [.ref a] H (fun v _ => v = .bl true) fun _ _ _ => False) :
    codeAny (model P w) callerA (.call (.ref fa) ⟨[.ref a], []⟩) (fun r s' => r = .ok (.ret (.bool true)) ∧ OldK s.heap s'.heap ∧ s'.os = s.os ∧ AllBare s'.gens) s := by
  cases hK : K.lookup a with
  | some o =>
    have e := KX a o hK
    rw [ha] at e
    cases e
    have q : ∀ H : Hp, SqL K H a (ns.map V.int) := fun H => .inr ⟨_, vs.toArray, _, hK, rfl, rfl, rfl, by rw [List.size_toArray, hi.length]; exact hl, by simpa using vals_ints hi⟩
    exact call_from (H := fun _ => none) (ns := ns) KX hns hb hbb hlim hg ha hr F hbind (hsp _ ⟨q _, .inr (q _)⟩) (fun b u z => nomatch z) fun b u z => nomatch z
  | none =>
    have at_ : (fun b => if b = a then some (HO.frz { cls := .type "list", data := .seq vs.toArray } (.lst (ns.map V.int))) else none) a = some (HO.frz { cls := .type "list", data := .seq vs.toArray } (.lst (ns.map V.int))) := if_pos rfl
    refine call_from (H := fun b => if b = a then some (.frz { cls := .type "list", data := .seq vs.toArray } (.lst (ns.map V.int))) else none) (ns := ns) KX hns hb hbb hlim hg ha hr F hbind (hsp _ ⟨.inl (.inr ⟨_, at_⟩), .inl ⟨_, at_⟩⟩) (fun b u z => ?_) fun b u z => ?_
    · by_cases e : b = a
      · have z' := (if_pos e).symm.trans z
        cases z'
        subst e
        exact ⟨ha, by rw [List.length_map]; exact hl, vs, _, vals_ints hi, ha⟩
      · have z' := (if_neg e).symm.trans z
        cases z'
    · by_cases e : b = a
      · have z' := (if_pos e).symm.trans z
        cases z'
        exact ⟨e, ⟨_, rfl⟩, hK⟩
      · have z' := (if_neg e).symm.trans z
        cases z'
end
/-- what the law's def promises: True, whatever the script -/
def spLawW : SpW := fun ws Cs Q _ => ∃ a ns, ws = [.cst a ((ns : List Int).map W.int)] ∧ ns.length ≤ 63 ∧ Cs = [] ∧ Q (.bl true) []
theorem walkG_of {l : PySem.W.OpenLaw} {k : Nat} {q : Program} {loose : List Str} {XP : (Str → Option Value) → Heap → Prop} {YP : World → Heap → Prop} {d : DefRec} {K : Params → PySem.W.Frag} {x : Str}
    (hn : l.most = some 63) (hdf : d.params.defaults = []) (hr : Room k callerA) (hY : ∀ (w : World) (h : Heap), YP w h → (K w.params).In h)
    (F : ∀ (w : World) (mg : Str → Option Value) (fa : Addr) (h : Heap), (K w.params).In h → h.Ns mainGlobals mg → mg d.name = some (.ref fa) →
      ∃ fd : FuncData, (∀ (s : Shared) (u : Value), BindsTo s fd ⟨[u], []⟩ [(x, u)]) ∧ ∀ base : Heap, (K w.params).In base → base.Ns mainGlobals mg → FnG l.prog w (K w.params) mg base k fa fd [x] (spOf (K w.params) spLawW)) :
    PySem.W.WalkO q loose XP YP l.row.toRowW d [] (fun f vs => PySem.call f vs) := by
  refine Att.attach_call hn hdf fun w s0 s1 mg mb fa o pm cd doc a vs ns G Y ho hd hcd hmg hobj hints hlen hg => ?_
  obtain ⟨fd, hb, hF⟩ := F w mg fa _ (hY w _ Y) G.T.g hmg
  refine law_callG (hY w _ Y) G.T.g G.T.b G.T.builtins G.T.nolimit hg hobj hints (Nat.le_trans hlen (by decide)) hr hF hb fun H hk => ?_
  refine ⟨[.cst a (ns.map W.int)], [], fun w C => w = .bl true, X0, reps_cc.mpr ⟨rep_cst.mpr ⟨rfl, _, hk, reps_ints.mpr rfl⟩, reps_nil.mpr rfl⟩, ⟨List.nodup_nil, fun _ hp => nomatch hp⟩, ⟨a, ns, rfl, hlen, rfl, rfl⟩, fun w Cs v H' e _ _ rp => ?_, fun _ _ _ _ _ _ e => e.elim⟩
  subst e
  exact rep_bl.mp rp
end SL
namespace SL
open PySem PySem.Spec PyProof.Rows L2

/-! ### what a module's top holds -/
structure Has (K : PySem.W.Frag) (mg : Str → Option Value) (x : Str) (st : Stmt) : Prop where
  ex : ∃ f fd, mg x = some (.ref f) ∧ Fun K x x st f fd
abbrev KSig := List Str × Nat × Nat × List Nat
/-- a def that may be called -/
structure Cal (P : Program) (w : World) (K : PySem.W.Frag) (mg : Str → Option Value) (base : Heap) (k : Nat) (x : Str) (sp : SpW) (kb : List KSig) : Prop where
  ex : ∃ f fd ps, FnG P w K mg base k f fd ps (spOf K sp) ∧ mg x = some (.ref f) ∧ PySem.W.keepIn K (.ref f) = true ∧ Binds K fd ps [] ∧ ∀ t, t ∈ kb → KBd fd ps t.1 t.2.1 t.2.2.1 t.2.2.2
section
variable {P : Program} {w : World} {K : PySem.W.Frag} {mg : Str → Option Value} {base : Heap} {k : Nat} {x : Str} {sp : SpW} {kb : List KSig}
theorem Cal.mono {j : Nat} (C : Cal P w K mg base j x sp kb) (h : j ≤ k) : Cal P w K mg base k x sp kb := by
  obtain ⟨f, fd, ps, h1, h2⟩ := C.ex
  exact ⟨f, fd, ps, h1.mono h, h2⟩
theorem Cal.weak {sp' : SpW} (C : Cal P w K mg base k x sp kb) (h : ∀ ws Cs Q E, sp' ws Cs Q E → sp ws Cs Q E) : Cal P w K mg base k x sp' kb := by
  obtain ⟨f, fd, ps, h1, h2⟩ := C.ex
  have up : ∀ vs H Q E, spOf K sp' vs H Q E → spOf K sp vs H Q E := fun vs H Q E ⟨ws, Cs, Q1, E1, a, b, c, d⟩ => ⟨ws, Cs, Q1, E1, a, b, h _ _ _ _ c, d⟩
  exact ⟨f, fd, ps, ⟨fun vs H Q E e => h1.len vs H Q E (up _ _ _ _ e), fun A outer s H args us vs Q E hr hg he hb hv hs => h1.run A outer s H args us vs Q E hr hg he hb hv (up _ _ _ _ hs)⟩, h2⟩
theorem okC {st : Stmt} {N ps : List Str} {t : MS} (h : Has K mg x st) (S : FnScope N ps (defScope st))
    (bind : ∀ (kV doc pm : Value) (an : Option Addr) (cdv ct : Value) (us : List Value), us.length = ps.length → bindArgs (PySem.W.fnOf x x (defArgs st) (defBody st) (defScope st) .none kV doc pm an cdv ct) { pos := us } = pure (ps.zip us))
    (kbind : ∀ t, t ∈ kb → ∀ (kV doc pm : Value) (an : Option Addr) (cdv ct : Value), KBd (PySem.W.fnOf x x (defArgs st) (defBody st) (defScope st) .none kV doc pm an cdv ct) ps t.1 t.2.1 t.2.2.1 t.2.2.2)
    (len : ∀ ws Cs Q E, sp ws Cs Q E → ws.length = ps.length)
    (der : ∀ (f : Addr) (cdv : Value) (A : Around) (outer : List Env) (s : Shared) (H : Hp) (E : XK), Room k (A.deeper (envOfC x (defScope st) s.heap.objs.size f cdv)) → A.guards = some [] →
      QSs (cxOf (L2.CX P w) P w K mg base N x (defScope st) f cdv A outer s H E) (defBody st) t)
    (pure : ∀ ws Cs Q E, sp ws Cs Q E → t (EndsD Q E) (rho0 ws) Cs) : Cal P w K mg base (k + 1) x sp kb := by
  obtain ⟨f, fd, hm, F⟩ := h.ex
  refine ⟨f, fd, ps, okS F S len (der f) pure, hm, F.kp, F.binds bind, fun t ht => ?_⟩
  obtain ⟨oc, od, kV, doc, pm, an, cdv, ct, osl, e, _⟩ := F.ex
  rw [e]
  exact kbind t ht kV doc pm an cdv ct
end
section
variable {X : Cx} {a b c e : Expr} {es : List Expr} {ta tb tc : ME} {t u : MT} {pos p : Pos} {sp : SpW} {k j : Nat} {x : Str} {tr : MA} {kb : List KSig}
theorem qe_c (C : Cal X.prog X.w X.K X.mg X.base j x sp kb) (hj : j ≤ k) (hr : Room k X.A) (hgu : X.A.guards = some []) (ha : QA X (e :: es) tr) (hg : Gl X x := by rfl)
    (hdb : (x == ("__debug__" : Str)) = false := by decide) (he : starEach (e :: es) X.env = (false, eval e X.env) :: starEach es X.env := by rfl) (hpl : (backTo pos (starEach es X.env)).any (·.1) = false := by rfl) :
    QE X (.Call (.Name x p) (e :: es) [] pos) (mCall sp tr) := by
  obtain ⟨f, fd, ps, h1, h2, h3, h4, _⟩ := (C.mono hj).ex
  exact qe_call h1 hr hgu h2 h3 h4 ha hg hdb he hpl
theorem qe_c0 (C : Cal X.prog X.w X.K X.mg X.base j x sp kb) (hj : j ≤ k) (hr : Room k X.A) (hgu : X.A.guards = some []) (hg : Gl X x := by rfl)
    (hdb : (x == ("__debug__" : Str)) = false := by decide) : QE X (.Call (.Name x p) [] [] pos) (mCall sp mNil) := by
  obtain ⟨f, fd, ps, h1, h2, h3, h4, _⟩ := (C.mono hj).ex
  exact qe_call0 h1 hr hgu h2 h3 h4 hg hdb
theorem qe_ck {ks : List Str} {n m : Nat} {o : List Nat} {kws : List Keyword} {t2 : MA} (C : Cal X.prog X.w X.K X.mg X.base j x sp kb) (hj : j ≤ k) (hr : Room k X.A) (hgu : X.A.guards = some []) (hk : (ks, n, m, o) ∈ kb) (ha : QA X (e :: es) tr) (hkw : QK X kws t2) (hg : Gl X x := by rfl)
    (hall : (backToKw pos (keywordEach kws X.env)).all (·.1.isSome) = true := by rfl) (hks : (backToKw pos (keywordEach kws X.env)).filterMap (·.1) = ks := by rfl)
    (hdb : (x == ("__debug__" : Str)) = false := by decide) (he : starEach (e :: es) X.env = (false, eval e X.env) :: starEach es X.env := by rfl)
    (hpl : ((backTo pos (starEach (e :: es) X.env)).any (·.1) || (backToKw pos (keywordEach kws X.env)).any (·.1.isNone)) = false := by rfl) :
    QE X (.Call (.Name x p) (e :: es) kws pos) (mCallK sp n m o tr t2) := by
  obtain ⟨f, fd, ps, h1, h2, h3, h4, h5⟩ := (C.mono hj).ex
  exact qe_callK h1 hr hgu h2 h3 (h5 _ hk) ha hkw hg hall hks hdb he hpl
theorem qe_ck0 {ks : List Str} {m : Nat} {o : List Nat} {kws : List Keyword} {t2 : MA} (C : Cal X.prog X.w X.K X.mg X.base j x sp kb) (hj : j ≤ k) (hr : Room k X.A) (hgu : X.A.guards = some []) (hk : (ks, 0, m, o) ∈ kb) (hkw : QK X kws t2) (hg : Gl X x := by rfl)
    (hall : (backToKw pos (keywordEach kws X.env)).all (·.1.isSome) = true := by rfl) (hks : (backToKw pos (keywordEach kws X.env)).filterMap (·.1) = ks := by rfl)
    (hdb : (x == ("__debug__" : Str)) = false := by decide)
    (hpl : ((backTo pos (starEach [] X.env)).any (·.1) || (backToKw pos (keywordEach kws X.env)).any (·.1.isNone)) = false := by rfl) :
    QE X (.Call (.Name x p) [] kws pos) (mCallK sp 0 m o mNil t2) := by
  obtain ⟨f, fd, ps, h1, h2, h3, h4, h5⟩ := (C.mono hj).ex
  exact qe_callK0 h1 hr hgu h2 h3 (h5 _ hk) hkw hg hall hks hdb hpl
/-! names that are not the def's own -/
theorem qe_ty {T : String} (hm : X.mg x = none) (hv : bootBuiltins x = some (.type T)) (hg : Gl X x := by rfl) (hn : x ≠ "__name__" := by decide) (hd : (x == ("__debug__" : Str)) = false := by decide) : QE X (.Name x pos) (mC (.ty T)) := qe_const (pe_bltn (v := .ty T) hg hm hv rfl hn hd) fun _ => rep_ty.mpr rfl
/-- a module's text, number, address -/
theorem qe_gstr {z : Str} (hm : ∃ t, X.mg x = some (.str z t)) (hg : Gl X x := by rfl) (hd : (x == ("__debug__" : Str)) = false := by decide) : QE X (.Name x pos) (mC (.str z)) := by
  obtain ⟨t, h⟩ := hm
  exact qe_glob hg h (v := .str z) ⟨t, rfl⟩ (fun _ => rep_str.mpr rfl) hd
theorem qe_gint {z : Int} (hm : ∃ t, X.mg x = some (.int z t)) (hg : Gl X x := by rfl) (hd : (x == ("__debug__" : Str)) = false := by decide) : QE X (.Name x pos) (mC (.int z)) := by
  obtain ⟨t, h⟩ := hm
  exact qe_glob hg h (v := .int z) ⟨t, rfl⟩ (fun _ => rep_int.mpr rfl) hd
/-- a written dict of texts: what it answers -/
structure HasD (K : PySem.W.Frag) (w : World) (mg : Str → Option Value) (x : Str) (f : Str → Option W) : Prop where
  ex : ∃ d, mg x = some (.ref d) ∧ DTab K w d f
def mDT (f : Str → Option W) (ti : ME) : ME := fun E ρ Cs Q => ti E ρ Cs fun y C => ∃ z, y = .str z ∧ ∃ w, f z = some w ∧ Q w C
theorem qe_dt {f : Str → Option W} {i : Expr} {ti : ME} (D : HasD X.K X.w X.mg x f) (hi : QE X i ti) (hs : PlainIx i) (hg : Gl X x := by rfl) (hd : (x == ("__debug__" : Str)) = false := by decide) : QE X (.Subscript (.Name x p) i pos) (mDT f ti) := by
  obtain ⟨d, hm, T⟩ := D.ex
  refine fun Wx tk => pe_imp (pe_ix ix_kdict (pe_glob (v := .ref d) hg hm rfl hd) (hi Wx tk) hs) fun σ H Q' h => ?_
  obtain ⟨ρ, Cs, E, Q, R, C, h, kQ, kE⟩ := h
  exact ⟨ρ, Cs, E, _, R, C, h, fun y C2 vy H2 ⟨z, e1, w, e2, q⟩ tr2 rc2 ry => lk_ixD T (.ref d) y (.ref d) vy H2 C2 Q Q' ⟨rfl, z, w, e1, e2, q⟩ rc2 (rep_ref.mpr rfl) ry (Fin.mono kQ tr2), kE⟩
/-- a written dict of texts, asked by get -/
def mDTG (f : Str → Option W) (ti : ME) : ME := fun E ρ Cs Q => ti E ρ Cs fun y C => ∃ z, y = .str z ∧ Q ((f z).getD .non) C
theorem qe_dtget {f : Str → Option W} {e : Expr} {apos cpos p : Pos} {ti : ME} (D : HasD X.K X.w X.mg x f) (he : QE X e ti) (m : M1 X (.Name x p) "get" apos e cpos) (hg : Gl X x := by rfl) (hdb : (x == ("__debug__" : Str)) = false := by decide) : QE X (.Call (.Attribute (.Name x p) "get" apos) [e] [] cpos) (mDTG f ti) := by
  obtain ⟨d, hm, T⟩ := D.ex
  obtain ⟨es, n, L⟩ := T.lit
  refine fun Wx tk => ⟨fun pins s σ H Q' I h => ?_⟩
  obtain ⟨ρ, Cs, E, Q, R, C, h, kQ, kE⟩ := h
  have ho : PE X (.Name x p) _ := pe_glob (v := .ref d) hg hm rfl hdb
  refine wpAny_Call_method m.base m.few m.line PySem.F.plainAttrs_dict PySem.F.slot_dict_get PySem.F.type_dict_get (thn (ho.run pins s σ H (fun v H1 => v = .ref d ∧ H1 = H) I ⟨rfl, rfl⟩) fun u s1 ⟨y, H1, I1, ry, e1, e2⟩ => ?_)
  subst e1 e2
  obtain rfl : u = Value.ref d := ry
  have mp := PySem.W.mapOf_K (prog := X.prog) (w := X.w) I1.kIn L.at_ L.lit
  refine ⟨mp.typeIs, fun b q => by cases q; exact ⟨_, I1.kIn _ _ L.at_, rfl⟩, ?_⟩
  rw [m.trees]
  refine Calls.callWith_builtin rfl (Calls.evalArgs_plain (Calls.spliced_cons (thn ((he Wx tk).run pins s1 σ _ (fun v H2 => ∃ z, v = .str z ∧ ∀ u, rep X.K H2 ((f z).getD .non) u → Q' u H2) I1 ⟨ρ, Cs, E, fun y C => ∃ z, y = .str z ∧ Q ((f z).getD .non) C, R, C, h, fun w C2 v H2 ⟨z, e1, q⟩ tr rc r => ⟨z, by rw [e1] at r; exact rep_str.mp r, fun u r2 => kQ _ C2 u H2 q tr rc r2⟩, kE⟩) fun iv s2 ⟨y, H2, I2, ry, z, e1, q2⟩ => Calls.spliced_nil ?_)))
  subst e1
  obtain ⟨t, rfl⟩ := ry
  have mp2 := PySem.W.mapOf_K (prog := X.prog) (w := X.w) I2.kIn L.at_ L.lit
  refine call_meetsIn PySem.F.slot_dict_get mp2.typeIs PySem.F.entry_dict_get (PySem.F.args_dict_get_2 _ _) (meets_dict_get (PySem.strKind X.prog X.w) d (PySem.strKind_is X.prog X.w z t) L.low) ⟨_, mp2, ?_⟩
  cases hf : f z with
  | none =>
    rw [PySem.W.find_K L.at_ (T.non z hf)]
    rw [hf] at q2
    exact ⟨.non, H2, I2.tok _, rfl, q2 .non (rep_non.mpr rfl)⟩
  | some y =>
    obtain ⟨u, v, h1, h2, h3⟩ := T.get z y hf
    rw [PySem.W.find_K L.at_ h1]
    rw [hf] at q2
    exact ⟨v, H2, I2.tok _, h2, q2 v (h3 H2)⟩
end
end SL
namespace SL
open PySem PySem.Spec PyProof.Rows L2
theorem bt_len : bootBuiltins "len" = some (.builtin "len") := PySem.boot_len
theorem bt_min : bootBuiltins "min" = some (.builtin "min") := by rfl
theorem bt_max : bootBuiltins "max" = some (.builtin "max") := by rfl
theorem bt_sum : bootBuiltins "sum" = some (.builtin "sum") := by rfl
theorem bt_abs : bootBuiltins "abs" = some (.builtin "abs") := by rfl
theorem bt_all : bootBuiltins "all" = some (.builtin "all") := by rfl
theorem bt_any : bootBuiltins "any" = some (.builtin "any") := by rfl
theorem bt_sorted : bootBuiltins "sorted" = some (.builtin "sorted") := by rfl
theorem bt_repr : bootBuiltins "repr" = some (.builtin "repr") := by rfl
theorem bt_isinstance : bootBuiltins "isinstance" = some (.builtin "isinstance") := by rfl
theorem bt_int : bootBuiltins "int" = some (.type "int") := by rfl
theorem bt_str : bootBuiltins "str" = some (.type "str") := by rfl
theorem bt_bool : bootBuiltins "bool" = some (.type "bool") := by rfl
theorem bt_list : bootBuiltins "list" = some (.type "list") := by rfl
theorem bt_tuple : bootBuiltins "tuple" = some (.type "tuple") := by rfl
theorem bt_dict : bootBuiltins "dict" = some (.type "dict") := by rfl
theorem bt_set : bootBuiltins "set" = some (.type "set") := by rfl
/-! ### promises by the number of arguments -/
def sp1 (p : W → Cells → WK → XW → Prop) : SpW := fun ws Cs Q E => ∃ x, ws = [x] ∧ p x Cs Q E
def sp2 (p : W → W → Cells → WK → XW → Prop) : SpW := fun ws Cs Q E => ∃ x y, ws = [x, y] ∧ p x y Cs Q E
def sp3 (p : W → W → W → Cells → WK → XW → Prop) : SpW := fun ws Cs Q E => ∃ x y z, ws = [x, y, z] ∧ p x y z Cs Q E
def sp4 (p : W → W → W → W → Cells → WK → XW → Prop) : SpW := fun ws Cs Q E => ∃ x y z u, ws = [x, y, z, u] ∧ p x y z u Cs Q E
theorem len1 {p : W → Cells → WK → XW → Prop} : ∀ ws Cs Q E, sp1 p ws Cs Q E → ws.length = 1 := fun ws Cs Q E ⟨_, e, _⟩ => by rw [e]; rfl
theorem len2 {p : W → W → Cells → WK → XW → Prop} : ∀ ws Cs Q E, sp2 p ws Cs Q E → ws.length = 2 := fun ws Cs Q E ⟨_, _, e, _⟩ => by rw [e]; rfl
theorem len3 {p : W → W → W → Cells → WK → XW → Prop} : ∀ ws Cs Q E, sp3 p ws Cs Q E → ws.length = 3 := fun ws Cs Q E ⟨_, _, _, e, _⟩ => by rw [e]; rfl
theorem len4 {p : W → W → W → W → Cells → WK → XW → Prop} : ∀ ws Cs Q E, sp4 p ws Cs Q E → ws.length = 4 := fun ws Cs Q E ⟨_, _, _, _, e, _⟩ => by rw [e]; rfl
theorem sp1_iff {p : W → Cells → WK → XW → Prop} {x : W} {Cs : Cells} {Q : WK} {E : XW} : sp1 p [x] Cs Q E ↔ p x Cs Q E := ⟨fun ⟨a, e, h⟩ => by cases e; exact h, fun h => ⟨x, rfl, h⟩⟩
theorem sp2_iff {p : W → W → Cells → WK → XW → Prop} {x y : W} {Cs : Cells} {Q : WK} {E : XW} : sp2 p [x, y] Cs Q E ↔ p x y Cs Q E := ⟨fun ⟨a, b, e, h⟩ => by cases e; exact h, fun h => ⟨x, y, rfl, h⟩⟩
theorem sp3_iff {p : W → W → W → Cells → WK → XW → Prop} {x y z : W} {Cs : Cells} {Q : WK} {E : XW} : sp3 p [x, y, z] Cs Q E ↔ p x y z Cs Q E := ⟨fun ⟨a, b, c, e, h⟩ => by cases e; exact h, fun h => ⟨x, y, z, rfl, h⟩⟩
theorem sp4_iff {p : W → W → W → W → Cells → WK → XW → Prop} {x y z u : W} {Cs : Cells} {Q : WK} {E : XW} : sp4 p [x, y, z, u] Cs Q E ↔ p x y z u Cs Q E := ⟨fun ⟨a, b, c, d, e, h⟩ => by cases e; exact h, fun h => ⟨x, y, z, u, rfl, h⟩⟩
/-! ### the law's head -/
theorem len_law : ∀ ws Cs Q E, spLawW ws Cs Q E → ws.length = 1 := fun ws Cs Q E ⟨_, _, e, _⟩ => by rw [e]; rfl
theorem okL {P : Program} {w : World} {K : PySem.W.Frag} {mg : Str → Option Value} {fa : Addr} {st : Stmt} {N : List Str} {k : Nat} {t : MS} (h : Has K mg "law" st) (S : FnScope N ["script"] (defScope st)) (hmg : mg "law" = some (.ref fa))
    (bind : ∀ (kV doc pm : Value) (an : Option Addr) (cdv ct : Value) (u : Value), bindArgs (PySem.W.fnOf "law" "law" (defArgs st) (defBody st) (defScope st) .none kV doc pm an cdv ct) { pos := [u] } = pure [(("script" : Str), u)])
    (der : ∀ (base : Heap) (f : Addr) (cdv : Value) (A : Around) (outer : List Env) (s : Shared) (H : Hp) (E : XK), Room k (A.deeper (envOfC "law" (defScope st) s.heap.objs.size f cdv)) → A.guards = some [] →
      QSs (cxOf (L2.CX P w) P w K mg base N "law" (defScope st) f cdv A outer s H E) (defBody st) t)
    (pure : ∀ ws Cs Q E, spLawW ws Cs Q E → t (EndsD Q E) (rho0 ws) Cs) :
    ∃ fd : FuncData, (∀ (s : Shared) (u : Value), BindsTo s fd ⟨[u], []⟩ [("script", u)]) ∧ ∀ base : Heap, K.In base → base.Ns mainGlobals mg → FnG P w K mg base (k + 1) fa fd ["script"] (spOf K spLawW) := by
  obtain ⟨f, fd, hm, F⟩ := h.ex
  have e := hmg.symm.trans hm
  cases e
  refine ⟨fd, fun s u => ?_, fun base _ _ => okS F S len_law (der base fa) pure⟩
  obtain ⟨oc, od, kV, doc, pm, an, cdv, ct, osl, e, _⟩ := F.ex
  rw [e]
  exact .of_eq (bind kV doc pm an cdv ct u)
/-! ### the source of drawn numbers -/
structure SrcS where
  p : Addr
  digs : List Int
  cur : Int
  mix : Int
  cnt : Int
def SrcS.at_ (S : SrcS) (q : Addr) : Cells := [(q, .lst [.ref S.p, .int S.cur, .int S.mix, .int S.cnt]), (S.p, .lst (S.digs.map W.int))]
structure SrcS.ok (S : SrcS) (N : Nat) : Prop where
  c0 : 0 ≤ S.cnt
  c1 : S.cnt ≤ N
  m0 : 0 ≤ S.mix
  m1 : S.mix < 2305843009213693951
/-! ### little steps -/
theorem Part.here {Cs : Cells} : Part Cs Cs := inferInstance
theorem mty_l {a : Addr} {Cs : Cells} {ws : List W} [h : At a Cs (.lst ws)] : mtyW "list" (.ref a) Cs := .inr (.inl ⟨a, ws, rfl, rfl, h.mem⟩)
theorem mty_lm {a : Addr} {Cs : Cells} {ws : List W} (h : (a, MO.lst ws) ∈ Cs) : mtyW "list" (.ref a) Cs := .inr (.inl ⟨a, ws, rfl, rfl, h⟩)
theorem mty_d {a : Addr} {Cs : Cells} {ws} [h : At a Cs (.dic ws)] : mtyW "dict" (.ref a) Cs := .inr (.inr (.inl ⟨a, ws, rfl, rfl, h.mem⟩))
theorem mty_t {Cs : Cells} {ws : List W} : mtyW "list" (.ls ws) Cs := .inr (.inr (.inr ⟨ws, rfl, rfl⟩))
theorem mty_s {z : Str} {Cs : Cells} : mtyW "str" (.str z) Cs := .inl ⟨z, rfl, rfl⟩
theorem mutL_i {g : List W → List W → Option (W × List W)} {a : Addr} {ws xs us : List W} {y : W} {Cs Ds : Cells} {Q : WK} [t : Take a Cs (.lst ws) Ds] (hg : g ws xs = some (y, us)) (h : Q y ((a, .lst us) :: Ds)) : qMutL g (.ref a) xs Cs Q := ⟨a, ws, Ds, y, us, rfl, t.perm, hg, h⟩
theorem append_i {a : Addr} {ws : List W} {y : W} {Cs Ds : Cells} {Q : WK} [t : Take a Cs (.lst ws) Ds] (hl : ws.length < 100000) (h : Q .non ((a, .lst (ws ++ [y])) :: Ds)) : qMutL gAppend (.ref a) [y] Cs Q := mutL_i (by unfold gAppend; dsimp only; rw [if_pos hl]) h
theorem setL_i {a : Addr} {j : Int} {ws : List W} {v : W} {Cs Ds : Cells} {Q : Cells → Prop} [t : Take a Cs (.lst ws) Ds] (h0 : 0 ≤ j) (h1 : j < ws.length) (h : Q ((a, .lst (ws.set j.toNat v)) :: Ds)) : qSetL (.ref a) (.int j) v Cs Q := ⟨a, j, ws, Ds, rfl, rfl, t.perm, h0, h1, h⟩
/-- an object's list, from a place in the world -/
theorem lsAt_i {a : Addr} {Cs : Cells} {ws : List W} [h : At a Cs (.lst ws)] : LsAt a ws Cs := h.mem
theorem ex_lsAt {a : Addr} {Cs : Cells} {ws : List W} {R : List W → Prop} [h : At a Cs (.lst ws)] (r : R ws) : ∃ ws, LsAt a ws Cs ∧ R ws := ⟨ws, h.mem, r⟩
theorem powA {i j : Int} (h0 : 0 ≤ j) {n : Nat} (hn : i.natAbs < 2 ^ n) (h : (n : Int) * j ≤ 134217728) : CPowA i j := by
  refine ⟨h0, Int.le_trans ?_ (by simpa using h)⟩
  refine Int.mul_le_mul_of_nonneg_right ?_ h0
  unfold Builtin.Int.intBits
  split
  · exact Int.natCast_nonneg n
  · next hz =>
    have : i.natAbs ≠ 0 := by
      intro z
      apply hz
      rw [Int.natAbs_eq_zero.mp z]
      rfl
    have := (Nat.log2_lt this).mpr hn
    omega
theorem mul64 {i j : Int} (h : -18446744073709551616 < i) (h' : i < 18446744073709551616) : CMulA i j := .inl (.inl ⟨by simpa using h, by simpa using h'⟩)
theorem mul64r {i j : Int} (h : -18446744073709551616 < j) (h' : j < 18446744073709551616) : CMulA i j := .inl (.inr ⟨by simpa using h, by simpa using h'⟩)
theorem fdivOk {j : Int} (h : 0 < j) {n : Nat} (hn : j.natAbs < 2 ^ n) (h9 : n ≤ 9000) : 0 < j ∧ j.natAbs.log2 < 9000 := ⟨h, Nat.lt_of_lt_of_le ((Nat.log2_lt (by omega)).mpr hn) h9⟩
theorem pw_2_61 : CPowA 2 61 = True := eq_true (powA (by decide) (n := 2) (by decide) (by decide))
theorem pw_10_18 : CPowA 10 18 = True := eq_true (powA (by decide) (n := 4) (by decide) (by decide))
theorem pw_10_30 : CPowA 10 30 = True := eq_true (powA (by decide) (n := 4) (by decide) (by decide))
theorem pw_10_29 : CPowA 10 29 = True := eq_true (powA (by decide) (n := 4) (by decide) (by decide))
theorem pw_10_28 : CPowA 10 28 = True := eq_true (powA (by decide) (n := 4) (by decide) (by decide))
theorem pw_10_40 : CPowA 10 40 = True := eq_true (powA (by decide) (n := 4) (by decide) (by decide))
theorem pw_10_6 : CPowA 10 6 = True := eq_true (powA (by decide) (n := 4) (by decide) (by decide))
theorem pw_10_9 : CPowA 10 9 = True := eq_true (powA (by decide) (n := 4) (by decide) (by decide))
theorem lg_128 : ((Int.natAbs 128).log2 < 9000) = True := eq_true (by decide)
/-! ### operators, one row for each kind -/
section
variable {i j k : Int} {x y : Str} {a b c : Addr} {ws us : List W} {Cs : Cells} {Q : WK} {g h : Bool} {w z : W} {E : XW} {lo hi : Option Int}
theorem uAdd_i : uAdd (.int i) (.int j) Cs Q = Q (.int (i + j)) Cs := rfl
theorem uAdd_s : uAdd (.str x) (.str y) Cs Q = (x.length + y.length ≤ sizeLine ∧ Q (.str (x ++ y)) Cs) := rfl
theorem uAdd_l : uAdd (.ref a) (.ref b) Cs Q = ∃ ws us, LsAt a ws Cs ∧ LsAt b us Cs ∧ ws.length + us.length ≤ 100000 ∧ ∀ p, Q (.ref p) ((p, .lst (ws ++ us)) :: Cs) := rfl
theorem LsV_r : LsV (.ref a) ws Cs = LsAt a ws Cs := rfl
theorem LsV_l : LsV (.ls us) ws Cs = (ws = us) := propext ⟨fun h => Eq.symm h, fun h => Eq.symm h⟩
theorem uAdd_ll : uAdd (.ls ws) (.ls us) Cs Q = (ws.length + us.length ≤ 100000 ∧ ∀ p, Q (.ref p) ((p, .lst (ws ++ us)) :: Cs)) := propext ⟨fun ⟨_, _, e1, e2, h⟩ => by cases e1; cases e2; exact h, fun h => ⟨ws, us, rfl, rfl, h⟩⟩
theorem uAdd_rl : uAdd (.ref a) (.ls us) Cs Q = ∃ ws, LsAt a ws Cs ∧ ws.length + us.length ≤ 100000 ∧ ∀ p, Q (.ref p) ((p, .lst (ws ++ us)) :: Cs) := propext ⟨fun ⟨_, _, e1, e2, h⟩ => by cases e2; exact ⟨_, e1, h⟩, fun ⟨ws, e, h⟩ => ⟨ws, us, e, rfl, h⟩⟩
theorem uAdd_lr : uAdd (.ls us) (.ref a) Cs Q = ∃ ws, LsAt a ws Cs ∧ us.length + ws.length ≤ 100000 ∧ ∀ p, Q (.ref p) ((p, .lst (us ++ ws)) :: Cs) := propext ⟨fun ⟨_, _, e1, e2, h⟩ => by cases e1; exact ⟨_, e2, h⟩, fun ⟨ws, e, h⟩ => ⟨us, ws, rfl, e, h⟩⟩
theorem uMul_i : uMul (.int i) (.int j) Cs Q = (CMulA i j ∧ Q (.int (i * j)) Cs) := rfl
theorem uMul_l : uMul (.ref a) (.int k) Cs Q = ∃ ws, LsAt a ws Cs ∧ (-9223372036854775808 ≤ k ∧ k < 9223372036854775808) ∧ ws.length * k.toNat ≤ 100000 ∧ ∀ p, Q (.ref p) ((p, .lst (List.replicate k.toNat ws).flatten) :: Cs) := rfl
theorem uEq_ll : uEq (.ls ws) (.ls us) Cs Q = qEqD (.ls ws) (.ls us) Cs Q := rfl
theorem uEq_lt : uEq (.ls ws) (.tup us) Cs Q = qEqD (.ls ws) (.tup us) Cs Q := rfl
theorem uEq_lr : uEq (.ls ws) (.ref a) Cs Q = qEqD (.ls ws) (.ref a) Cs Q := rfl
theorem uEq_ln : uEq (.ls ws) (.non) Cs Q = qEqD (.ls ws) (.non) Cs Q := rfl
theorem uEq_li : uEq (.ls ws) (.int i) Cs Q = qEqD (.ls ws) (.int i) Cs Q := rfl
theorem uEq_ls : uEq (.ls ws) (.str x) Cs Q = qEqD (.ls ws) (.str x) Cs Q := rfl
theorem uEq_lb : uEq (.ls ws) (.bl g) Cs Q = qEqD (.ls ws) (.bl g) Cs Q := rfl
theorem uEq_tl : uEq (.tup ws) (.ls us) Cs Q = qEqD (.tup ws) (.ls us) Cs Q := rfl
theorem uEq_ti : uEq (.tup ws) (.int i) Cs Q = qEqD (.tup ws) (.int i) Cs Q := rfl
theorem uEq_ts : uEq (.tup ws) (.str x) Cs Q = qEqD (.tup ws) (.str x) Cs Q := rfl
theorem uEq_tb : uEq (.tup ws) (.bl g) Cs Q = qEqD (.tup ws) (.bl g) Cs Q := rfl
theorem uEq_rl : uEq (.ref a) (.ls us) Cs Q = qEqD (.ref a) (.ls us) Cs Q := rfl
theorem uEq_rn : uEq (.ref a) (.non) Cs Q = qEqD (.ref a) (.non) Cs Q := rfl
theorem uEq_ri : uEq (.ref a) (.int i) Cs Q = qEqD (.ref a) (.int i) Cs Q := rfl
theorem uEq_rs : uEq (.ref a) (.str x) Cs Q = qEqD (.ref a) (.str x) Cs Q := rfl
theorem uEq_rb : uEq (.ref a) (.bl g) Cs Q = qEqD (.ref a) (.bl g) Cs Q := rfl
theorem uEq_nl : uEq (.non) (.ls us) Cs Q = qEqD (.non) (.ls us) Cs Q := rfl
theorem uEq_nr : uEq (.non) (.ref a) Cs Q = qEqD (.non) (.ref a) Cs Q := rfl
theorem uEq_il : uEq (.int i) (.ls us) Cs Q = qEqD (.int i) (.ls us) Cs Q := rfl
theorem uEq_it : uEq (.int i) (.tup us) Cs Q = qEqD (.int i) (.tup us) Cs Q := rfl
theorem uEq_ir : uEq (.int i) (.ref a) Cs Q = qEqD (.int i) (.ref a) Cs Q := rfl
theorem uEq_sl : uEq (.str x) (.ls us) Cs Q = qEqD (.str x) (.ls us) Cs Q := rfl
theorem uEq_st : uEq (.str x) (.tup us) Cs Q = qEqD (.str x) (.tup us) Cs Q := rfl
theorem uEq_sr : uEq (.str x) (.ref a) Cs Q = qEqD (.str x) (.ref a) Cs Q := rfl
theorem uEq_bl : uEq (.bl g) (.ls us) Cs Q = qEqD (.bl g) (.ls us) Cs Q := rfl
theorem uEq_bt : uEq (.bl g) (.tup us) Cs Q = qEqD (.bl g) (.tup us) Cs Q := rfl
theorem uEq_br : uEq (.bl g) (.ref a) Cs Q = qEqD (.bl g) (.ref a) Cs Q := rfl
theorem uNe_ll : uNe (.ls ws) (.ls us) Cs Q = qNeD (.ls ws) (.ls us) Cs Q := rfl
theorem uNe_lt : uNe (.ls ws) (.tup us) Cs Q = qNeD (.ls ws) (.tup us) Cs Q := rfl
theorem uNe_lr : uNe (.ls ws) (.ref a) Cs Q = qNeD (.ls ws) (.ref a) Cs Q := rfl
theorem uNe_ln : uNe (.ls ws) (.non) Cs Q = qNeD (.ls ws) (.non) Cs Q := rfl
theorem uNe_li : uNe (.ls ws) (.int i) Cs Q = qNeD (.ls ws) (.int i) Cs Q := rfl
theorem uNe_ls : uNe (.ls ws) (.str x) Cs Q = qNeD (.ls ws) (.str x) Cs Q := rfl
theorem uNe_lb : uNe (.ls ws) (.bl g) Cs Q = qNeD (.ls ws) (.bl g) Cs Q := rfl
theorem uNe_tl : uNe (.tup ws) (.ls us) Cs Q = qNeD (.tup ws) (.ls us) Cs Q := rfl
theorem uNe_ti : uNe (.tup ws) (.int i) Cs Q = qNeD (.tup ws) (.int i) Cs Q := rfl
theorem uNe_ts : uNe (.tup ws) (.str x) Cs Q = qNeD (.tup ws) (.str x) Cs Q := rfl
theorem uNe_tb : uNe (.tup ws) (.bl g) Cs Q = qNeD (.tup ws) (.bl g) Cs Q := rfl
theorem uNe_rl : uNe (.ref a) (.ls us) Cs Q = qNeD (.ref a) (.ls us) Cs Q := rfl
theorem uNe_rn : uNe (.ref a) (.non) Cs Q = qNeD (.ref a) (.non) Cs Q := rfl
theorem uNe_ri : uNe (.ref a) (.int i) Cs Q = qNeD (.ref a) (.int i) Cs Q := rfl
theorem uNe_rs : uNe (.ref a) (.str x) Cs Q = qNeD (.ref a) (.str x) Cs Q := rfl
theorem uNe_rb : uNe (.ref a) (.bl g) Cs Q = qNeD (.ref a) (.bl g) Cs Q := rfl
theorem uNe_nl : uNe (.non) (.ls us) Cs Q = qNeD (.non) (.ls us) Cs Q := rfl
theorem uNe_nr : uNe (.non) (.ref a) Cs Q = qNeD (.non) (.ref a) Cs Q := rfl
theorem uNe_il : uNe (.int i) (.ls us) Cs Q = qNeD (.int i) (.ls us) Cs Q := rfl
theorem uNe_it : uNe (.int i) (.tup us) Cs Q = qNeD (.int i) (.tup us) Cs Q := rfl
theorem uNe_ir : uNe (.int i) (.ref a) Cs Q = qNeD (.int i) (.ref a) Cs Q := rfl
theorem uNe_sl : uNe (.str x) (.ls us) Cs Q = qNeD (.str x) (.ls us) Cs Q := rfl
theorem uNe_st : uNe (.str x) (.tup us) Cs Q = qNeD (.str x) (.tup us) Cs Q := rfl
theorem uNe_sr : uNe (.str x) (.ref a) Cs Q = qNeD (.str x) (.ref a) Cs Q := rfl
theorem uNe_bl : uNe (.bl g) (.ls us) Cs Q = qNeD (.bl g) (.ls us) Cs Q := rfl
theorem uNe_bt : uNe (.bl g) (.tup us) Cs Q = qNeD (.bl g) (.tup us) Cs Q := rfl
theorem uNe_br : uNe (.bl g) (.ref a) Cs Q = qNeD (.bl g) (.ref a) Cs Q := rfl
theorem uMul_ls : uMul (.ls us) (.int k) Cs Q = ((-9223372036854775808 ≤ k ∧ k < 9223372036854775808) ∧ us.length * k.toNat ≤ 100000 ∧ ∀ p, Q (.ref p) ((p, .lst (List.replicate k.toNat us).flatten) :: Cs)) := propext ⟨fun ⟨_, e1, h⟩ => by cases e1; exact h, fun h => ⟨us, rfl, h⟩⟩
theorem uEq_ii : uEq (.int i) (.int j) Cs Q = Q (.bl (decide (i = j))) Cs := rfl
theorem uEq_ss : uEq (.str x) (.str y) Cs Q = Q (.bl (decide (x = y))) Cs := rfl
theorem uEq_bb : uEq (.bl g) (.bl h) Cs Q = Q (.bl (decide (g = h))) Cs := rfl
theorem uEq_nn : uEq .non .non Cs Q = Q (.bl true) Cs := rfl
theorem uEq_ni : uEq .non (.int j) Cs Q = Q (.bl false) Cs := rfl
theorem uEq_in : uEq (.int i) .non Cs Q = Q (.bl false) Cs := rfl
theorem uEq_ns : uEq .non (.str y) Cs Q = Q (.bl false) Cs := rfl
theorem uEq_sn : uEq (.str x) .non Cs Q = Q (.bl false) Cs := rfl
theorem uEq_is : uEq (.int i) (.str y) Cs Q = Q (.bl false) Cs := rfl
theorem uEq_si : uEq (.str x) (.int j) Cs Q = Q (.bl false) Cs := rfl
theorem uEq_rr : uEq (.ref a) (.ref b) Cs Q = qEqD (.ref a) (.ref b) Cs Q := rfl
theorem uEq_tt : uEq (.tup ws) (.tup us) Cs Q = qEqD (.tup ws) (.tup us) Cs Q := rfl
theorem uEq_rt : uEq (.ref a) (.tup us) Cs Q = qEqD (.ref a) (.tup us) Cs Q := rfl
theorem uEq_tr : uEq (.tup ws) (.ref a) Cs Q = qEqD (.tup ws) (.ref a) Cs Q := rfl
theorem uEq_tn : uEq (.tup ws) .non Cs Q = qEqD (.tup ws) .non Cs Q := rfl
theorem uEq_nt : uEq .non (.tup ws) Cs Q = qEqD .non (.tup ws) Cs Q := rfl
theorem uNe_ii : uNe (.int i) (.int j) Cs Q = Q (.bl (!decide (i = j))) Cs := rfl
theorem uNe_ss : uNe (.str x) (.str y) Cs Q = Q (.bl (!decide (x = y))) Cs := rfl
theorem uNe_bb : uNe (.bl g) (.bl h) Cs Q = Q (.bl (!decide (g = h))) Cs := rfl
theorem uNe_nn : uNe .non .non Cs Q = Q (.bl false) Cs := rfl
theorem uNe_ni : uNe .non (.int j) Cs Q = Q (.bl true) Cs := rfl
theorem uNe_in : uNe (.int i) .non Cs Q = Q (.bl true) Cs := rfl
theorem uNe_ns : uNe .non (.str y) Cs Q = Q (.bl true) Cs := rfl
theorem uNe_sn : uNe (.str x) .non Cs Q = Q (.bl true) Cs := rfl
theorem uNe_is : uNe (.int i) (.str y) Cs Q = Q (.bl true) Cs := rfl
theorem uNe_si : uNe (.str x) (.int j) Cs Q = Q (.bl true) Cs := rfl
theorem uNe_rr : uNe (.ref a) (.ref b) Cs Q = qNeD (.ref a) (.ref b) Cs Q := rfl
theorem uNe_tt : uNe (.tup ws) (.tup us) Cs Q = qNeD (.tup ws) (.tup us) Cs Q := rfl
theorem uNe_rt : uNe (.ref a) (.tup us) Cs Q = qNeD (.ref a) (.tup us) Cs Q := rfl
theorem uNe_tr : uNe (.tup ws) (.ref a) Cs Q = qNeD (.tup ws) (.ref a) Cs Q := rfl
theorem uNe_tn : uNe (.tup ws) .non Cs Q = qNeD (.tup ws) .non Cs Q := rfl
theorem uNe_nt : uNe .non (.tup ws) Cs Q = qNeD .non (.tup ws) Cs Q := rfl
theorem uIn_t : uIn g w (.tup ws) Cs Q = (flatW w = true ∧ ws.all flatW = true ∧ Q (.bl (if g then !win w ws else win w ws)) Cs) := rfl
theorem uIn_r : uIn g w (.ref a) Cs Q = ∃ ws, LsAt a ws Cs ∧ flatW w = true ∧ ws.all flatW = true ∧ Q (.bl (if g then !win w ws else win w ws)) Cs := rfl
theorem uIn_l : uIn g w (.ls us) Cs Q = (flatW w = true ∧ us.all flatW = true ∧ Q (.bl (if g then !win w us else win w us)) Cs) := propext ⟨fun ⟨_, e1, h⟩ => by cases e1; exact h, fun h => ⟨us, rfl, h⟩⟩
theorem uIx_t : uIx (.tup ws) (.int i) Cs Q = ∃ w, nth ws i = some w ∧ Q w Cs := rfl
theorem uIx_r : uIx (.ref a) (.int i) Cs Q = ∃ ws w, LsAt a ws Cs ∧ nth ws i = some w ∧ Q w Cs := rfl
theorem uIx_c : uIx (.cst a ws) (.int i) Cs Q = ∃ w, nth ws i = some w ∧ Q w Cs := rfl
theorem uIx_l : uIx (.ls ws) (.int i) Cs Q = ∃ w, nth ws i = some w ∧ Q w Cs := rfl
theorem uIx_s : uIx (.str x) (.int i) Cs Q = ∃ c, x.length ≤ sizeLine ∧ atI x.cps.toList i = some c ∧ Q (.str ⟨#[c]⟩) Cs := rfl
theorem uLen_c : uLen [.cst a ws] Cs Q = Q (.int (ws.length : Nat)) Cs := rfl
theorem uLen_l : uLen [.ls ws] Cs Q = Q (.int (ws.length : Nat)) Cs := rfl
theorem uLen_r : uLen [.ref a] Cs Q = ∃ ws, LsAt a ws Cs ∧ Q (.int (ws.length : Nat)) Cs := rfl
theorem uLen_t : uLen [.tup ws] Cs Q = Q (.int (ws.length : Nat)) Cs := rfl
theorem uLen_s : uLen [.str x] Cs Q = (x.length ≤ sizeLine ∧ Q (.int (x.length : Nat)) Cs) := rfl
theorem uMin_i : uMin [.int i, .int j] Cs Q = Q (.int (if j < i then j else i)) Cs := rfl
theorem uMin_r : uMin [.ref a] Cs Q = ∃ ns : List Int, LsAt a (ns.map W.int) Cs ∧ 0 < ns.length ∧ ∀ m, m ∈ ns → (∀ y, y ∈ ns → m ≤ y) → Q (.int m) Cs := rfl
theorem uMin_l : uMin [.ls us] Cs Q = ∃ ns : List Int, ns.map W.int = us ∧ 0 < ns.length ∧ ∀ m, m ∈ ns → (∀ y, y ∈ ns → m ≤ y) → Q (.int m) Cs := propext ⟨fun ⟨n, e, h⟩ => ⟨n, Eq.symm e, h⟩, fun ⟨n, e, h⟩ => ⟨n, Eq.symm e, h⟩⟩
theorem uMax_i : uMax [.int i, .int j] Cs Q = Q (.int (if j > i then j else i)) Cs := rfl
theorem uMax_r : uMax [.ref a] Cs Q = ∃ ns : List Int, LsAt a (ns.map W.int) Cs ∧ 0 < ns.length ∧ ∀ m, m ∈ ns → (∀ y, y ∈ ns → y ≤ m) → Q (.int m) Cs := rfl
theorem uMax_l : uMax [.ls us] Cs Q = ∃ ns : List Int, ns.map W.int = us ∧ 0 < ns.length ∧ ∀ m, m ∈ ns → (∀ y, y ∈ ns → y ≤ m) → Q (.int m) Cs := propext ⟨fun ⟨n, e, h⟩ => ⟨n, Eq.symm e, h⟩, fun ⟨n, e, h⟩ => ⟨n, Eq.symm e, h⟩⟩
theorem uInt_b : uInt [.bl g] Cs Q = Q (.int (if g then 1 else 0)) Cs := rfl
theorem uInt_i : uInt [.int i] Cs Q = Q (.int i) Cs := rfl
theorem uInt_s : uInt [.str x] Cs Q = ∃ n, PySem.intText? x = some n ∧ x.length ≤ 640 ∧ Q (.int n) Cs := rfl
theorem uList_r : uList [.ref a] Cs Q = ∃ ws, LsAt a ws Cs ∧ ∀ p, Q (.ref p) ((p, .lst ws) :: Cs) := rfl
theorem uList_l : uList [.ls ws] Cs Q = ∀ p, Q (.ref p) ((p, .lst ws) :: Cs) := rfl
theorem uList_t : uList [.tup ws] Cs Q = ∀ p, Q (.ref p) ((p, .lst ws) :: Cs) := rfl
theorem uIsi_n {c : String} : uIsi [.non, .ty c] Cs Q = ∃ t b, t = "NoneType" ∧ kitB t c = some b ∧ Q (.bl b) Cs := rfl
theorem uIsi_b {c : String} : uIsi [.bl g, .ty c] Cs Q = ∃ t b, t = "bool" ∧ kitB t c = some b ∧ Q (.bl b) Cs := rfl
theorem uIsi_i {c : String} : uIsi [.int i, .ty c] Cs Q = ∃ t b, t = "int" ∧ kitB t c = some b ∧ Q (.bl b) Cs := rfl
theorem uIsi_s {c : String} : uIsi [.str x, .ty c] Cs Q = ∃ t b, t = "str" ∧ kitB t c = some b ∧ Q (.bl b) Cs := rfl
theorem uIsi_t {c : String} : uIsi [.tup ws, .ty c] Cs Q = ∃ t b, t = "tuple" ∧ kitB t c = some b ∧ Q (.bl b) Cs := rfl
theorem uIsi_c {c : String} : uIsi [.cst a ws, .ty c] Cs Q = ∃ t b, t = "list" ∧ kitB t c = some b ∧ Q (.bl b) Cs := rfl
theorem uSl_c : uSl (.cst a ws) lo hi Cs Q = ∀ p, Q (.ref p) ((p, .lst (cutW ws lo hi)) :: Cs) := rfl
theorem uIsi_l {c : String} : uIsi [.ls ws, .ty c] Cs Q = ∃ t b, t = "list" ∧ kitB t c = some b ∧ Q (.bl b) Cs := rfl
theorem uSl_l : uSl (.ls ws) lo hi Cs Q = ∀ p, Q (.ref p) ((p, .lst (cutW ws lo hi)) :: Cs) := rfl
theorem uSl_t : uSl (.tup ws) lo hi Cs Q = Q (.tup (cutW ws lo hi)) Cs := rfl
theorem uSl_r : uSl (.ref a) lo hi Cs Q = ∃ ws, LsAt a ws Cs ∧ ∀ p, Q (.ref p) ((p, .lst (cutW ws lo hi)) :: Cs) := rfl
theorem uSl_s : uSl (.str x) lo hi Cs Q = (x.length ≤ sizeLine ∧ Q (.str (cutS x lo hi)) Cs) := rfl
theorem iOf_r {R : Wk → Cells → Prop} : iOf (.ref a) Cs R = ∃ ws, LsAt a ws Cs ∧ R ⟨ws.length, LsAt a ws, fun i w => ws[i]? = some w⟩ Cs := rfl
theorem iOf_c {R : Wk → Cells → Prop} : iOf (.cst a ws) Cs R = R ⟨ws.length, fun _ => True, fun i w => ws[i]? = some w⟩ Cs := rfl
theorem iOf_l {R : Wk → Cells → Prop} : iOf (.ls ws) Cs R = R ⟨ws.length, fun _ => True, fun i w => ws[i]? = some w⟩ Cs := rfl
theorem iEn_r {R : Wk → Cells → Prop} : iEn [.ref a] Cs R = ∃ ws, LsAt a ws Cs ∧ R ⟨ws.length, LsAt a ws, fun i w => ∃ u, ws[i]? = some u ∧ w = .tup [.int (i : Nat), u]⟩ Cs := rfl
theorem iEn_l {R : Wk → Cells → Prop} : iEn [.ls ws] Cs R = R ⟨ws.length, fun _ => True, fun i w => ∃ u, ws[i]? = some u ∧ w = .tup [.int (i : Nat), u]⟩ Cs := rfl
theorem isNon_l : isNon (.ls ws) = false := rfl
theorem isNon_n : isNon .non = true := rfl
theorem isNon_i : isNon (.int i) = false := rfl
theorem isNon_s : isNon (.str x) = false := rfl
theorem isNon_b : isNon (.bl g) = false := rfl
theorem isNon_t : isNon (.tup ws) = false := rfl
theorem isNon_r : isNon (.ref a) = false := rfl
theorem flat_s : flatW (.str x) = true := rfl
theorem flat_i : flatW (.int i) = true := rfl
theorem flat_b : flatW (.bl g) = true := rfl
theorem flat_n : flatW .non = true := rfl
theorem weq_ss : weq (.str x) (.str y) = decide (x = y) := by
  show (x == y) = _
  by_cases h : x = y
  · rw [h, decide_eq_true rfl]; exact beq_self_eq_true y
  · rw [decide_eq_false h]; exact beq_false_of_ne h

theorem weq_ii : weq (.int i) (.int j) = decide (i = j) := rfl
theorem weq_ni : weq .non (.int j) = false := rfl
theorem weq_in : weq (.int j) .non = false := rfl
theorem weq_nn : weq .non .non = true := rfl
theorem kb_bb : kitB "bool" "bool" = some true := by decide +kernel
theorem kb_bi : kitB "bool" "int" = some true := by decide +kernel
theorem kb_bs : kitB "bool" "str" = some false := by decide +kernel
theorem kb_bl : kitB "bool" "list" = some false := by decide +kernel
theorem kb_bt : kitB "bool" "tuple" = some false := by decide +kernel
theorem kb_ib : kitB "int" "bool" = some false := by decide +kernel
theorem kb_ii : kitB "int" "int" = some true := by decide +kernel
theorem kb_is : kitB "int" "str" = some false := by decide +kernel
theorem kb_il : kitB "int" "list" = some false := by decide +kernel
theorem kb_it : kitB "int" "tuple" = some false := by decide +kernel
theorem kb_sb : kitB "str" "bool" = some false := by decide +kernel
theorem kb_si : kitB "str" "int" = some false := by decide +kernel
theorem kb_ss : kitB "str" "str" = some true := by decide +kernel
theorem kb_sl : kitB "str" "list" = some false := by decide +kernel
theorem kb_st : kitB "str" "tuple" = some false := by decide +kernel
theorem kb_lb : kitB "list" "bool" = some false := by decide +kernel
theorem kb_li : kitB "list" "int" = some false := by decide +kernel
theorem kb_ls : kitB "list" "str" = some false := by decide +kernel
theorem kb_ll : kitB "list" "list" = some true := by decide +kernel
theorem kb_lt : kitB "list" "tuple" = some false := by decide +kernel
theorem kb_tb : kitB "tuple" "bool" = some false := by decide +kernel
theorem kb_ti : kitB "tuple" "int" = some false := by decide +kernel
theorem kb_ts : kitB "tuple" "str" = some false := by decide +kernel
theorem kb_tl : kitB "tuple" "list" = some false := by decide +kernel
theorem kb_tt : kitB "tuple" "tuple" = some true := by decide +kernel
theorem kb_nb : kitB "NoneType" "bool" = some false := by decide +kernel
theorem kb_ni : kitB "NoneType" "int" = some false := by decide +kernel
theorem kb_ns : kitB "NoneType" "str" = some false := by decide +kernel
theorem kb_nl : kitB "NoneType" "list" = some false := by decide +kernel
theorem kb_nt : kitB "NoneType" "tuple" = some false := by decide +kernel
theorem nth0 : nth (w :: ws) 0 = some w := rfl
theorem nth1 : nth (w :: z :: ws) 1 = some z := rfl
theorem nth2 {u : W} : nth (w :: z :: u :: ws) 2 = some u := rfl
theorem nth3 {u v : W} : nth (w :: z :: u :: v :: ws) 3 = some v := rfl
/-- the i-th of a list, i told as a whole number -/
theorem nth_nat {α : Type} {ws : List α} {i : Int} (h0 : 0 ≤ i) (h1 : i < ws.length) : nth ws i = some (ws[i.toNat]'(by omega)) := by
  unfold nth
  rw [if_pos h0, List.getElem?_eq_getElem]
theorem nth_get {α : Type} {ws : List α} {n : Nat} : nth ws (n : Int) = ws[n]? := by
  unfold nth
  rw [if_pos (Int.natCast_nonneg n), Int.toNat_natCast]
end
/-! ### loops, closed -/
def forB (g : MG) (tb : MS) (D : EndsW) (ρ : Rho) (k : Wk) (C1 : Cells) : Prop := ∃ Pv : Nat → Rho → Cells → Prop, (∃ C0, Part C0 C1 ∧ Pv 0 ρ C0) ∧ (∀ i ρ' C', i ≤ k.n → Pv i ρ' C' → k.keep C') ∧
  (∀ i w ρ' C', i < k.n → k.it i w → Pv i ρ' C' → g ρ' w C' fun ρ2 C2 => tb (D.turn (Pv (i + 1))) ρ2 C2) ∧ (∀ ρ' C', Pv k.n ρ' C' → D.nx ρ' C')
theorem sFor_eq {mi : MI} {g : MG} {tb : MS} {D : EndsW} {ρ : Rho} {Cs : Cells} : sFor mi g tb D ρ Cs = mi (fun C w Cs => D.ex C w ρ Cs) ρ Cs (forB g tb D ρ) := rfl
theorem forB_i {g : MG} {tb : MS} {D : EndsW} {ρ : Rho} {k : Wk} {C1 : Cells} (Pv : Nat → Rho → Cells → Prop) (h0 : Pv 0 ρ C1) (hk : ∀ i ρ' C', i ≤ k.n → Pv i ρ' C' → k.keep C')
    (ht : ∀ i w ρ' C', i < k.n → k.it i w → Pv i ρ' C' → g ρ' w C' fun ρ2 C2 => tb (D.turn (Pv (i + 1))) ρ2 C2) (hd : ∀ ρ' C', Pv k.n ρ' C' → D.nx ρ' C') : forB g tb D ρ k C1 := ⟨Pv, ⟨C1, .here, h0⟩, hk, ht, hd⟩
theorem forB_p {g : MG} {tb : MS} {D : EndsW} {ρ : Rho} {k : Wk} {C1 C0 : Cells} (p : Part C0 C1) (h : forB g tb D ρ k C0) : forB g tb D ρ k C1 := by
  obtain ⟨Pv, ⟨C2, hp, h0⟩, r⟩ := h
  exact ⟨Pv, ⟨C2, p.trans hp, h0⟩, r⟩
def lcB (g : MG) (tt : MT) (te : ME) (vs : List Nat) (ρ : Rho) (Q : WK) (k : Wk) (C1 : Cells) : Prop := ∀ D, ∃ Pv : Nat → List W → Cells → Prop, (∃ C0, Part C0 C1 ∧ Pv 0 [] C0) ∧ (∀ i acc C', i ≤ k.n → Pv i acc C' → k.keep C') ∧
  (∀ i w acc C', i < k.n → k.it i w → Pv i acc C' → g (ρ.wipe vs) w ((D, .lst acc) :: C') fun ρ2 C2 => tt X0 ρ2 C2 fun b C3 =>
    (b = true → te X0 ρ2 C3 fun y C4 => acc.length < 100000 ∧ ∃ C5, Part ((D, .lst acc) :: C5) C4 ∧ Pv (i + 1) (acc ++ [y]) C5) ∧ (b = false → ∃ C5, Part ((D, .lst acc) :: C5) C3 ∧ Pv (i + 1) acc C5)) ∧
  (∀ acc C', Pv k.n acc C' → Q (.ref D) ((D, .lst acc) :: C'))
theorem mLc_eq {mi : MI} {g : MG} {tt : MT} {te : ME} {vs : List Nat} {E : XW} {ρ : Rho} {Cs : Cells} {Q : WK} : mLc mi g tt te vs E ρ Cs Q = mi E ρ Cs (lcB g tt te vs ρ Q) := rfl
theorem lcB_i {g : MG} {tt : MT} {te : ME} {vs : List Nat} {ρ : Rho} {Q : WK} {k : Wk} {C1 : Cells} (Pv : Nat → List W → Cells → Prop) (h0 : Pv 0 [] C1) (hk : ∀ i acc C', i ≤ k.n → Pv i acc C' → k.keep C')
    (ht : ∀ (D : Addr) (i : Nat) (w : W) (acc : List W) (C' : Cells), i < k.n → k.it i w → Pv i acc C' → g (ρ.wipe vs) w ((D, .lst acc) :: C') fun ρ2 C2 => tt X0 ρ2 C2 fun b C3 =>
      (b = true → te X0 ρ2 C3 fun y C4 => acc.length < 100000 ∧ ∃ C5, Part ((D, .lst acc) :: C5) C4 ∧ Pv (i + 1) (acc ++ [y]) C5) ∧ (b = false → ∃ C5, Part ((D, .lst acc) :: C5) C3 ∧ Pv (i + 1) acc C5))
    (hd : ∀ (D : Addr) (acc : List W) (C' : Cells), Pv k.n acc C' → Q (.ref D) ((D, .lst acc) :: C')) : lcB g tt te vs ρ Q k C1 := fun D => ⟨Pv, ⟨C1, .here, h0⟩, hk, ht D, hd D⟩
theorem lcB_p {g : MG} {tt : MT} {te : ME} {vs : List Nat} {ρ : Rho} {Q : WK} {k : Wk} {C1 C0 : Cells} (p : Part C0 C1) (h : lcB g tt te vs ρ Q k C0) : lcB g tt te vs ρ Q k C1 := fun D => by
  obtain ⟨Pv, ⟨C2, hp, h0⟩, r⟩ := h D
  exact ⟨Pv, ⟨C2, p.trans hp, h0⟩, r⟩
/-- a loop's end, told by R; a break goes to R as well -/
theorem seqW_i {c : MT} {tb u : MS} {D : EndsW} {ρ : Rho} {Cs : Cells} (Pv : Nat → Rho → Cells → Prop) (R : Rho → Cells → Prop) (m : Nat) (h0 : Pv m ρ Cs)
    (hd : ∀ ρ' C', R ρ' C' → u D ρ' C')
    (ht : ∀ m ρ' C', Pv m ρ' C' → ∀ N : Rho → Cells → Prop, (∀ ρ2 C2, R ρ2 C2 → N ρ2 C2) → c (fun C w Cs => D.ex C w ρ' Cs) ρ' C' fun k C1 =>
    (k = true → tb { nx := fun ρ2 C2 => ∃ C3, Part C3 C2 ∧ ∃ m', m' < m ∧ Pv m' ρ2 C3, ct := fun ρ2 C2 => ∃ C3, Part C3 C2 ∧ ∃ m', m' < m ∧ Pv m' ρ2 C3, bk := fun ρ2 C2 => ∃ C3, Part C3 C2 ∧ N ρ2 C3, rt := D.rt, ex := D.ex } ρ' C1) ∧ (k = false → ∃ C2, Part C2 C1 ∧ N ρ' C2)) : sSeq (sWhile c tb) u D ρ Cs :=
  ⟨Pv, ⟨m, h0⟩, fun m ρ' C' h => ht m ρ' C' h (u D) hd⟩
theorem while_i {c : MT} {tb : MS} {D : EndsW} {ρ : Rho} {Cs : Cells} (Pv : Nat → Rho → Cells → Prop) (m : Nat) (h0 : Pv m ρ Cs) (ht : ∀ m ρ' C', Pv m ρ' C' → c (fun C w Cs => D.ex C w ρ' Cs) ρ' C' fun k C1 =>
    (k = true → tb (D.turn fun ρ2 C2 => ∃ m', m' < m ∧ Pv m' ρ2 C2) ρ' C1) ∧ (k = false → ∃ C2, Part C2 C1 ∧ D.nx ρ' C2)) : sWhile c tb D ρ Cs := ⟨Pv, ⟨m, h0⟩, ht⟩
def dispB (p : Addr) (Q : WK) (ps : List (W × W)) (C2 : Cells) : Prop := ∃ Ds kvs, C2.Perm ((p, .dic []) :: Ds) ∧ ps = kvs.map (fun kv => (kW kv.1, kv.2)) ∧ kvs.length ≤ 15 ∧ Q (.ref p) ((p, .dic (mergeW [] kvs)) :: Ds)
theorem mDisp_eq {trs : List (ME × ME)} {E : XW} {ρ : Rho} {Cs : Cells} {Q : WK} : mDisp trs E ρ Cs Q = ∀ p, mPairs trs E ρ ((p, .dic []) :: Cs) (dispB p Q) := rfl
theorem disp_i {p : Addr} {ps : List (W × W)} {C2 Ds : Cells} {Q : WK} (kvs : List (Key × W)) [t : Take p C2 (.dic []) Ds] (e : ps = kvs.map (fun kv => (kW kv.1, kv.2))) (h15 : kvs.length ≤ 15) (q : Q (.ref p) ((p, .dic (mergeW [] kvs)) :: Ds)) : dispB p Q ps C2 := ⟨Ds, kvs, t.perm, e, h15, q⟩
/-! ### a caller may tell less of the world -/
def cl (sp : SpW) : SpW := fun ws Cs Q E => ∃ C', Part C' Cs ∧ sp ws C' Q E
theorem Cal.close {P : Program} {w : World} {K : PySem.W.Frag} {mg : Str → Option Value} {base : Heap} {k : Nat} {x : Str} {sp : SpW} {kb : List KSig} (C : Cal P w K mg base k x sp kb) : Cal P w K mg base k x (cl sp) kb := by
  obtain ⟨f, fd, ps, h1, h2⟩ := C.ex
  have up : ∀ vs H Q E, spOf K (cl sp) vs H Q E → spOf K sp vs H Q E := fun vs H Q E ⟨ws, Cs, Q1, E1, a, b, ⟨C', hp, c⟩, d, e⟩ => ⟨ws, C', Q1, E1, a, b.to hp, c, d, e⟩
  exact ⟨f, fd, ps, ⟨fun vs H Q E e => h1.len vs H Q E (up _ _ _ _ e), fun A outer s H args us vs Q E hr hg he hb hv hs => h1.run A outer s H args us vs Q E hr hg he hb hv (up _ _ _ _ hs)⟩, h2⟩
theorem cl_i {sp : SpW} {ws : List W} {C C' : Cells} {Q : WK} {E : XW} (p : Part C' C) (h : sp ws C' Q E) : cl sp ws C Q E := ⟨C', p, h⟩
theorem cl_h {sp : SpW} {ws : List W} {C : Cells} {Q : WK} {E : XW} (h : sp ws C Q E) : cl sp ws C Q E := ⟨C, .here, h⟩
/-- the source in a world -/
class TakeS (q : Addr) (Cs : Cells) (S : outParam SrcS) (Ds : outParam Cells) : Prop where
  perm : Cs.Perm (S.at_ q ++ Ds)
instance (priority := high) TakeS.here {q : Addr} {S : SrcS} {Ds : Cells} : TakeS q (S.at_ q ++ Ds) S Ds := ⟨List.Perm.refl _⟩
instance TakeS.there {q : Addr} {S : SrcS} {c : Addr × MO} {Cs Ds : Cells} [h : TakeS q Cs S Ds] : TakeS q (c :: Cs) S (c :: Ds) := ⟨(h.perm.cons c).trans List.perm_middle.symm⟩
instance Take.src {a q : Addr} {S : SrcS} {o : MO} {Cs Ds : Cells} [h : Take a Cs o Ds] : Take a (S.at_ q ++ Cs) o (S.at_ q ++ Ds) := ⟨(h.perm.append_left _).trans List.perm_middle⟩
instance At.src {a q : Addr} {S : SrcS} {o : MO} {Cs : Cells} [h : At a Cs o] : At a (S.at_ q ++ Cs) o := ⟨List.mem_append_right _ h.mem⟩
instance Part.src {q : Addr} {S : SrcS} {Cs Ds Es : Cells} [t : TakeS q Cs S Es] [h : Part Ds Es] : Part (S.at_ q ++ Ds) Cs := ⟨by
  obtain ⟨Fs, h1⟩ := h.part
  exact ⟨Fs, t.perm.trans (by rw [List.append_assoc]; exact h1.append_left _)⟩⟩
instance (priority := low) Part.skipS {q : Addr} {S : SrcS} {Cs Ds : Cells} [h : Part Ds Cs] : Part Ds (S.at_ q ++ Cs) := ⟨by
  obtain ⟨Fs, h1⟩ := h.part
  exact ⟨S.at_ q ++ Fs, (h1.append_left _).trans (by rw [← List.append_assoc, ← List.append_assoc]; exact (List.perm_append_comm).append_right _)⟩⟩
theorem part_app {Es Ds Cs : Cells} (h : Part Ds Cs) : Part (Es ++ Ds) (Es ++ Cs) := ⟨by
  obtain ⟨Fs, h1⟩ := h.part
  exact ⟨Fs, by rw [List.append_assoc]; exact h1.append_left _⟩⟩
theorem part_cons {c : Addr × MO} {Ds Cs : Cells} (h : Part Ds Cs) : Part (c :: Ds) (c :: Cs) := part_app (Es := [c]) h
theorem part_perm {Cs Ds : Cells} (h : Cs.Perm Ds) : Part Ds Cs := ⟨[], by rw [List.append_nil]; exact h⟩
theorem nx_i {P : Cells → Prop} {C : Cells} (h : P C) : ∃ C', Part C' C ∧ P C' := ⟨C, .here, h⟩
end SL
namespace SL
open PySem PySem.Spec PyProof.Rows L2
/-! ### what is told of deep data -/
theorem depthAll_le {n : Nat} : ∀ {ds : List PyData}, (∀ d, d ∈ ds → d.depth ≤ n) → PyData.depthAll ds ≤ n
  | [], _ => by rw [PyData.depthAll.eq_def]; exact Nat.zero_le _
  | d :: ds, h => by
    rw [PyData.depthAll.eq_def]
    exact Nat.max_le.mpr ⟨h d List.mem_cons_self, depthAll_le fun e he => h e (List.mem_cons_of_mem _ he)⟩
theorem layAll {ds : List PyData} : (∀ d, d ∈ ds → d.canLay0 = true) → PyData.canLayAll0 ds = true := by
  induction ds with
  | nil => intro _; rw [PyData.canLayAll0.eq_def]
  | cons d ds ih =>
    intro h
    rw [PyData.canLayAll0.eq_def]
    dsimp only
    rw [h d List.mem_cons_self, ih fun e he => h e (List.mem_cons_of_mem _ he)]
    rfl
theorem showAll {ds : List PyData} : (∀ d, d ∈ ds → d.showable = true) → PyData.showableAll ds = true := by
  induction ds with
  | nil => intro _; rw [PyData.showableAll.eq_def]
  | cons d ds ih =>
    intro h
    rw [PyData.showableAll.eq_def]
    dsimp only
    rw [h d List.mem_cons_self, ih fun e he => h e (List.mem_cons_of_mem _ he)]
    rfl
theorem noDictAll {ds : List PyData} : (∀ d, d ∈ ds → d.hasDict = false) → PyData.hasDictAll ds = false := by
  induction ds with
  | nil => intro _; rw [PyData.hasDictAll.eq_def]
  | cons d ds ih =>
    intro h
    rw [PyData.hasDictAll.eq_def]
    dsimp only
    rw [h d List.mem_cons_self, ih fun e he => h e (List.mem_cons_of_mem _ he)]
    rfl
theorem shaped_list {ds : List PyData} {n : Nat} (hn : n ≤ 63) (h : ∀ d, d ∈ ds → d.canLay0 = true ∧ d.depth ≤ n) : SeqAt.shaped (.list ds) = true := by
  unfold SeqAt.shaped
  rw [PyData.canLay0.eq_def, PyData.depth.eq_def]
  dsimp only
  rw [layAll fun d hd => (h d hd).1]
  have := depthAll_le fun d hd => (h d hd).2
  simp only [Bool.true_and, decide_eq_true_eq]
  omega
theorem shaped_tuple {ds : List PyData} {n : Nat} (hn : n ≤ 63) (h : ∀ d, d ∈ ds → d.canLay0 = true ∧ d.depth ≤ n) : SeqAt.shaped (.tuple ds) = true := by
  unfold SeqAt.shaped
  rw [PyData.canLay0.eq_def, PyData.depth.eq_def]
  dsimp only
  rw [layAll fun d hd => (h d hd).1]
  have := depthAll_le fun d hd => (h d hd).2
  simp only [Bool.true_and, decide_eq_true_eq]
  omega
/-! trees of None, numbers, texts, tuples and locked lists: without truth values, or without numbers -/
mutual
def nk (b : Bool) : W → Bool
  | .non => true
  | .int _ => b
  | .bl _ => !b
  | .str _ => true
  | .tup ws => nks b ws
  | .ls ws => nks b ws
  | .ref _ => false
  | .ty _ => false
  | .cst _ _ => false
  | .exn _ _ _ => false
def nks (b : Bool) : List W → Bool
  | [] => true
  | w :: ws => nk b w && nks b ws
end
abbrev nb : W → Bool := nk true
abbrev nbs : List W → Bool := nks true
mutual
theorem nk_noref {b : Bool} : ∀ {w : W}, nk b w = true → noref w = true
  | .non, _ => by rw [noref.eq_def]
  | .int _, _ => by rw [noref.eq_def]
  | .bl _, _ => by rw [noref.eq_def]
  | .str _, _ => by rw [noref.eq_def]
  | .tup ws, h => by
    rw [nk.eq_def] at h
    rw [noref.eq_def]
    exact nks_noref h
  | .ls ws, h => by
    rw [nk.eq_def] at h
    rw [noref.eq_def]
    exact nks_noref h
  | .ref _, h => by rw [nk.eq_def] at h; cases h
  | .ty _, h => by rw [nk.eq_def] at h; cases h
  | .cst _ _, h => by rw [nk.eq_def] at h; cases h
  | .exn _ _ _, h => by rw [nk.eq_def] at h; cases h
theorem nks_noref {b : Bool} : ∀ {ws : List W}, nks b ws = true → norefs ws = true
  | [], _ => by rw [norefs.eq_def]
  | w :: ws, h => by
    rw [nks.eq_def] at h
    dsimp only at h
    rw [Bool.and_eq_true] at h
    rw [norefs.eq_def]
    dsimp only
    rw [nk_noref h.1, nks_noref h.2]
    rfl
end
theorem nb_noref {w : W} (h : nb w = true) : noref w = true := nk_noref h
theorem nbs_noref {ws : List W} (h : nbs ws = true) : norefs ws = true := nks_noref h
theorem eqv_wb {b : Bool} (x : W) : ∀ y : W, nk b x = true → nk b y = true → (PyData.eqv (dW x) (dW y) = true ↔ x = y) :=
  W.rec (motive_1 := fun x => ∀ y : W, nk b x = true → nk b y = true → (PyData.eqv (dW x) (dW y) = true ↔ x = y))
    (motive_2 := fun xs => ∀ ys : List W, nks b xs = true → nks b ys = true → (PyData.eqvAll (dWs xs) (dWs ys) = true ↔ xs = ys))
    (by intro y; cases y <;> simp [nk, dW, PyData.eqv])
    (by intro c y; cases y <;> cases b <;> simp [nk, dW, PyData.eqv])
    (by intro c y; cases y <;> cases b <;> simp [nk, dW, PyData.eqv])
    (by intro c y; cases y <;> simp [nk, dW, PyData.eqv])
    (by intro c y; simp [nk])
    (by intro c y; simp [nk])
    (by
      intro ws ih y h g
      cases y with
      | tup us =>
        rw [nk.eq_def] at h g
        rw [dW, dW, PyData.eqv, ih us h g, W.tup.injEq]
      | _ => first | (simp [nk] at g; done) | simp [dW, PyData.eqv])
    (by intro a ws ih y; simp [nk])
    (by
      intro ws ih y h g
      cases y with
      | ls us =>
        rw [nk.eq_def] at h g
        rw [dW, dW, PyData.eqv, ih us h g, W.ls.injEq]
      | _ => first | (simp [nk] at g; done) | simp [dW, PyData.eqv])
    (by intro a C w ih y; simp [nk])
    (by intro ys; cases ys <;> simp [dWs, PyData.eqvAll])
    (by
      intro x xs h1 h2 ys h g
      cases ys with
      | nil => simp [dWs, PyData.eqvAll]
      | cons y ys =>
        rw [nks.eq_def] at h g
        dsimp only at h g
        rw [Bool.and_eq_true] at h g
        rw [dWs, dWs, PyData.eqvAll, Bool.and_eq_true, h1 y h.1 g.1, h2 ys h.2 g.2, List.cons.injEq]) x
theorem eqv_w {x y : W} (h : nb x = true) (g : nb y = true) : PyData.eqv (dW x) (dW y) = true ↔ x = y := eqv_wb x y h g
theorem eqv_wbs {b : Bool} : ∀ {xs ys : List W}, nks b xs = true → nks b ys = true → (PyData.eqvAll (dWs xs) (dWs ys) = true ↔ xs = ys)
  | [], [], _, _ => by simp [dWs, PyData.eqvAll]
  | [], _ :: _, _, _ => by simp [dWs, PyData.eqvAll]
  | _ :: _, [], _, _ => by simp [dWs, PyData.eqvAll]
  | x :: xs, y :: ys, h, g => by
    rw [nks.eq_def] at h g
    dsimp only at h g
    rw [Bool.and_eq_true] at h g
    rw [dWs, dWs, PyData.eqvAll, Bool.and_eq_true, eqv_wb x y h.1 g.1, eqv_wbs h.2 g.2, List.cons.injEq]
theorem eqv_ws {xs ys : List W} (h : nbs xs = true) (g : nbs ys = true) : PyData.eqvAll (dWs xs) (dWs ys) = true ↔ xs = ys := eqv_wbs h g
theorem nks_all {b : Bool} : ∀ {ws : List W}, (∀ w, w ∈ ws → nk b w = true) → nks b ws = true
  | [], _ => by rw [nks.eq_def]
  | w :: ws, h => by
    rw [nks.eq_def]
    dsimp only
    rw [h w List.mem_cons_self, nks_all fun u hu => h u (List.mem_cons_of_mem _ hu)]
    rfl
theorem nbs_all {ws : List W} (h : ∀ w, w ∈ ws → nb w = true) : nbs ws = true := nks_all h
/-- a tree that may stand in a deep comparison: of depth n -/
structure Dok (n : Nat) (w : W) : Prop where
  nb : nb w = true
  lay : (dW w).canLay0 = true
  dep : (dW w).depth ≤ n
/-- == of two lists of such trees -/
theorem eqL_i {a b : Addr} {xs ys : List W} {Cs : Cells} {Q : WK} {n : Nat} (hn : n ≤ 63) (ha : LsAt a xs Cs) (hb : LsAt b ys Cs) (hx : ∀ w, w ∈ xs → Dok n w) (hy : ∀ w, w ∈ ys → Dok n w) (h : ∀ k : Bool, (k = true ↔ xs = ys) → Q (.bl k) Cs) : qEqD (.ref a) (.ref b) Cs Q := by
  refine ⟨_, _, .lflat ha (nbs_noref (nbs_all fun w hw => (hx w hw).nb)), .lflat hb (nbs_noref (nbs_all fun w hw => (hy w hw).nb)), shaped_list hn fun d hd => ?_, shaped_list hn fun d hd => ?_, h _ ?_⟩
  · obtain ⟨w, hw, rfl⟩ := List.mem_map.mp hd
    exact ⟨(hx w hw).lay, (hx w hw).dep⟩
  · obtain ⟨w, hw, rfl⟩ := List.mem_map.mp hd
    exact ⟨(hy w hw).lay, (hy w hw).dep⟩
  · rw [← dWs_map, ← dWs_map, PyData.eqv]
    exact eqv_ws (nbs_all fun w hw => (hx w hw).nb) (nbs_all fun w hw => (hy w hw).nb)
theorem neL_i {a b : Addr} {xs ys : List W} {Cs : Cells} {Q : WK} {n : Nat} (hn : n ≤ 63) (ha : LsAt a xs Cs) (hb : LsAt b ys Cs) (hx : ∀ w, w ∈ xs → Dok n w) (hy : ∀ w, w ∈ ys → Dok n w) (h : ∀ k : Bool, (k = true ↔ xs ≠ ys) → Q (.bl k) Cs) : qNeD (.ref a) (.ref b) Cs Q := by
  have g : qEqD (.ref a) (.ref b) Cs (fun w C => ∀ k, w = .bl k → Q (.bl (!k)) C) := eqL_i hn ha hb hx hy fun k hk j e => by
    cases e
    refine h _ ?_
    rw [Bool.not_eq_true', ← Bool.not_eq_true, hk]
  obtain ⟨d, e, h1, h2, h3, h4, h5⟩ := g
  exact ⟨d, e, h1, h2, h3, h4, h5 _ rfl⟩
theorem eqT_i {xs ys : List W} {Cs : Cells} {Q : WK} {n : Nat} (hn : n ≤ 64) (hx : Dok n (.tup xs)) (hy : Dok n (.tup ys)) (h : ∀ k : Bool, (k = true ↔ xs = ys) → Q (.bl k) Cs) : qEqD (.tup xs) (.tup ys) Cs Q := by
  refine ⟨_, _, .flat (nb_noref hx.nb), .flat (nb_noref hy.nb), ?_, ?_, h _ ?_⟩
  · unfold SeqAt.shaped
    rw [hx.lay]
    have := hx.dep
    simp only [Bool.true_and, decide_eq_true_eq]
    omega
  · unfold SeqAt.shaped
    rw [hy.lay]
    have := hy.dep
    simp only [Bool.true_and, decide_eq_true_eq]
    omega
  · rw [eqv_w hx.nb hy.nb]
    exact ⟨fun e => by injection e, fun e => by rw [e]⟩
theorem eqv_dummy : True := trivial
theorem dok_int (n : Nat) (i : Int) : Dok n (.int i) := ⟨by show nk true _ = true; rw [nk.eq_def], by rw [dW, PyData.canLay0.eq_def], by rw [dW, PyData.depth.eq_def]; exact Nat.zero_le _⟩
theorem dok_non (n : Nat) : Dok n .non := ⟨by show nk true _ = true; rw [nk.eq_def], by rw [dW, PyData.canLay0.eq_def], by rw [dW, PyData.depth.eq_def]; exact Nat.zero_le _⟩
theorem dok_str (n : Nat) {x : Str} (h : PyData.strOk x = true) : Dok n (.str x) := ⟨by show nk true _ = true; rw [nk.eq_def], by rw [dW, PyData.canLay0.eq_def]; exact h, by rw [dW, PyData.depth.eq_def]; exact Nat.zero_le _⟩
theorem dok_tup {n : Nat} {ws : List W} (h : ∀ w, w ∈ ws → Dok n w) : Dok (n + 1) (.tup ws) := by
  refine ⟨?_, ?_, ?_⟩
  · show nk true _ = true
    rw [nk.eq_def]
    exact nbs_all fun w hw => (h w hw).nb
  · rw [dW, PyData.canLay0.eq_def, dWs_map]
    exact layAll fun d hd => by
      obtain ⟨w, hw, rfl⟩ := List.mem_map.mp hd
      exact (h w hw).lay
  · rw [dW, PyData.depth.eq_def, dWs_map]
    exact Nat.succ_le_succ (depthAll_le fun d hd => by
      obtain ⟨w, hw, rfl⟩ := List.mem_map.mp hd
      exact (h w hw).dep)
theorem Dok.up {n m : Nat} {w : W} (h : Dok n w) (k : n ≤ m) : Dok m w := ⟨h.nb, h.lay, Nat.le_trans h.dep k⟩
theorem dok_ints {n : Nat} {ns : List Int} : ∀ w, w ∈ ns.map W.int → Dok n w := fun w hw => by
  obtain ⟨i, _, rfl⟩ := List.mem_map.mp hw
  exact dok_int n i

/-! ### trees of bounded depth that are compared, shown, without addresses -/
structure Dk (b : Bool) (n : Nat) (w : W) : Prop where
  nk : nk b w = true
  lay : (dW w).canLay0 = true
  dep : (dW w).depth ≤ n
theorem Dok.dk {n : Nat} {w : W} (h : Dok n w) : Dk true n w := ⟨h.nb, h.lay, h.dep⟩
theorem dk_int {n : Nat} {i : Int} : Dk true n (.int i) = True := eq_true (dok_int n i).dk
theorem dk_bl {n : Nat} {c : Bool} : Dk false n (.bl c) = True := eq_true ⟨by rw [SL.nk.eq_def]; rfl, by rw [dW, PyData.canLay0.eq_def], by rw [dW, PyData.depth.eq_def]; exact Nat.zero_le _⟩
theorem dk_non {b : Bool} {n : Nat} : Dk b n .non = True := eq_true ⟨by rw [SL.nk.eq_def], by rw [dW, PyData.canLay0.eq_def], by rw [dW, PyData.depth.eq_def]; exact Nat.zero_le _⟩
theorem dk_str {b : Bool} {n : Nat} {x : Str} : Dk b n (.str x) = (PyData.strOk x = true) := by
  refine propext ⟨fun h => ?_, fun h => ⟨by rw [SL.nk.eq_def], by rw [dW, PyData.canLay0.eq_def]; exact h, by rw [dW, PyData.depth.eq_def]; exact Nat.zero_le _⟩⟩
  have := h.lay
  rw [dW, PyData.canLay0.eq_def] at this
  exact this
theorem canAll {b : Bool} {n : Nat} {ws : List W} (h : ∀ w, w ∈ ws → Dk b n w) : PyData.canLayAll0 (dWs ws) = true ∧ PyData.depthAll (dWs ws) ≤ n ∧ nks b ws = true := by
  rw [dWs_map]
  refine ⟨layAll fun d hd => ?_, depthAll_le fun d hd => ?_, nks_all fun w hw => (h w hw).nk⟩
  · obtain ⟨w, hw, rfl⟩ := List.mem_map.mp hd
    exact (h w hw).lay
  · obtain ⟨w, hw, rfl⟩ := List.mem_map.mp hd
    exact (h w hw).dep
theorem dk_tup {b : Bool} {n : Nat} {ws : List W} (h : ∀ w, w ∈ ws → Dk b n w) : Dk b (n + 1) (.tup ws) := by
  obtain ⟨h1, h2, h3⟩ := canAll h
  refine ⟨by rw [SL.nk.eq_def]; exact h3, by rw [dW, PyData.canLay0.eq_def]; exact h1, by rw [dW, PyData.depth.eq_def]; exact Nat.succ_le_succ h2⟩
theorem dk_ls {b : Bool} {n : Nat} {ws : List W} (h : ∀ w, w ∈ ws → Dk b n w) : Dk b (n + 1) (.ls ws) := by
  obtain ⟨h1, h2, h3⟩ := canAll h
  refine ⟨by rw [SL.nk.eq_def]; exact h3, by rw [dW, PyData.canLay0.eq_def]; exact h1, by rw [dW, PyData.depth.eq_def]; exact Nat.succ_le_succ h2⟩
theorem Dk.up {b : Bool} {n m : Nat} {w : W} (h : Dk b n w) (k : n ≤ m) : Dk b m w := ⟨h.nk, h.lay, Nat.le_trans h.dep k⟩
/-- whether two trees are one -/
noncomputable def eqB (x y : W) : Bool := @decide (x = y) (Classical.propDecidable _)
theorem eqB_t {x y : W} : (eqB x y = true) = (x = y) := by unfold eqB; exact propext (@decide_eq_true_iff _ (Classical.propDecidable _))
theorem eqB_f {x y : W} : (eqB x y = false) = ¬ x = y := by unfold eqB; exact propext (@decide_eq_false_iff_not _ (Classical.propDecidable _))
theorem eqB_self {x : W} : eqB x x = true := by rw [eqB_t]
theorem eqB_ne {x y : W} (h : x ≠ y) : eqB x y = false := by rw [eqB_f]; exact h
theorem eqB_dec {x y : W} {p : Prop} [d : Decidable p] (h : x = y ↔ p) : eqB x y = decide p := by
  by_cases hp : p
  · rw [decide_eq_true hp, eqB_t]; exact h.mpr hp
  · rw [decide_eq_false hp, eqB_f]; exact fun e => hp (h.mp e)
theorem shp {b : Bool} {w : W} (h : Dk b 60 w) : SeqAt.shaped (dW w) = true := by
  unfold SeqAt.shaped
  rw [h.lay]
  have := h.dep
  simp only [Bool.true_and, decide_eq_true_eq]
  omega
theorem eqv_B {b : Bool} {x y : W} (hx : Dk b 60 x) (hy : Dk b 60 y) : PyData.eqv (dW x) (dW y) = eqB x y := by
  cases e : PyData.eqv (dW x) (dW y) with
  | true => exact ((eqB_t (x := x) (y := y)).symm ▸ (eqv_wb x y hx.nk hy.nk).mp e : eqB x y = true).symm
  | false =>
    refine (eqB_ne fun z => ?_).symm
    rw [(eqv_wb x y hx.nk hy.nk).mpr z] at e
    cases e
/-- == of trees -/
theorem eqW_i {x y : W} {Cs : Cells} {Q : WK} (b : Bool) (hx : Dk b 60 x) (hy : Dk b 60 y) (h : Q (.bl (eqB x y)) Cs) : qEqD x y Cs Q :=
  ⟨_, _, .flat (nk_noref hx.nk), .flat (nk_noref hy.nk), shp hx, shp hy, by rw [eqv_B hx hy]; exact h⟩
theorem neW_i {x y : W} {Cs : Cells} {Q : WK} (b : Bool) (hx : Dk b 60 x) (hy : Dk b 60 y) (h : Q (.bl (!eqB x y)) Cs) : qNeD x y Cs Q :=
  ⟨_, _, .flat (nk_noref hx.nk), .flat (nk_noref hy.nk), shp hx, shp hy, by rw [eqv_B hx hy]; exact h⟩
theorem LsV.dw {x : W} {ws : List W} {Cs : Cells} (h : LsV x ws Cs) (hf : norefs ws = true) : Dw Cs x (dW (.ls ws)) := by
  cases x with
  | ref a =>
    rw [dW, dWs_map]
    exact .lflat h hf
  | ls us =>
    obtain rfl : us = ws := h
    exact .flat (by rw [noref.eq_def]; exact hf)
  | _ => exact False.elim h
theorem norefs_ls {b : Bool} {ws : List W} {n : Nat} (h : Dk b n (.ls ws)) : norefs ws = true := by
  have := nk_noref h.nk
  rw [noref.eq_def] at this
  exact this
/-- == of lists that are read -/
theorem eqV_i {x y : W} {xs ys : List W} {Cs : Cells} {Q : WK} (b : Bool) (lx : LsV x xs Cs) (ly : LsV y ys Cs) (hx : Dk b 60 (.ls xs)) (hy : Dk b 60 (.ls ys)) (h : Q (.bl (eqB (.ls xs) (.ls ys))) Cs) : qEqD x y Cs Q :=
  ⟨_, _, lx.dw (norefs_ls hx), ly.dw (norefs_ls hy), shp hx, shp hy, by rw [eqv_B hx hy]; exact h⟩
theorem neV_i {x y : W} {xs ys : List W} {Cs : Cells} {Q : WK} (b : Bool) (lx : LsV x xs Cs) (ly : LsV y ys Cs) (hx : Dk b 60 (.ls xs)) (hy : Dk b 60 (.ls ys)) (h : Q (.bl (!eqB (.ls xs) (.ls ys))) Cs) : qNeD x y Cs Q :=
  ⟨_, _, lx.dw (norefs_ls hx), ly.dw (norefs_ls hy), shp hx, shp hy, by rw [eqv_B hx hy]; exact h⟩
end SL
namespace SL
open PySem PySem.Spec PyProof.Rows L2
/-! ### defs that draw and give plain things -/
def spS1 (c : Nat) (R : W → Prop) : SpW := sp1 fun x Cs Q _ => ∃ (q : Addr) (S : SrcS) (Ds : Cells) (N : Nat), x = .ref q ∧ Cs = S.at_ q ++ Ds ∧ S.ok N ∧ N + c ≤ 1000000000 ∧ ∀ (w : W) (S' : SrcS), R w → S'.ok (N + c) → Q w (S'.at_ q ++ Ds)
theorem srcS1_i {c : Nat} {R : W → Prop} {q : Addr} {S : SrcS} {Cs Ds : Cells} {N : Nat} {Q : WK} {E : XW} [t : TakeS q Cs S Ds] (ok : S.ok N) (hN : N + c ≤ 1000000000) (k : ∀ (w : W) (S' : SrcS), R w → S'.ok (N + c) → Q w (S'.at_ q ++ Ds)) : cl (spS1 c R) [.ref q] Cs Q E :=
  cl_i (part_perm t.perm) ⟨_, rfl, q, S, Ds, N, rfl, rfl, ok, hN, k⟩
theorem SrcS.ok.up {S : SrcS} {N M : Nat} (h : S.ok N) (k : N ≤ M) : S.ok M := ⟨h.c0, Int.le_trans h.c1 (by omega), h.m0, h.m1⟩
/-- a number drawn is one of few -/
theorem few2 {r : Int} (h0 : 0 ≤ r) (h : r < 2) : r = 0 ∨ r = 1 := by omega
theorem few3 {r : Int} (h0 : 0 ≤ r) (h : r < 3) : r = 0 ∨ r = 1 ∨ r = 2 := by omega
theorem few4 {r : Int} (h0 : 0 ≤ r) (h : r < 4) : r = 0 ∨ r = 1 ∨ r = 2 ∨ r = 3 := by omega
theorem few5 {r : Int} (h0 : 0 ≤ r) (h : r < 5) : r = 0 ∨ r = 1 ∨ r = 2 ∨ r = 3 ∨ r = 4 := by omega
theorem few6 {r : Int} (h0 : 0 ≤ r) (h : r < 6) : r = 0 ∨ r = 1 ∨ r = 2 ∨ r = 3 ∨ r = 4 ∨ r = 5 := by omega
theorem few8 {r : Int} (h0 : 0 ≤ r) (h : r < 8) : r = 0 ∨ r = 1 ∨ r = 2 ∨ r = 3 ∨ r = 4 ∨ r = 5 ∨ r = 6 ∨ r = 7 := by omega
theorem nth_i {ws : List W} {r : Int} {P : W → Prop} (h0 : 0 ≤ r) (h1 : r < ws.length) (k : ∀ w, w ∈ ws → P w) : ∃ w, nth ws r = some w ∧ P w := ⟨_, nth_nat h0 h1, k _ (List.getElem_mem _)⟩
/-! ### names that differ -/
theorem sne_down_up : (Str.ofString "down" = Str.ofString "up") = False := eq_false (by decide)
theorem sne_down_right : (Str.ofString "down" = Str.ofString "right") = False := eq_false (by decide)
theorem sne_down_left : (Str.ofString "down" = Str.ofString "left") = False := eq_false (by decide)
theorem sne_down_home : (Str.ofString "down" = Str.ofString "home") = False := eq_false (by decide)
theorem sne_down_end : (Str.ofString "down" = Str.ofString "end") = False := eq_false (by decide)
theorem sne_up_down : (Str.ofString "up" = Str.ofString "down") = False := eq_false (by decide)
theorem sne_up_right : (Str.ofString "up" = Str.ofString "right") = False := eq_false (by decide)
theorem sne_up_left : (Str.ofString "up" = Str.ofString "left") = False := eq_false (by decide)
theorem sne_up_home : (Str.ofString "up" = Str.ofString "home") = False := eq_false (by decide)
theorem sne_up_end : (Str.ofString "up" = Str.ofString "end") = False := eq_false (by decide)
theorem sne_right_down : (Str.ofString "right" = Str.ofString "down") = False := eq_false (by decide)
theorem sne_right_up : (Str.ofString "right" = Str.ofString "up") = False := eq_false (by decide)
theorem sne_right_left : (Str.ofString "right" = Str.ofString "left") = False := eq_false (by decide)
theorem sne_right_home : (Str.ofString "right" = Str.ofString "home") = False := eq_false (by decide)
theorem sne_right_end : (Str.ofString "right" = Str.ofString "end") = False := eq_false (by decide)
theorem sne_left_down : (Str.ofString "left" = Str.ofString "down") = False := eq_false (by decide)
theorem sne_left_up : (Str.ofString "left" = Str.ofString "up") = False := eq_false (by decide)
theorem sne_left_right : (Str.ofString "left" = Str.ofString "right") = False := eq_false (by decide)
theorem sne_left_home : (Str.ofString "left" = Str.ofString "home") = False := eq_false (by decide)
theorem sne_left_end : (Str.ofString "left" = Str.ofString "end") = False := eq_false (by decide)
theorem sne_home_down : (Str.ofString "home" = Str.ofString "down") = False := eq_false (by decide)
theorem sne_home_up : (Str.ofString "home" = Str.ofString "up") = False := eq_false (by decide)
theorem sne_home_right : (Str.ofString "home" = Str.ofString "right") = False := eq_false (by decide)
theorem sne_home_left : (Str.ofString "home" = Str.ofString "left") = False := eq_false (by decide)
theorem sne_home_end : (Str.ofString "home" = Str.ofString "end") = False := eq_false (by decide)
theorem sne_end_down : (Str.ofString "end" = Str.ofString "down") = False := eq_false (by decide)
theorem sne_end_up : (Str.ofString "end" = Str.ofString "up") = False := eq_false (by decide)
theorem sne_end_right : (Str.ofString "end" = Str.ofString "right") = False := eq_false (by decide)
theorem sne_end_left : (Str.ofString "end" = Str.ofString "left") = False := eq_false (by decide)
theorem sne_end_home : (Str.ofString "end" = Str.ofString "home") = False := eq_false (by decide)
/-! ### commands -/
inductive Dir where
  | down | up | right | left
deriving DecidableEq
def Dir.nm : Dir → Str
  | .down => "down"
  | .up => "up"
  | .right => "right"
  | .left => "left"
inductive Cmd where
  | go (d : Dir) (n : Int)
  | home
  | fin
deriving DecidableEq
def Cmd.w : Cmd → W
  | .go d n => .tup [.str d.nm, .int n]
  | .home => .tup [.str "home"]
  | .fin => .tup [.str "end"]
def Cmd.ok (b : Int) : Cmd → Prop
  | .go _ n => 1 ≤ n ∧ n ≤ b
  | _ => True
theorem Cmd.ok.up {b c : Int} {x : Cmd} (h : x.ok b) (k : b ≤ c) : x.ok c := by
  cases x with
  | go d n => exact ⟨h.1, Int.le_trans h.2 k⟩
  | home => trivial
  | fin => trivial
theorem nm_ok (d : Dir) : PyData.strOk d.nm = true := by cases d <;> decide +kernel
theorem dok_cmd (c : Cmd) : Dok 1 c.w := by
  cases c with
  | go d n =>
    refine dok_tup (n := 0) fun w hw => ?_
    simp only [List.mem_cons, List.not_mem_nil, or_false] at hw
    rcases hw with rfl | rfl
    · exact dok_str _ (nm_ok d)
    · exact dok_int _ _
  | home =>
    refine dok_tup (n := 0) fun w hw => ?_
    simp only [List.mem_cons, List.not_mem_nil, or_false] at hw
    subst hw
    exact dok_str _ (by decide +kernel)
  | fin =>
    refine dok_tup (n := 0) fun w hw => ?_
    simp only [List.mem_cons, List.not_mem_nil, or_false] at hw
    subst hw
    exact dok_str _ (by decide +kernel)
theorem nm_home (d : Dir) : (d.nm = Str.ofString "home") = False := by cases d <;> exact eq_false (by decide)
theorem nm_fin (d : Dir) : (d.nm = Str.ofString "end") = False := by cases d <;> exact eq_false (by decide)
theorem home_nm (d : Dir) : (Str.ofString "home" = d.nm) = False := by cases d <;> exact eq_false (by decide)
theorem fin_nm (d : Dir) : (Str.ofString "end" = d.nm) = False := by cases d <;> exact eq_false (by decide)
theorem dok_cmds {cs : List Cmd} : ∀ w, w ∈ cs.map Cmd.w → Dok 1 w := fun w hw => by
  obtain ⟨c, _, rfl⟩ := List.mem_map.mp hw
  exact dok_cmd c
theorem nm_inj {d e : Dir} (h : d.nm = e.nm) : d = e := by cases d <;> cases e <;> first | rfl | exact absurd h (by decide)
theorem Cmd.w_inj {c d : Cmd} (h : c.w = d.w) : c = d := by
  cases c <;> cases d <;> simp only [Cmd.w, W.tup.injEq, List.cons.injEq, W.str.injEq, W.int.injEq, and_true, reduceCtorEq, and_false] at h
  · rw [nm_inj h.1, h.2]
  · rfl
  · exact absurd h (by decide)
  · exact absurd h (by decide)
  · rfl
theorem map_w_inj : ∀ {cs ds : List Cmd}, cs.map Cmd.w = ds.map Cmd.w → cs = ds
  | [], [], _ => rfl
  | [], _ :: _, h => by cases h
  | _ :: _, [], h => by cases h
  | c :: cs, d :: ds, h => by
    rw [List.map_cons, List.map_cons, List.cons.injEq] at h
    rw [Cmd.w_inj h.1, map_w_inj h.2]
end SL
namespace SL
open PySem PySem.Spec PyProof.Rows L2
/-! ### digits -/
def dg (n : Nat) : List Nat := (Nat.toDigits 10 n).map Char.toNat
theorem char_toNat_inj {a b : Char} (h : a.toNat = b.toNat) : a = b := by
  have : a.val = b.val := UInt32.toNat_inj.mp h
  exact Char.ext this
theorem map_toNat_inj : ∀ {a b : List Char}, a.map Char.toNat = b.map Char.toNat → a = b
  | [], [], _ => rfl
  | [], _ :: _, h => by cases h
  | _ :: _, [], h => by cases h
  | a :: as, b :: bs, h => by
    rw [List.map_cons, List.map_cons, List.cons.injEq] at h
    rw [char_toNat_inj h.1, map_toNat_inj h.2]
theorem dg_inj {m n : Nat} (h : dg m = dg n) : m = n := by
  have h := map_toNat_inj h
  rw [← Nat.ofDigitChars_toDigits (b := 10) (n := m) (by decide) (by decide), h, Nat.ofDigitChars_toDigits (by decide) (by decide)]
theorem dg_mem {n c : Nat} (h : c ∈ dg n) : 48 ≤ c ∧ c ≤ 57 := by
  obtain ⟨d, hd, rfl⟩ := List.mem_map.mp h
  have := Nat.isDigit_of_mem_toDigits (by decide) (by decide) hd
  unfold Char.isDigit at this
  rw [Bool.and_eq_true, decide_eq_true_eq, decide_eq_true_eq] at this
  exact ⟨this.1, this.2⟩
theorem dg_ne (n : Nat) : dg n ≠ [] := fun h => Nat.toDigits_ne_nil (List.map_eq_nil_iff.mp h)
theorem dg_len : ∀ (k n : Nat), n < 10 ^ (k + 1) → (dg n).length ≤ k + 1
  | 0, n, h => by
    unfold dg
    rw [List.length_map, Nat.toDigits_of_lt_base (by simpa using h)]
    exact Nat.le_refl _
  | k + 1, n, h => by
    unfold dg
    rw [List.length_map, Nat.toDigits_eq_if (by decide)]
    split
    · simp
    · have := dg_len k (n / 10) (by rw [Nat.pow_succ] at h; omega)
      unfold dg at this
      rw [List.length_map] at this
      rw [List.length_append]
      simp
      omega
/-- a text's codes -/
def cd (x : Str) : List Nat := x.cps.toList
theorem cd_inj {x y : Str} (h : cd x = cd y) : x = y := ext_toList h
theorem cd_app (x y : Str) : cd (x ++ y) = cd x ++ cd y := PySem.W.KT.app_list x y
theorem cd_len (x : Str) : (cd x).length = x.length := Array.length_toList
theorem cd_num {n : Int} (h : 0 ≤ n) : cd (Str.ofString (toString n)) = dg n.toNat := by
  have e : n = ((n.toNat : Nat) : Int) := (Int.toNat_of_nonneg h).symm
  rw [e]
  exact PySem.W.KIN.signs_num n.toNat
/-! ### joined texts -/
def jn (g : List Nat) : List (List Nat) → List Nat
  | [] => []
  | [w] => w
  | w :: u :: r => w ++ g ++ jn g (u :: r)
theorem jn_cons (g w : List Nat) : ∀ r : List (List Nat), jn g (w :: r) = w ++ (r.map (g ++ ·)).flatten
  | [] => by simp [jn]
  | u :: r => by rw [jn, jn_cons g u r]; simp
theorem foldl_glue (g : Array Nat) : ∀ (r : List Str) (a : Array Nat), (r.foldl (fun acc p => acc ++ g ++ p.cps) a).toList = a.toList ++ (r.map (fun p => g.toList ++ cd p)).flatten
  | [], a => by simp
  | p :: r, a => by
    rw [List.foldl_cons, foldl_glue g r]
    simp [cd]
theorem cd_join (g : Str) (ps : List Str) : cd (Txt.join g ps) = jn (cd g) (ps.map cd) := by
  unfold Txt.join Builtin.Str.glued
  refine (foldl_glue g.cps (ps.drop 1) _).trans ?_
  cases ps with
  | nil => rfl
  | cons p ps =>
    rw [List.map_cons, jn_cons]
    simp [cd, List.map_map, Function.comp_def]
theorem jn_snoc (g : List Nat) : ∀ (r : List (List Nat)) (w : List Nat), r ≠ [] → jn g (r ++ [w]) = jn g r ++ g ++ w
  | [], _, h => absurd rfl h
  | [u], w, _ => by simp [jn]
  | u :: v :: r, w, _ => by
    show jn g (u :: v :: (r ++ [w])) = _
    rw [jn, jn]
    have := jn_snoc g (v :: r) w (by simp)
    rw [List.cons_append] at this
    rw [this]
    simp
theorem jn_len (g : List Nat) (b : Nat) : ∀ (r : List (List Nat)), (∀ w, w ∈ r → w.length ≤ b) → (jn g r).length ≤ r.length * (b + g.length)
  | [], _ => by simp [jn]
  | [u], h => by
    have := h u (by simp)
    simp [jn]
    omega
  | u :: v :: r, h => by
    have h1 := h u (by simp)
    have h2 := jn_len g b (v :: r) fun w hw => h w (List.mem_cons_of_mem _ hw)
    rw [jn, List.length_append, List.length_append]
    rw [List.length_cons, Nat.succ_mul]
    omega
theorem split32 {a b r s : List Nat} (ha : 32 ∉ a) (hb : 32 ∉ b) (h : a ++ 32 :: r = b ++ 32 :: s) : a = b ∧ r = s := by
  induction a generalizing b with
  | nil =>
    cases b with
    | nil => simpa using h
    | cons c b =>
      simp at h hb
      exact absurd h.1 hb.1
  | cons c a ih =>
    cases b with
    | nil =>
      simp at h ha
      exact absurd h.1.symm ha.1
    | cons d b =>
      simp only [List.mem_cons, not_or] at ha hb
      rw [List.cons_append, List.cons_append, List.cons.injEq] at h
      obtain ⟨e1, e2⟩ := ih ha.2 hb.2 h.2
      exact ⟨by rw [h.1, e1], e2⟩
theorem no32 {a b s : List Nat} (ha : 32 ∉ a) (h : a = b ++ 32 :: s) : False := by
  subst h
  exact ha (by simp)
/-- words without spaces are told by their joined text -/
theorem jn_inj : ∀ {ws us : List (List Nat)}, (∀ w, w ∈ ws → 32 ∉ w) → (∀ w, w ∈ us → 32 ∉ w) → ws ≠ [] → us ≠ [] → jn [32] ws = jn [32] us → ws = us
  | [], _, _, _, h, _, _ => absurd rfl h
  | _, [], _, _, _, h, _ => absurd rfl h
  | [w], [u], _, _, _, _, h => by simpa [jn] using h
  | [w], u :: v :: r, hw, hu, _, _, h => by
    rw [jn, jn, List.append_assoc] at h
    exact (no32 (hw w (by simp)) h).elim
  | w :: v :: r, [u], hw, hu, _, _, h => by
    rw [jn, jn, List.append_assoc] at h
    exact (no32 (hu u (by simp)) h.symm).elim
  | w :: v :: r, u :: x :: s, hw, hu, _, _, h => by
    rw [jn, jn, List.append_assoc, List.append_assoc] at h
    obtain ⟨e1, e2⟩ := split32 (hw w (by simp)) (hu u (by simp)) h
    rw [e1, jn_inj (fun z hz => hw z (List.mem_cons_of_mem _ hz)) (fun z hz => hu z (List.mem_cons_of_mem _ hz)) (by simp) (by simp) e2]
/-! ### commands as texts -/
def Dir.lt : Dir → Nat
  | .down => 68
  | .up => 85
  | .right => 82
  | .left => 76
def Cmd.tx : Cmd → List Nat
  | .go d n => dg n.toNat ++ [d.lt]
  | .home => [72]
  | .fin => [69]
def txt (l : List Nat) : Str := ⟨l.toArray⟩
theorem cd_txt (l : List Nat) : cd (txt l) = l := rfl
def cmdsTx (cs : List Cmd) : List Nat := if cs = [] then [110, 111, 110, 101] else jn [32] (cs.map Cmd.tx)
theorem tx_no32 (c : Cmd) : 32 ∉ c.tx := by
  intro h
  cases c with
  | go d n =>
    rcases List.mem_append.mp h with h | h
    · have := dg_mem h
      omega
    · cases d <;> simp [Dir.lt] at h
  | home => simp [Cmd.tx] at h
  | fin => simp [Cmd.tx] at h
theorem tx_ne (c : Cmd) : c.tx ≠ [] := by
  cases c <;> simp [Cmd.tx]
theorem tx_last (c : Cmd) : ∃ r x, c.tx = r ++ [x] ∧ x ≠ 101 := by
  cases c with
  | go d n => exact ⟨_, _, rfl, by cases d <;> decide⟩
  | home => exact ⟨[], _, rfl, by decide⟩
  | fin => exact ⟨[], _, rfl, by decide⟩
theorem lt_inj {d e : Dir} (h : d.lt = e.lt) : d = e := by cases d <;> cases e <;> first | rfl | exact absurd h (by decide)
theorem tx_inj {b : Int} {c d : Cmd} (hc : c.ok b) (hd : d.ok b) (h : c.tx = d.tx) : c = d := by
  have one : ∀ (e : Dir) (n : Int) (x : Nat), dg n.toNat ++ [e.lt] = [x] → False := fun e n x h => by
    have := congrArg List.length h
    simp at this
    exact dg_ne _ this
  cases c with
  | go d n =>
    cases d with
    | _ =>
      rename Cmd => dd
      cases dd with
      | go e m =>
        have := List.append_inj' h rfl
        simp only [List.cons.injEq, and_true] at this
        rw [lt_inj this.2]
        have e1 := dg_inj this.1
        have : n = m := by
          have h1 := hc.1
          have h2 := hd.1
          omega
        rw [this]
      | home => exact (one _ _ _ h).elim
      | fin => exact (one _ _ _ h).elim
  | home =>
    cases d with
    | go e m => exact (one _ _ _ h.symm).elim
    | home => rfl
    | fin => exact absurd h (by decide)
  | fin =>
    cases d with
    | go e m => exact (one _ _ _ h.symm).elim
    | home => exact absurd h (by decide)
    | fin => rfl
theorem map_tx_inj {b : Int} : ∀ {cs ds : List Cmd}, (∀ c, c ∈ cs → c.ok b) → (∀ c, c ∈ ds → c.ok b) → cs.map Cmd.tx = ds.map Cmd.tx → cs = ds
  | [], [], _, _, _ => rfl
  | [], _ :: _, _, _, h => by cases h
  | _ :: _, [], _, _, h => by cases h
  | c :: cs, d :: ds, hc, hd, h => by
    rw [List.map_cons, List.map_cons, List.cons.injEq] at h
    rw [tx_inj (hc c (by simp)) (hd d (by simp)) h.1, map_tx_inj (fun x hx => hc x (List.mem_cons_of_mem _ hx)) (fun x hx => hd x (List.mem_cons_of_mem _ hx)) h.2]
theorem jn_last : ∀ (cs : List Cmd), cs ≠ [] → ∃ r x, jn [32] (cs.map Cmd.tx) = r ++ [x] ∧ x ≠ 101
  | [], h => absurd rfl h
  | [c], _ => by
    obtain ⟨r, x, e, h⟩ := tx_last c
    exact ⟨r, x, by simpa [jn] using e, h⟩
  | c :: d :: r, _ => by
    obtain ⟨q, x, e, h⟩ := jn_last (d :: r) (by simp)
    refine ⟨c.tx ++ [32] ++ q, x, ?_, h⟩
    rw [List.map_cons, List.map_cons, jn, ← List.map_cons, e]
    simp
/-- lists of commands are told by their texts -/
theorem cmdsTx_inj {b : Int} {cs ds : List Cmd} (hc : ∀ c, c ∈ cs → c.ok b) (hd : ∀ c, c ∈ ds → c.ok b) (h : cmdsTx cs = cmdsTx ds) : cs = ds := by
  have none : ∀ es : List Cmd, es ≠ [] → [110, 111, 110, 101] = jn [32] (es.map Cmd.tx) → False := fun es he h => by
    obtain ⟨r, x, e, hx⟩ := jn_last es he
    rw [e] at h
    have h2 : ([110, 111, 110] ++ [101] : List Nat) = r ++ [x] := h
    have := List.append_inj' h2 rfl
    simp only [List.cons.injEq, and_true] at this
    exact hx this.2.symm
  unfold cmdsTx at h
  by_cases h1 : cs = [] <;> by_cases h2 : ds = []
  · rw [h1, h2]
  · rw [if_pos h1, if_neg h2] at h
    exact (none ds h2 h).elim
  · rw [if_neg h1, if_pos h2] at h
    exact (none cs h1 h.symm).elim
  · rw [if_neg h1, if_neg h2] at h
    refine map_tx_inj hc hd (jn_inj (fun w hw => ?_) (fun w hw => ?_) (by simpa using h1) (by simpa using h2) h)
    · obtain ⟨c, _, rfl⟩ := List.mem_map.mp hw
      exact tx_no32 c
    · obtain ⟨c, _, rfl⟩ := List.mem_map.mp hw
      exact tx_no32 c
theorem tx_len {b : Int} {c : Cmd} {k : Nat} (h : c.ok b) (hb : b.toNat < 10 ^ (k + 1)) : c.tx.length ≤ k + 2 := by
  cases c with
  | go d n =>
    have := dg_len k n.toNat (Nat.lt_of_le_of_lt (by have := h.2; omega) hb)
    simp [Cmd.tx]
    omega
  | home => simp [Cmd.tx]
  | fin => simp [Cmd.tx]
theorem join_i {a : Str} {p : W} {ys : List Str} {Cs : Cells} {Q : WK} (h : LsV p (ys.map W.str) Cs) (hz : (ys.map (·.length)).sum + ys.length * a.length ≤ 16777216) (q : Q (.str (Txt.join a ys)) Cs) : qJoin (.str a) [p] Cs Q := ⟨a, p, ys, rfl, rfl, h, hz, q⟩
theorem sum_le {b : Nat} : ∀ {ys : List Str}, (∀ y, y ∈ ys → y.length ≤ b) → (ys.map (·.length)).sum ≤ ys.length * b
  | [], _ => by simp
  | y :: ys, h => by
    have h1 := h y (by simp)
    have h2 := sum_le (b := b) (ys := ys) fun z hz => h z (List.mem_cons_of_mem _ hz)
    rw [List.map_cons, List.sum_cons, List.length_cons, Nat.succ_mul]
    omega
theorem seq_i {t u : MS} {D : EndsW} {ρ : Rho} {Cs : Cells} (h : t { D with nx := u D } ρ Cs) : sSeq t u D ρ Cs := h
theorem starset_i {D : EndsW} {ρ : Rho} {Cs : Cells} {i a b : Nat} {x : W} {r : List W} (hρ : ρ i = some (.tup (x :: r))) (hl : r.length ≤ 1000) (k : ∀ p, D.nx ((ρ.put a x).put b (.ref p)) ((p, .lst r) :: Cs)) : sAsg (mVar i) (gStarW (gsCons (gSet a) (gsCons (gSet b) gsNil))) D ρ Cs :=
  ⟨_, hρ, x, r, rfl, hl, fun p => ⟨_, _, rfl, _, _, rfl, rfl, k p⟩⟩
theorem dget_i {a : Addr} {y w : W} {kvs : List (Key × W)} {k : Key} {Cs : Cells} {Q : WK} [h : At a Cs (.dic kvs)] (hk : y = kW k) (hv : valW kvs k = some w) (q : Q w Cs) : qDGet (.ref a) y Cs Q := ⟨a, kvs, k, w, rfl, h.mem, hk, hv, q⟩
theorem txt_app (a b : List Nat) : txt a ++ txt b = txt (a ++ b) := cd_inj (by rw [cd_app, cd_txt, cd_txt, cd_txt])
theorem txt_len (a : List Nat) : (txt a).length = a.length := by rw [← cd_len, cd_txt]
theorem txt_inj {a b : List Nat} : txt a = txt b ↔ a = b := ⟨fun h => by have := congrArg cd h; exact this, fun h => by rw [h]⟩
theorem of_num {n : Int} (h : 0 ≤ n) : Str.ofString (toString n) = txt (dg n.toNat) := cd_inj (by rw [cd_num h, cd_txt])
theorem sp_txt : Str.ofString " " = txt [32] := by decide
theorem no_txt : Str.ofString "" = txt [] := by decide
end SL
namespace SL
open PySem PySem.Spec PyProof.Rows L2
theorem noC {P : Program} {w : World} {K : PySem.W.Frag} {mg : Str → Option Value} {base : Heap} {k : Nat} {x : Str} {kb : List KSig} {st : Stmt} {ps : List Str} (h : Has K mg x st)
    (bind : ∀ (kV doc pm : Value) (an : Option Addr) (cdv ct : Value) (us : List Value), us.length = ps.length → bindArgs (PySem.W.fnOf x x (defArgs st) (defBody st) (defScope st) .none kV doc pm an cdv ct) { pos := us } = pure (ps.zip us))
    (kbind : ∀ t, t ∈ kb → ∀ (kV doc pm : Value) (an : Option Addr) (cdv ct : Value), KBd (PySem.W.fnOf x x (defArgs st) (defBody st) (defScope st) .none kV doc pm an cdv ct) ps t.1 t.2.1 t.2.2.1 t.2.2.2) : Cal P w K mg base k x (fun _ _ _ _ => False) kb := by
  obtain ⟨f, fd, hm, F⟩ := h.ex
  refine ⟨f, fd, ps, ⟨fun vs H Q E ⟨_, _, _, _, _, _, e, _⟩ => e.elim, fun A outer s H args us vs Q E _ _ _ _ _ ⟨_, _, _, _, _, _, e, _⟩ => e.elim⟩, hm, F.kp, F.binds bind, fun t ht => ?_⟩
  obtain ⟨oc, od, kV, doc, pm, an, cdv, ct, osl, e, _⟩ := F.ex
  rw [e]
  exact kbind t ht kV doc pm an cdv ct
theorem qIsN_n {x : W} {Cs : Cells} {Q : WK} : qIsN x .non Cs Q = Q (.bl (isNon x)) Cs := propext ⟨fun h => h.2, fun h => ⟨rfl, h⟩⟩
theorem qNotN_n {x : W} {Cs : Cells} {Q : WK} : qNotN x .non Cs Q = Q (.bl (!isNon x)) Cs := propext ⟨fun h => h.2, fun h => ⟨rfl, h⟩⟩
/-! ### a comprehension's scope, looked through -/
def blkOkB (N : List Str) (sc scope : Scope) (own : List (Str × Nat)) : Bool :=
  decide (scope.kind = .function) && scope.names.all (fun y => decide (scope.names.lookup y.1 = some y.2)) && own.all (fun p => decide (N[p.2]? = some p.1)) &&
  scope.names.all (fun y => !decide (y.2 = .free) || decide (sc.names.lookup y.1 = some .cell) || decide (sc.names.lookup y.1 = some .free)) &&
  scope.names.all (fun y => !(decide (y.2 = .local) || decide (y.2 = .cell)) || decide (y.1 ∈ own.map (·.1)) || !decide (y.1 ∈ N))
theorem blkOf {N : List Str} {sc scope : Scope} {own : List (Str × Nat)} (h : blkOkB N sc scope own = true) : BlkOk N sc scope own := by
  unfold blkOkB at h
  simp only [Bool.and_eq_true, List.all_eq_true, decide_eq_true_eq, Bool.or_eq_true, Bool.not_eq_true', decide_eq_false_iff_not, Bool.or_eq_false_iff] at h
  obtain ⟨⟨⟨⟨h1, h2⟩, h3⟩, h4⟩, h5⟩ := h
  refine ⟨h1, h2, h3, fun y hy e => ?_, fun y hy e => ?_⟩
  · rcases h4 y hy with (q | q) | q
    · exact absurd e q
    · exact .inl q
    · exact .inr q
  · rcases h5 y hy with (q | q) | q
    · exact (e.elim (fun z => q.1 z) fun z => q.2 z).elim
    · exact .inl q
    · exact .inr q
theorem uIsi_r {a : Addr} {c : String} {Cs : Cells} {Q : WK} : uIsi [.ref a, .ty c] Cs Q = ∃ t b, tyW Cs (.ref a) t ∧ kitB t c = some b ∧ Q (.bl b) Cs := rfl
theorem ty_l {a : Addr} {ws : List W} {Cs : Cells} (h : LsAt a ws Cs) : tyW Cs (.ref a) "list" := .inl ⟨rfl, ws, h⟩
theorem dec_iff {b : Bool} {p : Prop} [Decidable p] (h : b = true ↔ p) : b = decide p := by
  by_cases hp : p
  · rw [decide_eq_true hp]; exact h.mpr hp
  · rw [decide_eq_false hp]
    cases b
    · rfl
    · exact absurd (h.mp rfl) hp
end SL
namespace SL
open PySem PySem.Spec PyProof.Rows L2
def BIG : Int := 1000000000000000000000000000000000000000000000
theorem lg_big {i : Int} (h0 : 0 ≤ i) (h : i ≤ BIG) : i.natAbs.log2 < 1920 := by
  by_cases e : i = 0
  · rw [e]
    decide
  · have : i.natAbs < 2 ^ 200 := by
      unfold BIG at h
      omega
    exact Nat.lt_trans ((Nat.log2_lt (by omega)).mpr this) (by decide)
theorem tx_big {c : Cmd} (h : c.ok BIG) : c.tx.length ≤ 47 := tx_len (k := 45) h (by decide)
theorem num_big {n : Int} (h0 : 0 ≤ n) (h : n ≤ BIG) : (Str.ofString (toString n)).length ≤ 46 := by
  rw [← cd_len, cd_num h0]
  exact dg_len 45 _ (by unfold BIG at h; omega)
/-! ### how long a shown text is -/
theorem textFrom_len (b : Nat) : ∀ (ts : List Str) (k : Nat) (acc : Str), (∀ t, t ∈ ts → t.length ≤ b) → (textFrom k acc ts).length ≤ acc.length + ts.length * (b + 2)
  | [], k, acc, _ => by rw [textFrom.eq_def]; simp
  | t :: ts, k, acc, h => by
    rw [textFrom.eq_def]
    dsimp only
    have h1 := textFrom_len b ts (k + 1) (acc ++ Str.ofString (if k > 0 then ", " else "") ++ t) fun x hx => h x (List.mem_cons_of_mem _ hx)
    have h2 := h t (by simp)
    rw [Str.length_append, Str.length_append] at h1
    have h3 : (Str.ofString (if k > 0 then ", " else "")).length ≤ 2 := by split <;> decide
    rw [List.length_cons, Nat.succ_mul]
    omega
theorem listText_len {b : Nat} {ts : List Str} (h : ∀ t, t ∈ ts → t.length ≤ b) : (listText ts).length ≤ 2 + ts.length * (b + 2) := by
  unfold listText
  rw [Str.length_append]
  have h1 := textFrom_len b ts 0 (Str.ofString "[") h
  have h2 : (Str.ofString "[").length = 1 := by decide
  have h3 : (Str.ofString "]").length = 1 := by decide
  omega
theorem cd_sjoin (g : Str) : ∀ ps : List Str, cd (Str.join g ps) = jn (cd g) (ps.map cd)
  | [] => by rw [Str.join.eq_def]; rfl
  | [p] => by rw [Str.join.eq_def]; rfl
  | p :: u :: r => by
    rw [Str.join.eq_def]
    dsimp only
    rw [cd_app, cd_app, cd_sjoin g (u :: r)]
    rfl
theorem tupleText_len {b : Nat} {ts : List Str} (h : ∀ t, t ∈ ts → t.length ≤ b) : (tupleText ts).length ≤ 3 + ts.length * (b + 2) := by
  unfold tupleText
  rw [Str.length_append, Str.length_append]
  have h2 : (Str.ofString "(").length = 1 := by decide
  have h3 : (Str.ofString (if (ts.length == 1) = true then ",)" else ")")).length ≤ 2 := by split <;> decide
  have h4 : (Str.join (Str.ofString ", ") ts).length ≤ ts.length * (b + 2) := by
    rw [← cd_len, cd_sjoin]
    have := jn_len (cd (Str.ofString ", ")) b (ts.map cd) fun w hw => by
      obtain ⟨t, ht, rfl⟩ := List.mem_map.mp hw
      rw [cd_len]
      exact h t ht
    have e2 : (cd (Str.ofString ", ")).length = 2 := by decide
    rw [List.length_map, e2] at this
    exact this
  omega
theorem shownAll_map : ∀ ds : List PyData, PyData.shownAll ds = ds.map PyData.shown
  | [] => by rw [PyData.shownAll.eq_def]; rfl
  | d :: ds => by rw [PyData.shownAll.eq_def, List.map_cons, ← shownAll_map ds]
theorem shown_cmd {c : Cmd} (h : c.ok BIG) : (dW c.w).shown.length ≤ 150 := by
  have tl : ∀ (ts : List Str), (∀ t, t ∈ ts → t.length ≤ 46) → ts.length ≤ 2 → (tupleText ts).length ≤ 150 := fun ts h hl => by
    have := tupleText_len h
    have : ts.length * (46 + 2) ≤ 2 * 48 := Nat.mul_le_mul hl (Nat.le_refl _)
    omega
  have rt : ∀ d : Dir, (reprText d.nm).length ≤ 46 := fun d => by cases d <;> decide +kernel
  cases c with
  | go d n =>
    rw [Cmd.w, dW, PyData.shown.eq_def, dWs, dWs, dWs]
    dsimp only
    rw [shownAll_map, List.map_cons, List.map_cons, List.map_nil, dW, dW, PyData.shown.eq_def, PyData.shown.eq_def]
    dsimp only
    refine tl _ (fun t ht => ?_) (by simp)
    simp only [List.mem_cons, List.not_mem_nil, or_false] at ht
    rcases ht with rfl | rfl
    · exact rt d
    · have := h.1
      exact num_big (by omega) h.2
  | home =>
    rw [Cmd.w, dW, PyData.shown.eq_def, dWs, dWs]
    dsimp only
    rw [shownAll_map, List.map_cons, List.map_nil, dW, PyData.shown.eq_def]
    dsimp only
    refine tl _ (fun t ht => ?_) (by simp)
    simp only [List.mem_cons, List.not_mem_nil, or_false] at ht
    subst ht
    decide +kernel
  | fin =>
    rw [Cmd.w, dW, PyData.shown.eq_def, dWs, dWs]
    dsimp only
    rw [shownAll_map, List.map_cons, List.map_nil, dW, PyData.shown.eq_def]
    dsimp only
    refine tl _ (fun t ht => ?_) (by simp)
    simp only [List.mem_cons, List.not_mem_nil, or_false] at ht
    subst ht
    decide +kernel
theorem showable_cmd {c : Cmd} (h : c.ok BIG) : (dW c.w).showable = true := by
  cases c with
  | go d n =>
    have e : decide (n.natAbs.log2 < 1920) = true := decide_eq_true (lg_big (by have := h.1; omega) h.2)
    rw [Cmd.w, dW, dWs, dWs, dWs, dW, dW, PyData.showable.eq_def]
    dsimp only
    rw [PyData.showableAll.eq_def]
    dsimp only
    rw [PyData.showableAll.eq_def]
    dsimp only
    rw [PyData.showableAll.eq_def, PyData.showable.eq_def, PyData.showable.eq_def]
    dsimp only
    rw [e]
    rfl
  | home => decide +kernel
  | fin => decide +kernel
theorem noDict_cmd (c : Cmd) : (dW c.w).hasDict = false := by
  cases c with
  | go d n =>
    rw [Cmd.w, dW, dWs, dWs, dWs, dW, dW, PyData.hasDict.eq_def]
    dsimp only
    rw [PyData.hasDictAll.eq_def]
    dsimp only
    rw [PyData.hasDictAll.eq_def]
    dsimp only
    rw [PyData.hasDictAll.eq_def, PyData.hasDict.eq_def, PyData.hasDict.eq_def]
    rfl
  | home => decide +kernel
  | fin => decide +kernel
def cmdsRepr (cs : List Cmd) : Str := PyData.shown (.list ((cs.map Cmd.w).map dW))
theorem repr_cmds {a : Addr} {cs : List Cmd} {Cs : Cells} {Q : WK} (h : LsAt a (cs.map Cmd.w) Cs) (hn : cs.length ≤ 5000) (hc : ∀ c, c ∈ cs → c.ok BIG) (k : Q (.str (cmdsRepr cs)) Cs) : qRepr [.ref a] Cs Q := by
  have el : ∀ d, d ∈ (cs.map Cmd.w).map dW → ∃ c, c ∈ cs ∧ d = dW c.w := fun d hd => by
    obtain ⟨w, hw, rfl⟩ := List.mem_map.mp hd
    obtain ⟨c, hc, rfl⟩ := List.mem_map.mp hw
    exact ⟨c, hc, rfl⟩
  refine ⟨a, (cs.map Cmd.w).map dW, rfl, .lflat h (nbs_noref (nbs_all fun w hw => (dok_cmds w hw).nb)), showAll fun d hd => ?_, noDictAll fun d hd => ?_, Nat.le_trans (depthAll_le (n := 1) fun d hd => ?_) (by decide), ?_, k⟩
  · obtain ⟨c, h1, rfl⟩ := el d hd
    exact showable_cmd (hc c h1)
  · obtain ⟨c, h1, rfl⟩ := el d hd
    exact noDict_cmd c
  · obtain ⟨c, h1, rfl⟩ := el d hd
    exact (dok_cmd c).dep
  · rw [PyData.shown.eq_def]
    dsimp only
    rw [shownAll_map]
    have := listText_len (b := 150) (ts := ((cs.map Cmd.w).map dW).map PyData.shown) fun t ht => by
      obtain ⟨d, hd, rfl⟩ := List.mem_map.mp ht
      obtain ⟨c, h1, rfl⟩ := el d hd
      exact shown_cmd (hc c h1)
    rw [List.length_map, List.length_map, List.length_map] at this
    refine Nat.le_trans this ?_
    rw [sizeLine_eq]
    omega
end SL
namespace SL
open PySem PySem.Spec PyProof.Rows L2

/-! ### a new list is locked for good -/
/-- the list that a value is becomes a tree -/
def frzV (w : W) (C : Cells) (Q : WK) : Prop := match w with
  | .ref p => ∃ ws D, C.Perm ((p, .lst ws) :: D) ∧ Q (.ls ws) D
  | w => Q w C
def mFrzV (t : ME) : ME := fun E ρ Cs Q => t E ρ Cs fun w C => frzV w C Q
/-- the same of a list that was just made -/
def frzQ (w : W) (C : Cells) (Q : WK) : Prop := match w with
  | .ref p => match C with
    | (q, .lst ws) :: D => q = p ∧ Q (.ls ws) D
    | _ => False
  | w => Q w C
def mFrz (t : ME) : ME := fun E ρ Cs Q => t E ρ Cs fun w C => frzQ w C Q
section
variable {K : PySem.W.Frag} {H : Hp} {X : Cx}
theorem tr_frz {a : Addr} {o : Obj} {xs : List V} (h : H a = some (.lst xs)) : Tr K H (upd H a (.frz o (.lst xs))) := tr_upd fun u e => by
  rw [h] at e
  cases e
  rfl
theorem RelC.frz {a : Addr} {ws : List W} {D : Cells} {o : Obj} {xs : List V} (R : RelC K H ((a, .lst ws) :: D)) (h : H a = some (.lst xs)) : RelC K (upd H a (.frz o (.lst xs))) D := by
  have nd := R.nd
  rw [List.map_cons] at nd
  obtain ⟨nf, nd'⟩ := List.nodup_cons.mp nd
  refine ⟨nd', fun p hp => ?_⟩
  have hne : p.1 ≠ a := fun e => nf (List.mem_map.mpr ⟨p, hp, e⟩)
  exact cell_keep (tr_frz h) (upd_ne hne) (R.ok p (List.mem_cons_of_mem _ hp))
/-- behind an expression a thing that stands in the world may be locked -/
def tFrz (t : TE) : TE := fun σ H Q => t σ H fun v H1 => Q v H1 ∨ ∃ d u, H1 d = some u ∧ Mut (some u) ∧ ∀ od, Q v (upd H1 d (.frz od u))
theorem pe_frz {e : Expr} {t : TE} (h : PE X e t) : PE X e (tFrz t) := by
  refine ⟨fun pins s σ H Q I hw => ?_⟩
  refine thn (h.run pins s σ _ _ I hw) fun v s1 ⟨x, H1, I1, r, q⟩ => ?_
  rcases q with q | ⟨d, u, hd, mu, q⟩
  · exact ⟨x, H1, I1, r, q⟩
  · obtain ⟨od, I2⟩ := I1.lock hd mu
    exact ⟨x, _, I2, r, q od⟩
theorem qe_frzV {e : Expr} {t : ME} (h : QE X e t) : QE X e (mFrzV t) := fun Wx tk => pe_imp (pe_frz (h Wx tk)) fun σ H Q' ⟨ρ, Cs, E, Q, R, C, h, kQ, kE⟩ => ⟨ρ, Cs, E, _, R, C, h, fun w C1 v H1 q tr rc rp => by
  unfold frzV at q
  split at q
  · obtain ⟨ws, D, hp, q⟩ := q
    have rc' := rc.perm hp
    obtain ⟨xs, e1, r1⟩ := rc'.mem List.mem_cons_self
    obtain rfl := rep_ref.mp rp
    exact .inr ⟨_, _, e1, trivial, fun od => kQ _ D _ _ q (tr.trans (tr_frz e1)) (rc'.frz e1) (rep_ls.mpr ⟨_, od, xs, rfl, upd_same, reps_mono (tr_frz e1) _ _ r1⟩)⟩
  · exact .inl (kQ _ C1 _ _ q tr rc rp), kE⟩
theorem me_imp {e : Expr} {t t' : ME} (h : QE X e t) (k : ∀ E ρ Cs Q, t' E ρ Cs Q → t E ρ Cs Q) : QE X e t' := fun Wx tk => pe_imp (h Wx tk) fun σ H Q' ⟨ρ, Cs, E, Q, R, C, h, kQ, kE⟩ => ⟨ρ, Cs, E, Q, R, C, k _ _ _ _ h, kQ, kE⟩
/-- readings that grow with what is wanted -/
structure Mono (t : ME) : Prop where
  up : ∀ E ρ Cs (Q Q' : WK), (∀ w C, Q w C → Q' w C) → t E ρ Cs Q → t E ρ Cs Q'
theorem frzQ_V {w : W} {C : Cells} {Q : WK} (h : frzQ w C Q) : frzV w C Q := by
  unfold frzQ at h
  unfold frzV
  cases w with
  | ref p =>
    dsimp only at h ⊢
    split at h
    · obtain ⟨rfl, h⟩ := h
      exact ⟨_, _, List.Perm.refl _, h⟩
    · exact h.elim
  | _ => exact h
theorem qe_frz {e : Expr} {t : ME} (h : QE X e t) : QE X e (mFrz t) := fun Wx tk => pe_imp (pe_frz (h Wx tk)) fun σ H Q' ⟨ρ, Cs, E, Q, R, C, h, kQ, kE⟩ => ⟨ρ, Cs, E, _, R, C, h, fun w C1 v H1 q tr rc rp => by
  have q := frzQ_V q
  unfold frzV at q
  split at q
  · obtain ⟨ws, D, hp, q⟩ := q
    have rc' := rc.perm hp
    obtain ⟨xs, e1, r1⟩ := rc'.mem List.mem_cons_self
    obtain rfl := rep_ref.mp rp
    exact .inr ⟨_, _, e1, trivial, fun od => kQ _ D _ _ q (tr.trans (tr_frz e1)) (rc'.frz e1) (rep_ls.mpr ⟨_, od, xs, rfl, upd_same, reps_mono (tr_frz e1) _ _ r1⟩)⟩
  · exact .inl (kQ _ C1 _ _ q tr rc rp), kE⟩
/-! equations -/
section
variable {p : Addr} {ws : List W} {C D : Cells} {Q : WK} {i : Int} {b : Bool} {x : Str}
theorem frzQ_r : frzQ (.ref p) ((p, .lst ws) :: C) Q = Q (.ls ws) C := propext ⟨fun h => h.2, fun h => ⟨rfl, h⟩⟩
theorem frzQ_i : frzQ (.int i) C Q = Q (.int i) C := rfl
theorem frzQ_b : frzQ (.bl b) C Q = Q (.bl b) C := rfl
theorem frzQ_n : frzQ .non C Q = Q .non C := rfl
theorem frzQ_s : frzQ (.str x) C Q = Q (.str x) C := rfl
theorem frzQ_t : frzQ (.tup ws) C Q = Q (.tup ws) C := rfl
theorem frzQ_l : frzQ (.ls ws) C Q = Q (.ls ws) C := rfl
theorem frzV_i : frzV (.int i) C Q = Q (.int i) C := rfl
theorem frzV_b : frzV (.bl b) C Q = Q (.bl b) C := rfl
theorem frzV_n : frzV .non C Q = Q .non C := rfl
theorem frzV_s : frzV (.str x) C Q = Q (.str x) C := rfl
theorem frzV_t : frzV (.tup ws) C Q = Q (.tup ws) C := rfl
theorem frzV_l : frzV (.ls ws) C Q = Q (.ls ws) C := rfl
theorem frz_i [t : Take p C (.lst ws) D] (h : Q (.ls ws) D) : frzV (.ref p) C Q := ⟨ws, D, t.perm, h⟩
end
end
end SL
namespace SL
open PySem PySem.Spec PyProof.Rows L2
theorem tr_grow {K : PySem.W.Frag} {H H' : Hp} (k : ∀ b o, H b = some o → H' b = some o) : Tr K H H' := by
  refine ⟨fun t xs hs => ?_, fun t xs hs => ?_, fun t o xs h => k _ _ h, fun t φ h => k _ _ h, fun t φ h => k _ _ h⟩
  · rcases hs with (hs | ⟨q, hs⟩) | hs
    · exact .inl (.inl (k _ _ hs))
    · exact .inl (.inr ⟨q, k _ _ hs⟩)
    · exact .inr hs
  · obtain ⟨h1, ⟨o, h2⟩ | h2⟩ := hs
    · exact ⟨.inl (.inr ⟨o, k _ _ h2⟩), .inl ⟨o, k _ _ h2⟩⟩
    · refine ⟨?_, .inr h2⟩
      rcases h2 with (h2 | ⟨o, h2⟩) | h2
      · cases h2
      · cases h2
      · exact .inr h2
theorem RelC.grow {K : PySem.W.Frag} {H H' : Hp} {Cs : Cells} (R : RelC K H Cs) (k : ∀ b o, H b = some o → H' b = some o) : RelC K H' Cs := ⟨R.nd, fun p hp => by
  obtain ⟨u, e⟩ := cell_some (R.ok p hp)
  exact cell_keep (tr_grow k) ((k _ _ e).trans e.symm) (R.ok p hp)⟩
/-! ### a, *b = t: b's list locked -/
def gTupStarF (K : PySem.W.Frag) (t : TGs) : TG := fun v σ H Q => ∃ a x r, v = .ref a ∧ SqT K H a (x :: r) ∧ r.length ≤ 1000 ∧ ∀ D od, H D = none → t [x, .ref D] σ (upd H D (.frz od (.lst r))) Q
section
variable {X : Cx}
theorem pg_tupStarF {es : List Expr} {k : Nat} {t : TGs} {pos : Pos} (hc : X.calm = true) (h : PGs X es t)
    (hn : (assignEach es X.env).length = 2 := by rfl) (hst : (assignEach es X.env).findIdx? (·.1) = some 1 := by rfl) : PG X (.Tuple es k pos) (gTupStarF X.K t) := by
  refine ⟨fun pins s σ H v u Q I r hw => ?_⟩
  obtain ⟨a, x, rest, e1, hq, hl, hw⟩ := hw
  subst e1
  cases r
  obtain ⟨its, rv, ht, hz⟩ := I.tuple hq
  cases rv with
  | @cons _ u _ us r1 r2 =>
    have hlen := r2.length
    rw [assign_Tuple]
    refine wpAny_bind (wpAny_standAt ?_)
    unfold unpack
    rw [hn, hst]
    refine wpAny_bind (wpAny_holding (star_items ht (I.ok.hd hc) (x := u) (r := us) (by simp) (by simp only [List.size_toArray, List.length_cons]; omega) fun D h' tk hD old hob => ?_))
    have I1 : Inv X pins σ (upd H D (.lst rest)) { s with heap := h', toks := tk } := inv_laid I old hD ⟨sz1000 hl, us, 0, r2, hob⟩
    obtain ⟨od, I2⟩ := I1.lock (d := D) upd_same trivial
    rw [upd_upd] at I2
    exact h.run pins _ σ _ [x, .ref D] [u, .ref D] Q I2 (.cons r1 (.cons rfl .nil)) (hw D od (HOk_none I.hok hD))
end
def gStarF (t : MGs) : MG := fun ρ w Cs Q => ∃ x r, w = .tup (x :: r) ∧ r.length ≤ 1000 ∧ t ρ [x, .ls r] Cs Q
theorem gStarF_t {t : MGs} {ρ : Rho} {x : W} {r : List W} {Cs : Cells} {Q : Rho → Cells → Prop} : gStarF t ρ (.tup (x :: r)) Cs Q = (r.length ≤ 1000 ∧ t ρ [x, .ls r] Cs Q) := propext ⟨fun ⟨_, _, e, h⟩ => by cases e; exact h, fun h => ⟨x, r, rfl, h⟩⟩
section
variable {X : Cx} {es : List Expr} {pos : Pos}
theorem qg_starF {js : List Nat} {k : Nat} {gs : MGs} (hc : X.calm = true) (h : QGs X js es gs) (hn : (assignEach es X.env).length = 2 := by rfl) (hst : (assignEach es X.env).findIdx? (·.1) = some 1 := by rfl) : QG X js (.Tuple es k pos) (gStarF gs) :=
  pg_imp (pg_tupStarF hc h hn hst) fun v σ H Q' ⟨ρ, w, Cs, Q, R, C, rp, ⟨x, r, e, hl, h⟩, kQ⟩ => by
    subst e
    obtain ⟨t, xs, rfl, h1, h2⟩ := rep_tup.mp rp
    obtain ⟨vx, vr, rfl, r1, r2⟩ := reps_cons.mp h2
    refine ⟨t, vx, vr, rfl, h1, by rw [← reps_len r2]; exact hl, fun D od hD => ?_⟩
    have tr : Tr X.K H (upd H D (.frz od (.lst vr))) := tr_new hD
    exact ⟨ρ, [x, .ls r], Cs, Q, R.mono tr, C.hid hD, reps_cc.mpr ⟨rep_mono tr _ _ r1, reps_cc.mpr ⟨rep_ls.mpr ⟨D, od, vr, rfl, upd_same, reps_mono tr _ _ r2⟩, reps_nil.mpr rfl⟩⟩, h, fun ρ' C' σ' H' q tr2 => kQ ρ' C' σ' H' q (tr.trans tr2)⟩
end
/-! ### xs[::-1] -/
def qRev : RW1 := fun x Cs Q => ∃ ws, LsV x ws Cs ∧ ∀ p, Q (.ref p) ((p, .lst ws.reverse) :: Cs)
theorem qRev_l {ws : List W} {Cs : Cells} {Q : WK} : qRev (.ls ws) Cs Q = ∀ p, Q (.ref p) ((p, .lst ws.reverse) :: Cs) := propext ⟨fun ⟨_, e, h⟩ => by cases e; exact h, fun h => ⟨ws, rfl, h⟩⟩
theorem qRev_r {a : Addr} {Cs : Cells} {Q : WK} : qRev (.ref a) Cs Q = ∃ ws, LsAt a ws Cs ∧ ∀ p, Q (.ref p) ((p, .lst ws.reverse) :: Cs) := rfl
theorem qe_rev {X : Cx} {e : Expr} {te : ME} {k : Nat} {p1 p2 p3 pos : Pos} (he : QE X e te) : QE X (.Subscript e (.Slice none none (some (.UnaryOp .USub (.Constant (.int 1) k p1) p2)) p3) pos) (mUn qRev te) := fun Wx tk =>
  pe_imp (pe_revL (he Wx tk)) fun σ H Q' ⟨ρ, Cs, E, Q, R, C, h, kQ, kE⟩ => ⟨ρ, Cs, E, _, R, C, h, fun x C1 vx H1 q tr1 rc1 rx => by
    obtain ⟨ws, hl, q⟩ := q
    obtain ⟨a, xs, rfl, h1, h2⟩ := hl.get rc1 rx
    exact ⟨a, xs, rfl, .inl h1, fun p hp => kQ _ _ _ _ (q p) (tr1.trans (tr_new hp)) (rc1.new hp ⟨_, upd_same, reps_mono (tr_new hp) _ _ (reps_rev h2)⟩) (rep_ref.mpr rfl)⟩, kE⟩
/-! ### sorted(d.items()), keys and values whole numbers -/
def rItemsK : V → List V → Hp → VK → Prop := fun x xs H Q => ∃ (a : Addr) (kvs : List (Key × V)), x = .ref a ∧ xs = [] ∧ H a = some (.dK kvs) ∧ ∀ p, H p = none → Q (.ref p) (upd H p (DX.itemsO p a))
section
variable {X : Cx}
theorem mt_itemsK : MtR X "dict.items" rItemsK := by
  intro pins s σ H x xs v us Q I rx rxs h
  obtain ⟨a, kvs, rfl, rfl, ha, q⟩ := h
  cases rx
  cases rxs
  obtain ⟨hz, hs0, vs, kv, o, es, ep, ho, hx, hdat, _⟩ := I.hok a _ ha
  refine DT.callItems (es := es) (ep := ep) hs0 ⟨o, ho, hx, hdat⟩ ?_
  have hf : H s.heap.objs.size = none := I.hok.fresh (Nat.le_refl _)
  exact ⟨.ref s.heap.objs.size, upd H s.heap.objs.size (DX.itemsO s.heap.objs.size a), I.laid (t' := s.toks) (fun b u e => Heap.get?_push_of_some _ e) (Nat.le_refl _) (DX.itemsO_ok (Heap.get?_push_size _ rfl)), rfl, q _ hf⟩
end
end SL
namespace SL
open PySem PySem.Spec PyProof.Rows L2
def ikv (q : Int × Int) : Key × V := (Sum.inl q.1, .int q.2)
def rSortItK : List V → Hp → VK → Prop := fun vs H Q => ∃ (p a : Addr) (ks : List (Int × Int)), vs = [.ref p] ∧ H p = some (DX.itemsO p a) ∧ H a = some (.dK (ks.map ikv)) ∧
  ∀ (H' : Hp) (l : Addr) (ps : List (Addr × Int × Int)), (∀ b o, H b = some o → H' b = some o) → (ps.map (·.2)).Perm ks → (ps.map (·.2)).Pairwise (fun e f => e.1 ≤ f.1) → H l = none → H' l = some (.lst (ps.map fun z => V.ref z.1)) →
    (∀ z ∈ ps, H' z.1 = some (.tup [.int z.2.1, .int z.2.2])) → Q (.ref l) H'
theorem pairs_get {K : Type} [DecidableEq K] {prog : Program} {w : World} {knd : KeyKind prog w K} : ∀ {es : List DictEntry} {kvs : List (K × Value)}, Pairs knd es kvs → ∀ {j : Nat} {e : DictEntry}, es[j]? = some e → ∃ kv, kvs[j]? = some kv ∧ knd.is kv.1 e.key = true ∧ e.val = kv.2
  | _, _, .nil, j, e, h => by simp at h
  | _, _, .cons h1 h2 _, 0, e, h => by simp at h; subst h; exact ⟨_, rfl, h1, h2⟩
  | _, _, .cons _ _ t, j + 1, e, h => by
    obtain ⟨kv, a, b⟩ := pairs_get t (j := j) (by simpa using h)
    exact ⟨kv, by simpa using a, b⟩
theorem kv_get {κ : Type} : ∀ {xs : List (κ × V)} {us : List (κ × Value)}, KV xs us → ∀ {j : Nat} {u : κ × Value}, us[j]? = some u → ∃ x, xs[j]? = some x ∧ x.1 = u.1 ∧ RelV x.2 u.2
  | _, _, .nil, j, u, h => by simp at h
  | _, _, .cons r _, 0, u, h => by simp at h; subst h; exact ⟨_, rfl, r.1, r.2⟩
  | _, _, .cons _ t, j + 1, u, h => by
    obtain ⟨x, a, b⟩ := kv_get t (j := j) (by simpa using h)
    exact ⟨x, by simpa using a, b⟩
theorem pairs_len {K : Type} [DecidableEq K] {prog : Program} {w : World} {knd : KeyKind prog w K} : ∀ {es : List DictEntry} {kvs : List (K × Value)}, Pairs knd es kvs → es.length = kvs.length
  | _, _, .nil => rfl
  | _, _, .cons _ _ t => by rw [List.length_cons, List.length_cons, pairs_len t]
theorem isPair_uniq {h : Heap} {v : Value} {i j i' j' : Int} (a : Srt.IsPair h v i j) (b : Srt.IsPair h v i' j') : i = i' ∧ j = j' := by
  obtain ⟨t, o, t1, t2, n, rfl, ho, _, hd⟩ := a
  obtain ⟨t', o', t1', t2', n', e, ho', _, hd'⟩ := b
  cases e
  rw [ho] at ho'
  cases ho'
  rw [hd] at hd'
  simp only [Data.seq.injEq, Array.mk.injEq, List.cons.injEq, Value.int.injEq] at hd'
  exact ⟨hd'.1.1.1, hd'.1.2.1.1⟩
section
variable {X : Cx}
theorem cr_sortedItemsK (hc : X.calm = true) : CallR X (.builtin "sorted") rSortItK := by
  intro pins s σ H xs us Q I r h
  obtain ⟨p, a, ks, rfl, hp, ha, q⟩ := h
  obtain rfl := Vals.ref1 r
  have view : s.heap.IsItemsView p a := (show ObjOk X.prog X.w H s.heap p (DX.itemsO p a) from I.hok p _ hp).1
  obtain ⟨hz, hs0, vs, kv, o, es, ep, ho, hx, hdat, hko, hpr, hn⟩ := I.hok a _ ha
  have l0 : (ks.map ikv).length = vs.length := Paired.length kv
  rw [List.length_map] at l0 hz
  have l1 : es.size = ks.length := by rw [← Array.length_toList, pairs_len hpr, l0]
  refine DT.sortedI (es := es) (ep := ep) (I.ok.hd hc) view ⟨o, ho, hx, hdat⟩ (by rw [l1]; exact hz) fun h' tk as hk hlt hl hG => ?_
  have lak : as.length = ks.length := by omega
  have nd : as.Nodup := List.Pairwise.imp (fun h => Nat.ne_of_lt h) hG.rise
  have pr : ∀ (j : Nat) (b : Addr), as[j]? = some b → ∃ (e : Int × Int) (t1 t2 : Tok), ks[j]? = some e ∧ h'.get? b = some { cls := .type "tuple", data := .seq #[Value.int e.1 t1, Value.int e.2 t2] } := by
    intro j b hj
    obtain ⟨en, he, hg⟩ := hG.pairs j b hj
    obtain ⟨w, hw, k1, k2⟩ := pairs_get hpr (j := j) (e := en) (by rw [Array.getElem?_toList]; exact he)
    obtain ⟨x, hx, e1, e2⟩ := kv_get kv hw
    rw [List.getElem?_map] at hx
    cases hkj : ks[j]? with
    | none => rw [hkj] at hx; cases hx
    | some e =>
      rw [hkj] at hx
      cases hx
      rw [← e1] at k1
      obtain ⟨t1, f1⟩ := Value.isInt_shape (k := e.1) (v := en.key) k1
      obtain ⟨t2, f2⟩ : ∃ t, w.2 = Value.int e.2 t := e2
      exact ⟨e, t1, t2, rfl, by rw [hg, f1, k2, f2]⟩
  have hob : (h'.push { cls := .type "list", data := .seq (as.map Value.ref).toArray }).get? h'.objs.size = some (seqObj "list" (as.map Value.ref).toArray 0) := Heap.get?_push_size _ rfl
  have kb : ∀ b o, s.heap.get? b = some o → (h'.push { cls := .type "list", data := .seq (as.map Value.ref).toArray }).get? b = some o := fun b o e => Heap.get?_push_of_some _ (hk b o e)
  have ne0 : ∀ b o, h'.get? b = some o → b ≠ h'.objs.size := fun b o e => Nat.ne_of_lt (Heap.lt_size e)
  generalize hh2 : h'.push { cls := .type "list", data := .seq (as.map Value.ref).toArray } = h2 at hob kb ⊢
  have ka : ∀ b o, h'.get? b = some o → h2.get? b = some o := fun b o e => by rw [← hh2]; exact Heap.get?_push_of_some _ e
  let k : Value → Int × Int := fun v => (ks[as.idxOf (match v with | .ref b => b | _ => 0)]?).getD (0, 0)
  have kat : ∀ (j : Nat) (b : Addr) (e : Int × Int), as[j]? = some b → ks[j]? = some e → k (.ref b) = e := fun j b e h1 h2 => by
    have hj : as.idxOf b = j := by
      obtain ⟨hlt, e1⟩ := List.getElem?_eq_some_iff.mp h1
      rw [← e1]
      exact nd.idxOf_getElem _ _
    show (ks[as.idxOf b]?).getD (0, 0) = e
    rw [hj, h2]
    rfl
  have at_ : ∀ b ∈ as, ∃ (j : Nat) (e : Int × Int) (t1 t2 : Tok), as[j]? = some b ∧ ks[j]? = some e ∧ k (.ref b) = e ∧ h'.get? b = some { cls := .type "tuple", data := .seq #[Value.int e.1 t1, Value.int e.2 t2] } := fun b hb => by
    obtain ⟨j, hj⟩ := List.mem_iff_getElem?.mp hb
    obtain ⟨e, t1, t2, he, hg⟩ := pr j b hj
    exact ⟨j, e, t1, t2, hj, he, kat j b e hj he, hg⟩
  have hps : ∀ v ∈ as.map Value.ref, Srt.IsPair h2 v (k v).1 (k v).2 := fun v hv => by
    obtain ⟨b, hb, rfl⟩ := List.mem_map.mp hv
    obtain ⟨j, e, t1, t2, _, _, hke, hg⟩ := at_ b hb
    rw [hke]
    exact ⟨b, _, t1, t2, 0, rfl, ka _ _ hg, rfl, rfl⟩
  refine wpAny_call_entry PyProof.Rows.slot_list_sort ⟨_, hob, rfl⟩ PyProof.Rows.entry_list_sort
    (SrtO.list_sort_ord (s := { s with heap := h2, toks := tk }) (SrtO.swo_lex k) hob (by rw [List.length_map, lak]; exact hz) (fun hh => SrtO.pairs_sortableO (by omega) hps fun o e => ?_) fun out o1 o2 => ⟨.none, rfl, ?_⟩) (PyProof.Rows.args_list_sort _)
  · have e' : some o = some (seqObj "list" (as.map Value.ref).toArray 0) := e.symm.trans hob
    cases e'
    intro c
    exact absurd (Value.type.inj c) (by decide)
  · show EP X pins σ Q (.ref h'.objs.size) { s with heap := sortedHeap h2 h'.objs.size (as.map Value.ref) out.toArray, toks := tk }
    have h3 : ∀ u ∈ out, ∃ b, b ∈ as ∧ u = Value.ref b := fun u hu => by
      obtain ⟨b, hb, e⟩ := List.mem_map.mp (o2.perm.mem_iff.mp hu)
      exact ⟨b, hb, e.symm⟩
    obtain ⟨bs, ebs⟩ : ∃ bs : List Addr, out = bs.map Value.ref := by
      have : ∀ l : List Value, (∀ u ∈ l, ∃ b, b ∈ as ∧ u = Value.ref b) → ∃ bs : List Addr, l = bs.map Value.ref := by
        intro l
        induction l with
        | nil => intro _; exact ⟨[], rfl⟩
        | cons u l ih =>
          intro h
          obtain ⟨b, _, e⟩ := h u List.mem_cons_self
          obtain ⟨bs, e2⟩ := ih fun v hv => h v (List.mem_cons_of_mem _ hv)
          exact ⟨b :: bs, by rw [e, e2]; rfl⟩
      exact this out h3
    subst ebs
    have pb : bs.Perm as := by
      have := o2.perm
      have h4 := this.map (fun v => match v with | Value.ref b => b | _ => 0)
      rw [List.map_map, List.map_map] at h4
      simpa [Function.comp_def] using h4
    have ek : as.map (fun b => k (.ref b)) = ks := by
      refine List.ext_getElem? fun j => ?_
      rw [List.getElem?_map]
      cases hj : as[j]? with
      | none =>
        have := List.getElem?_eq_none_iff.mp hj
        exact (List.getElem?_eq_none (by omega)).symm
      | some b =>
        obtain ⟨e, t1, t2, he, _⟩ := pr j b hj
        rw [he]
        show some (k (.ref b)) = some e
        rw [kat j b e hj he]
    have kF : ∀ b o, b ≠ h'.objs.size → h2.get? b = some o → (sortedHeap h2 h'.objs.size (as.map Value.ref) (bs.map Value.ref).toArray).get? b = some o := fun b o hb e => (PyProof.Rows.sortedHeap_old hb (Heap.lt_size e)).trans e
    have kS : ∀ b o, s.heap.get? b = some o → (sortedHeap h2 h'.objs.size (as.map Value.ref) (bs.map Value.ref).toArray).get? b = some o := fun b o e => kF b o (ne0 _ _ (hk b o e)) (kb b o e)
    obtain ⟨eF, heF⟩ := PyProof.Rows.sortedHeap_at (vs := as.map Value.ref) (out := (bs.map Value.ref).toArray) hob
    have I1 : Inv X pins σ H { s with heap := sortedHeap h2 h'.objs.size (as.map Value.ref) (bs.map Value.ref).toArray, toks := tk } := I.kept (t' := tk) kS
    have hn0 : H h'.objs.size = none := I.hok.fresh (Nat.le_of_lt hlt)
    have I2 : Inv X pins σ (upd H h'.objs.size (.lst (bs.map V.ref))) { s with heap := sortedHeap h2 h'.objs.size (as.map Value.ref) (bs.map Value.ref).toArray, toks := tk } :=
      I1.take (h' := sortedHeap h2 h'.objs.size (as.map Value.ref) (bs.map Value.ref).toArray) (t' := tk) (fun b ob _ e => e) (I.fpOk (Nat.le_of_lt hlt) hn0) ⟨by rw [List.length_map, pb.length_eq, lak]; exact hz, bs.map Value.ref, eF, LiI.vals_refs bs, heF⟩
    obtain ⟨H2, I3, g, qt⟩ := DX.takeT (P := fun b vs => vs = [.int (k (.ref b)).1, .int (k (.ref b)).2]) I as _ I2 nd fun b hb => by
      obtain ⟨j, e, t1, t2, _, _, hke, hg⟩ := at_ b hb
      have hbl : s.heap.objs.size ≤ b := Nat.le_of_lt (hG.above b hb)
      refine ⟨hbl, ?_, [.int e.1, .int e.2], by rw [hke], fun H3 => ⟨(by rw [sizeLine_eq]; show 2 ≤ 16777216; omega), [Value.int e.1 t1, Value.int e.2 t2], .cons ⟨_, rfl⟩ (.cons ⟨_, rfl⟩ .nil), ⟨_, kF _ _ (ne0 _ _ hg) (ka _ _ hg), rfl, 0, rfl⟩⟩⟩
      rw [upd_ne (ne0 _ _ hg)]
      exact I.hok.fresh hbl
    have gr : ∀ b o, H b = some o → H2 b = some o := fun b o e => g b o (by rw [upd_ne (ne_of_none e hn0)]; exact e)
    refine ⟨.ref h'.objs.size, H2, I3, rfl, q H2 h'.objs.size (bs.map fun b => (b, k (.ref b))) gr ?_ ?_ hn0 ?_ ?_⟩
    · rw [List.map_map]
      have := pb.map (fun b => k (.ref b))
      rw [ek] at this
      exact this
    · rw [List.map_map, List.pairwise_map]
      have := o1
      unfold SrtO.Srtd at this
      rw [List.pairwise_map] at this
      refine this.imp fun {x y} h => ?_
      have := SrtO.lexB_no.mp h
      show (k (.ref x)).1 ≤ (k (.ref y)).1
      omega
    · rw [List.map_map]
      exact g _ _ upd_same
    · intro z hz
      obtain ⟨b, hb, rfl⟩ := List.mem_map.mp hz
      obtain ⟨vs, e, hH⟩ := qt b (pb.mem_iff.mp hb)
      rw [e] at hH
      exact hH
end
end SL
namespace SL
open PySem PySem.Spec PyProof.Rows L2
/-! ### sorted(d.items()) -/
def ikw (q : Int × Int) : Key × W := (Sum.inl q.1, .int q.2)
def pairW (q : Int × Int) : W := .tup [.int q.1, .int q.2]
def mSortItems (td : ME) : ME := fun E ρ Cs Q => td E ρ Cs fun x C => ∃ a ks, x = .ref a ∧ (a, MO.dic (ks.map ikw)) ∈ C ∧ ∀ p (ys : List (Int × Int)), ys.Perm ks → ys.Pairwise (fun e f => e.1 ≤ f.1) → Q (.ref p) ((p, .lst (ys.map pairW)) :: C)
theorem repKV_ik {K : PySem.W.Frag} {H : Hp} : ∀ {ks : List (Int × Int)} {kvs' : List (Key × V)}, repKV K H (ks.map ikw) kvs' → kvs' = ks.map ikv
  | [], kvs', h => by rw [repKV_nil.mp h]; rfl
  | q :: ks, kvs', h => by
    obtain ⟨v, r, rfl, h1, h2⟩ := repKV_cons.mp h
    rw [repKV_ik h2, rep_int.mp h1]
    rfl
theorem reps_pairs {K : PySem.W.Frag} {H : Hp} : ∀ (ps : List (Addr × Int × Int)), (∀ z ∈ ps, H z.1 = some (.tup [.int z.2.1, .int z.2.2])) → reps K H ((ps.map (·.2)).map pairW) (ps.map fun z => V.ref z.1)
  | [], _ => reps_nil.mpr rfl
  | z :: ps, h => reps_cc.mpr ⟨rep_tup.mpr ⟨z.1, _, rfl, .inl (.inl (h z List.mem_cons_self)), reps_cc.mpr ⟨rep_int.mpr rfl, reps_cc.mpr ⟨rep_int.mpr rfl, reps_nil.mpr rfl⟩⟩⟩, reps_pairs ps fun y hy => h y (List.mem_cons_of_mem _ hy)⟩
section
variable {X : Cx} {e : Expr} {td : ME} {p apos cpos pos : Pos}
theorem qe_sortItems (hc : X.calm = true) (hg : Gl X "sorted") (hm : X.mg "sorted" = none) (he : QE X e td) (hbase : attributeBase e "items" X.env (eval e X.env) = eval e X.env := by rfl) (hline : (apos.endLine == cpos.line) = true := by rfl)
    (hs : starEach [.Call (.Attribute e "items" apos) [] [] cpos] X.env = (false, eval (.Call (.Attribute e "items" apos) [] [] cpos) X.env) :: starEach [] X.env := by rfl) (hpl : (backTo pos (starEach [] X.env)).any (·.1) = false := by rfl) :
    QE X (.Call (.Name "sorted" p) [.Call (.Attribute e "items" apos) [] [] cpos] [] pos) (mSortItems td) := fun Wx tk => by
  have h1 := pe_callB (p := p) (pos := pos) (cr_sortedItemsK hc) hg hm bt_sorted (pa_cons (pe_bm0 (apos := apos) (cpos := cpos) PySem.F.plainAttrs_dict PySem.F.slot_dict_items PySem.F.type_dict_items mt_itemsK (he Wx tk) hbase hline) pa_nil) (by decide) (by decide) hs hpl
  refine pe_imp h1 fun σ H Q' ⟨ρ, Cs, E, Q, R, C, h, kQ, kE⟩ => ⟨ρ, Cs, E, _, R, C, h, fun x C1 vx H1 ⟨a, ks, e1, hmem, q⟩ tr rc rx => ?_, kE⟩
  subst e1
  obtain rfl := rep_ref.mp rx
  obtain ⟨kvs', f1, f2⟩ := rc.mem hmem
  obtain rfl := repKV_ik f2
  refine ⟨mtyW_ok rc (.inr (.inr (.inl ⟨a, _, rfl, rfl, hmem⟩))) (rep_ref.mpr rfl), a, _, rfl, rfl, f1, fun pv hpv => ?_⟩
  have ne : a ≠ pv := fun z => by rw [z, hpv] at f1; cases f1
  refine ⟨pv, a, ks, rfl, upd_same, (upd_ne ne).trans f1, fun H' l ps gr hperm hsort hl hH' hz => ?_⟩
  have gr1 : ∀ b o, H1 b = some o → H' b = some o := fun b o e => gr b o (by rw [upd_ne (ne_of_none e hpv)]; exact e)
  have hl1 : H1 l = none := by
    have : l ≠ pv := fun z => by rw [z, upd_same] at hl; cases hl
    rw [upd_ne this] at hl
    exact hl
  have rcg := rc.grow gr1
  refine kQ _ ((l, .lst ((ps.map (·.2)).map pairW)) :: C1) _ H' (q l _ hperm hsort) (tr.trans (tr_grow gr1)) ⟨?_, fun c hc => ?_⟩ (rep_ref.mpr rfl)
  · rw [List.map_cons]
    exact List.nodup_cons.mpr ⟨rc.fresh hl1, rc.nd⟩
  · rcases List.mem_cons.mp hc with rfl | hc
    · exact ⟨_, hH', reps_pairs ps hz⟩
    · exact rcg.ok c hc
end
theorem m2_get {X : Cx} {o e f : Expr} {apos cpos : Pos} (h1 : attributeBase o "get" X.env (eval o X.env) = eval o X.env := by rfl) (h2 : ((backTo cpos (starEach [e, f] X.env)).all (fun x => !x.1) && (backToKw cpos (keywordEach [] X.env)).all (fun x => x.1.isSome)
    && decide (([e, f] : List Expr).length + ([] : List Keyword).length + (if ([] : List Keyword).isEmpty then 0 else 1) < 30)) = true := by rfl) (h3 : (apos.endLine == cpos.line) = true := by rfl) (h4 : backTo cpos (starEach [e, f] X.env) = [(false, eval e X.env), (false, eval f X.env)] := by rfl) : M2 X o "get" apos e f cpos := ⟨h1, h2, h3, h4⟩
/-- a module's tuple of texts -/
theorem qe_gtup {X : Cx} {x : Str} {pos : Pos} {ws : List W} (hm : ∃ a, X.mg x = some (.ref a) ∧ ∀ H, rep X.K H (.tup ws) (.ref a)) (hg : Gl X x := by rfl) (hd : (x == ("__debug__" : Str)) = false := by decide) : QE X (.Name x pos) (mC (.tup ws)) := by
  obtain ⟨a, h, r⟩ := hm
  exact qe_glob hg h (v := .ref a) rfl r hd
theorem gtup_mk {K : PySem.W.Frag} {a : Addr} {o : Obj} {its : Array Value} {n : Nat} {xs : List Str} (lk : K.lookup a = some o) (hc : o.cls = .type "tuple") (hd : o.data = .seq its n) (hl : its.size ≤ sizeLine) (hv : Vals (xs.map V.str) its.toList) : ∀ H, rep K H (.tup (xs.map W.str)) (.ref a) := fun H => rep_tup.mpr ⟨a, _, rfl, .inr ⟨o, its, n, lk, hc, hd, hl, hv⟩, reps_strs.mpr rfl⟩
/-! ### the frame within a loop: the slots js are the loop's own -/
def mix (js : List Nat) (ρ ρ' : Rho) : Rho := fun i => if i ∈ js then ρ' i else ρ i
theorem mix_at {js : List Nat} {ρ ρ' : Rho} {i : Nat} : mix js ρ ρ' i = if i ∈ js then ρ' i else ρ i := rfl
theorem put_at {ρ : Rho} {i j : Nat} {w : W} : ρ.put i w j = if j = i then some w else ρ j := rfl
theorem del_at {ρ : Rho} {i j : Nat} : ρ.del i j = if j = i then none else ρ j := rfl
theorem wipe_at {ρ : Rho} {vs : List Nat} {j : Nat} : ρ.wipe vs j = if j ∈ vs then none else ρ j := rfl
theorem rho0_at {ws : List W} {i : Nat} : rho0 ws i = ws[i]? := rfl
theorem mix_put {js : List Nat} {ρ ρ' : Rho} {i : Nat} {w : W} (h : i ∈ js) : (mix js ρ ρ').put i w = mix js ρ (ρ'.put i w) := by
  funext j
  unfold mix Rho.put
  by_cases e : j = i
  · subst e
    rw [if_pos rfl, if_pos h, if_pos rfl]
  · by_cases q : j ∈ js
    · simp [e, q]
    · simp [e, q]
theorem mix_mix {js js' : List Nat} {R P Q : Rho} (h : js'.all (fun i => decide (i ∈ js)) = true) : mix js' (mix js R P) Q = mix js R (mix js' P Q) := by
  funext j
  unfold mix
  by_cases e : j ∈ js'
  · have : j ∈ js := by simpa using List.all_eq_true.mp h j e
    simp [e, this]
  · simp [e]
def Mx (js : List Nat) (ρ : Rho) (J : Rho → Cells → Prop) (ρ2 : Rho) (C : Cells) : Prop := ∃ ρ', ρ2 = mix js ρ ρ' ∧ J ρ' C
theorem mx_i {js : List Nat} {ρ ρ' : Rho} {J : Rho → Cells → Prop} {C C' : Cells} (p : Part C' C) (h : J ρ' C') : ∃ C', Part C' C ∧ Mx js ρ J (mix js ρ ρ') C' := ⟨C', p, ρ', rfl, h⟩
theorem mx_h {js : List Nat} {ρ ρ' : Rho} {J : Rho → Cells → Prop} {C : Cells} (h : J ρ' C) : ∃ C', Part C' C ∧ Mx js ρ J (mix js ρ ρ') C' := ⟨C, .here, ρ', rfl, h⟩
/-- what is walked, as a list -/
structure Items {α : Type} (k : Wk) (xs : List α) (enc : α → W) : Prop where
  n : k.n = xs.length
  it : ∀ i w, i < k.n → k.it i w → ∃ x, xs[i]? = some x ∧ w = enc x
theorem items_l {α : Type} {xs : List α} {enc : α → W} {kp : Cells → Prop} {n : Nat} (hn : n = (xs.map enc).length := by first | rfl | simp) : Items ⟨n, kp, fun i w => (xs.map enc)[i]? = some w⟩ xs enc := ⟨by rw [hn, List.length_map], fun i w _ e => by
  have e : (xs.map enc)[i]? = some w := e
  rw [List.getElem?_map] at e
  cases h : xs[i]? with
  | none => rw [h] at e; cases e
  | some x => rw [h] at e; cases e; exact ⟨x, rfl, rfl⟩⟩
theorem items_w {ws : List W} {kp : Cells → Prop} {n : Nat} (hn : n = ws.length := by first | rfl | simp) : Items ⟨n, kp, fun i w => ws[i]? = some w⟩ ws id := ⟨hn, fun i w _ e => ⟨w, e, rfl⟩⟩
theorem items_r {n : Nat} {kp : Cells → Prop} {lo : Int} : Items ⟨n, kp, fun i w => w = .int (lo + (i : Nat))⟩ (List.range n) (fun i => .int (lo + (i : Nat))) := ⟨by rw [List.length_range], fun i w h e => ⟨i, by rw [List.getElem?_range h], e⟩⟩
theorem items_r0 {n : Nat} {kp : Cells → Prop} : Items ⟨n, kp, fun i w => w = .int ((i : Nat) : Int)⟩ (List.range n) (fun i => .int ((i : Nat) : Int)) := ⟨by rw [List.length_range], fun i w h e => ⟨i, by rw [List.getElem?_range h], e⟩⟩
theorem items_e {α : Type} {xs : List α} {enc : α → W} {kp : Cells → Prop} {n : Nat} (hn : n = (xs.map enc).length := by first | rfl | simp) : Items ⟨n, kp, fun i w => ∃ u, (xs.map enc)[i]? = some u ∧ w = .tup [.int (i : Nat), u]⟩ xs.zipIdx (fun p => .tup [.int (p.2 : Nat), enc p.1]) := ⟨by rw [hn, List.length_map, List.length_zipIdx], fun i w _ e => by
  obtain ⟨u, e, rfl⟩ := e
  rw [List.getElem?_map] at e
  cases h : xs[i]? with
  | none => rw [h] at e; cases e
  | some x => rw [h] at e; cases e; exact ⟨(x, i), by rw [List.getElem?_zipIdx, h]; simp, rfl⟩⟩
theorem split_get {α : Type} {xs : List α} {i : Nat} {x : α} (h : xs[i]? = some x) : xs = xs.take i ++ x :: xs.drop (i + 1) ∧ xs.take (i + 1) = xs.take i ++ [x] := by
  obtain ⟨hi, e⟩ := List.getElem?_eq_some_iff.mp h
  have h1 : xs.take (i + 1) = xs.take i ++ [x] := by rw [List.take_succ_eq_append_getElem hi, e]
  refine ⟨?_, h1⟩
  have h2 := List.take_append_drop (i + 1) xs
  rw [h1, List.append_assoc] at h2
  exact h2.symm
/-- a for loop, by what is gone through -/
theorem forL_i {α : Type} {g : MG} {tb : MS} {D : EndsW} {ρ : Rho} {k : Wk} {C1 : Cells} {xs : List α} {enc : α → W} (js : List Nat) (J : List α → Rho → Cells → Prop) (hk : Items k xs enc) (h0 : J [] ρ C1)
    (ht : ∀ (pre : List α) (x : α) (post : List α) (ρ' : Rho) (C' : Cells), xs = pre ++ x :: post → J pre ρ' C' → g (mix js ρ ρ') (enc x) C' fun ρ2 C2 => tb (D.turn (Mx js ρ (J (pre ++ [x])))) ρ2 C2)
    (hd : ∀ ρ' C', J xs ρ' C' → D.nx (mix js ρ ρ') C') (hkeep : ∀ pre post ρ' C', xs = pre ++ post → J pre ρ' C' → k.keep C' := by exact fun _ _ _ _ _ _ => trivial) : forB g tb D ρ k C1 := by
  refine forB_i (fun i ρc C => Mx js ρ (J (xs.take i)) ρc C) ⟨ρ, ?_, by rw [List.take_zero]; exact h0⟩ ?_ ?_ ?_
  · funext i
    unfold mix
    split <;> rfl
  · rintro i ρc C' hi ⟨ρ', _, h⟩
    exact hkeep _ _ _ _ (List.take_append_drop i xs).symm h
  · rintro i w ρc C' hi hw ⟨ρ', rfl, h⟩
    obtain ⟨x, hx, rfl⟩ := hk.it i w hi hw
    obtain ⟨e1, e2⟩ := split_get hx
    have := ht _ x _ ρ' C' e1 h
    rw [← e2] at this
    exact this
  · rintro ρc C' ⟨ρ', rfl, h⟩
    rw [hk.n, List.take_length] at h
    exact hd ρ' C' h
/-! a comprehension that writes nothing -/
theorem part_self {C : Cells} : Part C C = True := eq_true .here
theorem lcL_i {α : Type} {g : MG} {tt : MT} {te : ME} {vs : List Nat} {ρ : Rho} {Q : WK} {k : Wk} {C1 : Cells} {xs : List α} {enc : α → W} (P : α → Bool) (F : α → W) (hk : Items k xs enc) (hl : xs.length ≤ 90000)
    (ht : ∀ (D : Addr) (acc : List W) (x : α) (KT : WK) (KN : Cells → Prop), x ∈ xs → (P x = true → KT (F x) ((D, .lst acc) :: C1)) → (P x = false → KN ((D, .lst acc) :: C1)) → g (ρ.wipe vs) (enc x) ((D, .lst acc) :: C1) fun ρ2 C2 => tt X0 ρ2 C2 fun b C3 => (b = true → te X0 ρ2 C3 KT) ∧ (b = false → KN C3))
    (hd : ∀ D, Q (.ref D) ((D, .lst ((xs.filter P).map F)) :: C1)) (hkeep : k.keep C1 := by exact trivial) : lcB g tt te vs ρ Q k C1 := by
  refine lcB_i (fun i acc C => acc = ((xs.take i).filter P).map F ∧ C = C1) ⟨by rw [List.take_zero]; rfl, rfl⟩ (fun i acc C hi h => by rw [h.2]; exact hkeep) ?_ ?_
  · rintro D i w acc C hi hw ⟨e1, rfl⟩
    obtain ⟨x, hx, rfl⟩ := hk.it i w hi hw
    obtain ⟨_, e2⟩ := split_get hx
    have hlen : acc.length < 100000 := by
      rw [e1, List.length_map]
      have h1 := List.length_filter_le P (xs.take i)
      have h2 : (xs.take i).length ≤ i := List.length_take_le i xs
      have h3 := hk.n
      have h4 : i < k.n := hi
      omega
    refine ht D acc x (fun y C4 => acc.length < 100000 ∧ ∃ C5, Part ((D, .lst acc) :: C5) C4 ∧ (acc ++ [y] = ((xs.take (i + 1)).filter P).map F ∧ C5 = C)) (fun C3 => ∃ C5, Part ((D, .lst acc) :: C5) C3 ∧ (acc = ((xs.take (i + 1)).filter P).map F ∧ C5 = C)) (List.mem_of_getElem? hx) (fun p1 => ?_) (fun p1 => ?_)
    · refine ⟨hlen, C, .here, ?_, rfl⟩
      rw [e2, List.filter_append, List.map_append, e1]
      simp [p1]
    · refine ⟨C, .here, ?_, rfl⟩
      rw [e2, List.filter_append, List.map_append, e1]
      simp [p1]
  · rintro D acc C ⟨rfl, rfl⟩
    rw [hk.n, List.take_length]
    exact hd D
/-- without a test -/
theorem lcM_i {α : Type} {g : MG} {te : ME} {vs : List Nat} {ρ : Rho} {Q : WK} {k : Wk} {C1 : Cells} {xs : List α} {enc : α → W} (F : α → W) (hk : Items k xs enc) (hl : xs.length ≤ 90000)
    (ht : ∀ (D : Addr) (acc : List W) (x : α) (KT : WK), x ∈ xs → KT (F x) ((D, .lst acc) :: C1) → g (ρ.wipe vs) (enc x) ((D, .lst acc) :: C1) fun ρ2 C2 => te X0 ρ2 C2 KT)
    (hd : ∀ D, Q (.ref D) ((D, .lst (xs.map F)) :: C1)) (hkeep : k.keep C1 := by exact trivial) : lcB g mYes te vs ρ Q k C1 := by
  refine lcB_i (fun i acc C => acc = (xs.take i).map F ∧ C = C1) ⟨by rw [List.take_zero]; rfl, rfl⟩ (fun i acc C hi h => by rw [h.2]; exact hkeep) ?_ ?_
  · rintro D i w acc C hi hw ⟨e1, rfl⟩
    obtain ⟨x, hx, rfl⟩ := hk.it i w hi hw
    obtain ⟨_, e2⟩ := split_get hx
    have hlen : acc.length < 100000 := by
      rw [e1, List.length_map]
      have h2 : (xs.take i).length ≤ i := List.length_take_le i xs
      have h3 := hk.n
      have h4 : i < k.n := hi
      omega
    have base := ht D acc x (fun y C4 => acc.length < 100000 ∧ ∃ C5, Part ((D, .lst acc) :: C5) C4 ∧ (acc ++ [y] = (xs.take (i + 1)).map F ∧ C5 = C)) (List.mem_of_getElem? hx) ⟨hlen, C, .here, by rw [e2, List.map_append, e1]; rfl, rfl⟩
    have e : (fun (ρ2 : Rho) (C2 : Cells) => mYes X0 ρ2 C2 fun b C3 => (b = true → te X0 ρ2 C3 fun y C4 => acc.length < 100000 ∧ ∃ C5, Part ((D, .lst acc) :: C5) C4 ∧ (acc ++ [y] = (xs.take (i + 1)).map F ∧ C5 = C)) ∧ (b = false → ∃ C5, Part ((D, .lst acc) :: C5) C3 ∧ (acc = (xs.take (i + 1)).map F ∧ C5 = C))) = fun (ρ2 : Rho) (C2 : Cells) => te X0 ρ2 C2 fun y C4 => acc.length < 100000 ∧ ∃ C5, Part ((D, .lst acc) :: C5) C4 ∧ (acc ++ [y] = (xs.take (i + 1)).map F ∧ C5 = C) := by
      funext ρ2 C2
      exact propext ⟨fun h => h.1 rfl, fun h => ⟨fun _ => h, fun z => by cases z⟩⟩
    rw [e]
    exact base
  · rintro D acc C ⟨rfl, rfl⟩
    rw [hk.n, List.take_length]
    exact hd D
end SL
namespace SL
open PySem PySem.Spec PyProof.Rows L2
theorem nm_down : Dir.nm .down = Str.ofString "down" := rfl
theorem nm_up : Dir.nm .up = Str.ofString "up" := rfl
theorem nm_right : Dir.nm .right = Str.ofString "right" := rfl
theorem nm_left : Dir.nm .left = Str.ofString "left" := rfl
theorem pw_10_60 : CPowA 10 60 = True := eq_true (powA (by decide) (n := 4) (by decide) (by decide))
theorem pw_10_12 : CPowA 10 12 = True := eq_true (powA (by decide) (n := 4) (by decide) (by decide))
theorem pw_10_36 : CPowA 10 36 = True := eq_true (powA (by decide) (n := 4) (by decide) (by decide))
theorem map_w_eq {cs ds : List Cmd} : (cs.map Cmd.w = ds.map Cmd.w) = (cs = ds) := propext ⟨map_w_inj, fun h => by rw [h]⟩
end SL
namespace SL
open PySem PySem.Spec PyProof.Rows L2
/-! ### commands, plainly -/
def Cmd.mv : Cmd → Int
  | .go .down n => n
  | .go .up n => 0 - n
  | _ => 0
def off : List Cmd → Int
  | [] => 0
  | c :: cs => c.mv + off cs
def lo : List Cmd → Int
  | [] => 0
  | c :: cs => min 0 (c.mv + lo cs)
def hi : List Cmd → Int
  | [] => 0
  | c :: cs => max 0 (c.mv + hi cs)
theorem off_app : ∀ (a b : List Cmd), off (a ++ b) = off a + off b
  | [], b => by simp [off]
  | c :: a, b => by
    rw [List.cons_append, off, off, off_app a b]
    omega
theorem lo_app : ∀ (a b : List Cmd), lo (a ++ b) = min (lo a) (off a + lo b)
  | [], b => by
    have : lo b ≤ 0 := by cases b with | nil => exact Int.le_refl _ | cons c b => unfold lo; omega
    simp only [List.nil_append, lo, off]
    omega
  | c :: a, b => by
    rw [List.cons_append, lo, lo, off, lo_app a b]
    omega
theorem hi_app : ∀ (a b : List Cmd), hi (a ++ b) = max (hi a) (off a + hi b)
  | [], b => by
    have : 0 ≤ hi b := by cases b with | nil => exact Int.le_refl _ | cons c b => unfold hi; omega
    simp only [List.nil_append, hi, off]
    omega
  | c :: a, b => by
    rw [List.cons_append, hi, hi, off, hi_app a b]
    omega
theorem lo_le (a : List Cmd) : lo a ≤ 0 := by cases a with | nil => exact Int.le_refl _ | cons c b => unfold lo; omega
theorem hi_ge (a : List Cmd) : 0 ≤ hi a := by cases a with | nil => exact Int.le_refl _ | cons c b => unfold hi; omega
theorem lo_off : ∀ a : List Cmd, lo a ≤ off a
  | [] => Int.le_refl _
  | c :: a => by
    have := lo_off a
    unfold lo off
    omega
theorem off_hi : ∀ a : List Cmd, off a ≤ hi a
  | [] => Int.le_refl _
  | c :: a => by
    have := off_hi a
    unfold hi off
    omega
theorem off_snoc (a : List Cmd) (c : Cmd) : off (a ++ [c]) = off a + c.mv := by rw [off_app]; simp [off]
theorem lo_snoc (a : List Cmd) (c : Cmd) : lo (a ++ [c]) = min (lo a) (off a + c.mv) := by
  have := lo_off a
  rw [lo_app]
  simp only [lo]
  omega
theorem hi_snoc (a : List Cmd) (c : Cmd) : hi (a ++ [c]) = max (hi a) (off a + c.mv) := by
  have := off_hi a
  rw [hi_app]
  simp only [hi]
  omega
/-- commands as callers give them -/
def okM (cs : List Cmd) : Prop := ∀ c, c ∈ cs → c.ok BIG
theorem okM.app {a b : List Cmd} (h : okM a) (g : okM b) : okM (a ++ b) := fun c hc => (List.mem_append.mp hc).elim (h c) (g c)
theorem okM.sub {a b : List Cmd} (h : okM b) (s : ∀ c, c ∈ a → c ∈ b) : okM a := fun c hc => h c (s c hc)
theorem okM.one {c : Cmd} (h : c.ok BIG) : okM [c] := fun d hd => by rw [List.mem_singleton.mp hd]; exact h
theorem okM.nil : okM [] := fun d hd => nomatch hd
/-! ### goals: none counts as greater than all -/
abbrev Go := Option Int
def gW : Go → W
  | none => .non
  | some a => .int a
def shw (l : Int) : Go → Int
  | none => l
  | some a => min a l
def stp (l : Int) (g : Go) : Cmd → Go
  | .go .right n => some (min (shw l g + n) l)
  | .go .left n => some (max (shw l g - n) 0)
  | .go _ _ => g
  | .home => some 0
  | .fin => none
/-- the goal behind commands, begun at offset o -/
def rnG (L : Int → Int) : Int → Go → List Cmd → Go
  | _, g, [] => g
  | o, g, c :: cs => rnG L (o + c.mv) (stp (L o) g c) cs
theorem rnG_app (L : Int → Int) : ∀ (o : Int) (g : Go) (a b : List Cmd), rnG L o g (a ++ b) = rnG L (o + off a) (rnG L o g a) b
  | o, g, [], b => by simp [rnG, off]
  | o, g, c :: a, b => by
    rw [List.cons_append, rnG, rnG, rnG_app L _ _ a b, off, Int.add_assoc]
def gge (v : Int) : Go → Prop
  | none => True
  | some a => v ≤ a
instance (v : Int) (g : Go) : Decidable (gge v g) := by cases g <;> unfold gge <;> infer_instance
def g0 (g : Go) : Prop := gge 0 g
theorem stp_0 {l : Int} {g : Go} (hl : 0 ≤ l) (hg : g0 g) (c : Cmd) (hc : c.ok BIG) : g0 (stp l g c) := by
  cases c with
  | go d n =>
    have h1 := hc.1
    cases d <;> cases g <;> simp only [stp, g0, gge, shw] at * <;> omega
  | home => simp [stp, g0, gge]
  | fin => simp [stp, g0, gge]
theorem rnG_0 {L : Int → Int} (hL : ∀ o, 0 ≤ L o) : ∀ (cs : List Cmd) (o : Int) (g : Go), g0 g → okM cs → g0 (rnG L o g cs)
  | [], _, _, hg, _ => hg
  | c :: cs, o, g, hg, hc => rnG_0 hL cs _ _ (stp_0 (hL o) hg c (hc c List.mem_cons_self)) (hc.sub fun d hd => List.mem_cons_of_mem _ hd)
/-! ### lines with bounds -/
abbrev Lns := List (Int × Int)
def lgt (ls : Lns) (o : Int) : Option Int := (ls.find? fun q => decide (q.1 = o)).map (·.2)
def lg0 (ls : Lns) (o : Int) : Int := (lgt ls o).getD 0
/-- the bound of a line, or another one -/
def lgd (ls : Lns) (o d : Int) : Int := (lgt ls o).getD d
def lpt (ls : Lns) (o x : Int) : Lns := if (ls.any fun q => decide (q.1 = o)) = true then ls.map (fun q => if q.1 = o then (q.1, x) else q) else ls ++ [(o, x)]
theorem val_ik (ls : Lns) (o : Int) : valW (ls.map ikw) (.inl o) = (lgt ls o).map W.int := by
  unfold valW lgt
  induction ls with
  | nil => rfl
  | cons q ls ih =>
    rw [List.map_cons]
    by_cases h : q.1 = o
    · rw [List.find?_cons_of_pos (by simp [ikw, h]), List.find?_cons_of_pos (by simp [h])]; rfl
    · rw [List.find?_cons_of_neg (by simp [ikw, h]), List.find?_cons_of_neg (by simp [h])]
      exact ih
theorem put_ik (ls : Lns) (o x : Int) : putW (ls.map ikw) (.inl o) (.int x) = (lpt ls o x).map ikw := by
  unfold putW lpt
  have e : ((ls.map ikw).any fun kv => decide (kv.1 = (Sum.inl o : Key))) = ls.any fun q => decide (q.1 = o) := by
    rw [List.any_map]
    congr 1
    funext q
    show decide ((Sum.inl q.1 : Key) = Sum.inl o) = decide (q.1 = o)
    by_cases h : q.1 = o
    · simp [h]
    · have h2 : ¬ (Sum.inl q.1 : Key) = Sum.inl o := fun e => h (Sum.inl.inj e)
      rw [decide_eq_false h, decide_eq_false h2]
  rw [e]
  split
  · rw [List.map_map, List.map_map]
    refine List.map_congr_left fun q _ => ?_
    show (if (Sum.inl q.1 : Key) = Sum.inl o then _ else _) = ikw (if q.1 = o then (q.1, x) else q)
    by_cases h : q.1 = o
    · rw [if_pos (by rw [h]), if_pos h]; rfl
    · rw [if_neg (fun e => h (Sum.inl.inj e)), if_neg h]
  · rw [List.map_append]; rfl
theorem lgt_put (ls : Lns) (o x p : Int) : lgt (lpt ls o x) p = if p = o then some x else lgt ls p := by
  unfold lpt
  split
  · next h =>
    unfold lgt
    induction ls with
    | nil => simp at h
    | cons q ls ih =>
      rw [List.map_cons, List.find?_cons, List.find?_cons]
      by_cases e : q.1 = o
      · rw [if_pos e]
        by_cases ep : p = o
        · subst ep; simp [e]
        · have : ¬ q.1 = p := fun z => ep (z.symm.trans e)
          rw [if_neg ep]
          simp only [decide_eq_false this]
          have key : ∀ ls : Lns, ((ls.map fun q => if q.1 = o then (q.1, x) else q).find? fun q => decide (q.1 = p)).map (·.2) = (ls.find? fun q => decide (q.1 = p)).map (·.2) := by
            intro ls
            induction ls with
            | nil => rfl
            | cons r ls ih2 =>
              rw [List.map_cons, List.find?_cons, List.find?_cons]
              by_cases er : r.1 = o
              · have e3 : ¬ r.1 = p := fun z => ep (z.symm.trans er)
                rw [if_pos er]
                simp only [decide_eq_false e3]
                exact ih2
              · rw [if_neg er]
                by_cases e4 : r.1 = p
                · simp [e4]
                · simp only [decide_eq_false e4]; exact ih2
          exact key ls
      · rw [if_neg e]
        have h' : (ls.any fun q => decide (q.1 = o)) = true := by simpa [e] using h
        have := ih h'
        by_cases ep : q.1 = p
        · have : ¬ p = o := fun z => e (ep.trans z)
          rw [if_neg this]
          simp [ep]
        · simp only [decide_eq_false ep]
          exact this
  · next h =>
    unfold lgt
    rw [List.find?_append]
    by_cases ep : p = o
    · subst ep
      rw [if_pos rfl]
      have : ls.find? (fun q => decide (q.1 = p)) = none := by
        rw [List.find?_eq_none]
        intro q hq e
        apply h
        rw [List.any_eq_true]
        exact ⟨q, hq, e⟩
      rw [this]
      simp
    · rw [if_neg ep]
      have : ¬ o = p := fun z => ep z.symm
      cases ls.find? (fun q => decide (q.1 = p)) <;> simp [this]
theorem lg0_put (ls : Lns) (o x p : Int) : lg0 (lpt ls o x) p = if p = o then x else lg0 ls p := by
  unfold lg0
  rw [lgt_put]
  split <;> rfl
/-- each line once -/
def ndK (ls : Lns) : Prop := (ls.map (·.1)).Nodup
theorem ndK_put {ls : Lns} (h : ndK ls) (o x : Int) : ndK (lpt ls o x) := by
  unfold lpt ndK
  split
  · rw [List.map_map]
    have : (fun q : Int × Int => q.1) ∘ (fun q => if q.1 = o then (q.1, x) else q) = fun q => q.1 := by
      funext q
      simp only [Function.comp]
      split <;> rfl
    rw [this]
    exact h
  · next hn =>
    rw [List.map_append, List.map_cons, List.map_nil]
    refine List.nodup_append.mpr ⟨h, by simp, fun a ha b hb => ?_⟩
    rw [List.mem_singleton] at hb
    subst hb
    rintro rfl
    obtain ⟨q, hq, e⟩ := List.mem_map.mp ha
    apply hn
    rw [List.any_eq_true]
    exact ⟨q, hq, by simp [e]⟩
theorem lgt_mem {ls : Lns} (h : ndK ls) {o b : Int} : lgt ls o = some b ↔ (o, b) ∈ ls := by
  unfold lgt
  induction ls with
  | nil => simp
  | cons q ls ih =>
    unfold ndK at h
    rw [List.map_cons] at h
    obtain ⟨h1, h2⟩ := List.nodup_cons.mp h
    rw [List.find?_cons]
    by_cases e : q.1 = o
    · simp only [decide_eq_true e, Option.map_some, Option.some.injEq, List.mem_cons]
      constructor
      · intro z; left; rw [← e, ← z]
      · rintro (z | z)
        · rw [← z]
        · exact absurd (List.mem_map.mpr ⟨_, z, rfl⟩) (by rw [← e]; exact h1)
    · simp only [decide_eq_false e, List.mem_cons]
      rw [ih h2]
      constructor
      · exact .inr
      · rintro (z | z)
        · exact absurd (by rw [← z]) e
        · exact z
end SL
namespace SL
open PySem PySem.Spec PyProof.Rows L2
theorem ite_max {i j : Int} : (if i < j then j else i) = max i j := by rw [Int.max_def]; split <;> split <;> omega
theorem ite_min {i j : Int} : (if j < i then j else i) = min i j := by rw [Int.min_def]; split <;> split <;> omega
/-! ### lines in the order of their offsets -/
def srt (ls : Lns) : Lns := ls.mergeSort fun a b => decide (a.1 ≤ b.1)
theorem srt_perm (ls : Lns) : (srt ls).Perm ls := List.mergeSort_perm _ _
theorem srt_sorted (ls : Lns) : (srt ls).Pairwise fun a b => a.1 ≤ b.1 := by
  have := List.pairwise_mergeSort (le := fun a b : Int × Int => decide (a.1 ≤ b.1)) (fun a b c h1 h2 => by simp only [decide_eq_true_eq] at *; omega) (fun a b => by simp only [Bool.or_eq_true, decide_eq_true_eq]; omega) ls
  exact this.imp fun h => by simpa using h
theorem pw_uniq : ∀ {xs ys : Lns}, xs.Perm ys → ndK ys → xs.Pairwise (fun a b => a.1 ≤ b.1) → ys.Pairwise (fun a b => a.1 ≤ b.1) → xs = ys
  | [], ys, p, _, _, _ => by rw [List.nil_perm.mp p]
  | x :: xs, [], p, _, _, _ => by have := p.length_eq; simp at this
  | x :: xs, y :: ys, p, nd, h1, h2 => by
    have nd' := nd
    unfold ndK at nd'
    rw [List.map_cons] at nd'
    obtain ⟨n1, n2⟩ := List.nodup_cons.mp nd'
    obtain ⟨a1, a2⟩ := List.pairwise_cons.mp h1
    obtain ⟨b1, b2⟩ := List.pairwise_cons.mp h2
    have e : x = y := by
      have hx : x ∈ y :: ys := p.mem_iff.mp List.mem_cons_self
      have hy : y ∈ x :: xs := p.mem_iff.mpr List.mem_cons_self
      rcases List.mem_cons.mp hx with e | hx
      · exact e
      rcases List.mem_cons.mp hy with e | hy
      · exact e.symm
      have l1 := b1 x hx
      have l2 := a1 y hy
      have : x.1 = y.1 := by omega
      exact absurd (List.mem_map.mpr ⟨x, hx, this⟩) n1
    subst e
    rw [pw_uniq (List.perm_cons _ |>.mp p) n2 a2 b2]
theorem ndK_perm {xs ys : Lns} (p : xs.Perm ys) (h : ndK ys) : ndK xs := (p.map _).nodup_iff.mpr h
theorem srt_uniq {ls ys : Lns} (p : ys.Perm ls) (nd : ndK ls) (h : ys.Pairwise fun a b => a.1 ≤ b.1) : ys = srt ls := pw_uniq (p.trans (srt_perm ls).symm) (ndK_perm (srt_perm ls) nd) h (srt_sorted ls)
theorem srt_nd {ls : Lns} (nd : ndK ls) : ndK (srt ls) := ndK_perm (srt_perm ls) nd
theorem lgt_srt {ls : Lns} (nd : ndK ls) (o : Int) : lgt (srt ls) o = lgt ls o := by
  refine Option.ext fun b => ?_
  rw [lgt_mem (srt_nd nd), lgt_mem nd, (srt_perm ls).mem_iff]
/-- the same bounds, the same lines -/
theorem srt_ext {a b : Lns} (ha : ndK a) (hb : ndK b) (h : ∀ o, lgt a o = lgt b o) : srt a = srt b := by
  refine srt_uniq ?_ hb (srt_sorted a)
  refine (srt_perm a).trans ?_
  have na : a.Nodup := List.Pairwise.of_map _ (fun x y h e => h (by rw [e])) ha
  have nb : b.Nodup := List.Pairwise.of_map _ (fun x y h e => h (by rw [e])) hb
  refine (List.perm_ext_iff_of_nodup na nb).mpr fun q => ?_
  obtain ⟨o, x⟩ := q
  rw [← lgt_mem ha, ← lgt_mem hb, h]
/-! ### boxes -/
abbrev Bx := Option (Go × Lns)
inductive BS where
  | run (m : Int) (ls : Lns)
  | stop (r : Bx)
def bst (o : Int) (m : Int) (ls : Lns) : Cmd → BS
  | .go .left n => if m + n ≤ 0 then .stop (some (none, lpt ls o (max (lg0 ls o) (m + n)))) else .run (m + n) (lpt ls o (max (lg0 ls o) (m + n)))
  | .go .right n => if m - n ≤ 0 then .stop (some (none, lpt ls o (max (lg0 ls o) m))) else .run (m - n) (lpt ls o (max (lg0 ls o) m))
  | .go _ _ => .run m ls
  | .home => .stop none
  | .fin => .stop (some (none, ls))
def bcn (o : Int) (c : Cmd) : BS → BS
  | .stop r => .stop r
  | .run m ls => bst o m ls c
def boxF : Int → List Cmd → Int → BS
  | _, [], v => .run v []
  | o, c :: cs, v => bcn o c (boxF (o + c.mv) cs v)
theorem bst_left {o m n : Int} {ls : Lns} : bst o m ls (.go .left n) = if m + n ≤ 0 then .stop (some (none, lpt ls o (max (lg0 ls o) (m + n)))) else .run (m + n) (lpt ls o (max (lg0 ls o) (m + n))) := rfl
theorem bst_right {o m n : Int} {ls : Lns} : bst o m ls (.go .right n) = if m - n ≤ 0 then .stop (some (none, lpt ls o (max (lg0 ls o) m))) else .run (m - n) (lpt ls o (max (lg0 ls o) m)) := rfl
theorem boxF_nil {o v : Int} : boxF o [] v = .run v [] := rfl
theorem boxF_cons {o v : Int} {c : Cmd} {cs : List Cmd} : boxF o (c :: cs) v = bcn o c (boxF (o + c.mv) cs v) := rfl
def BS.out : BS → Bx
  | .run m ls => some (some m, ls)
  | .stop r => r
def boxO (cs : List Cmd) (v : Int) : Bx := (boxF 0 cs v).out
def hold (L : Int → Int) (g : Go) : Bx → Prop
  | none => False
  | some (s, ls) => (∀ m, s = some m → gge m g) ∧ ∀ p, lg0 ls p ≤ L p
/-- a box as it is given -/
structure BxOk (b : Bx) : Prop where
  s : ∀ s ls, b = some (s, ls) → ∀ m, s = some m → 1 ≤ m
  nd : ∀ s ls, b = some (s, ls) → ndK ls
  ge : ∀ s ls, b = some (s, ls) → ∀ o x, (o, x) ∈ ls → 1 ≤ x
def BS.ok : BS → Prop
  | .run m ls => 1 ≤ m ∧ ndK ls ∧ ∀ o x, (o, x) ∈ ls → 1 ≤ x
  | .stop r => BxOk r
theorem lpt_ge {ls : Lns} (nd : ndK ls) {o x : Int} (hx : 1 ≤ x) (h : ∀ p y, (p, y) ∈ ls → 1 ≤ y) : ∀ p y, (p, y) ∈ lpt ls o x → 1 ≤ y := by
  intro p y hm
  rw [← lgt_mem (ndK_put nd o x), lgt_put] at hm
  split at hm
  · cases hm; exact hx
  · exact h p y ((lgt_mem nd).mp hm)
theorem lg0_ge {ls : Lns} (nd : ndK ls) (h : ∀ p y, (p, y) ∈ ls → 1 ≤ y) (o : Int) : 0 ≤ lg0 ls o := by
  unfold lg0
  cases e : lgt ls o with
  | none => exact Int.le_refl _
  | some b =>
    have := h o b ((lgt_mem nd).mp e)
    show (0 : Int) ≤ b
    omega
theorem bst_ok {o m : Int} {ls : Lns} {c : Cmd} (hc : c.ok BIG) (h : BS.ok (.run m ls)) : (bst o m ls c).ok := by
  obtain ⟨h1, h2, h3⟩ := h
  have tail : ∀ {s : Go} {x : Int}, 1 ≤ x → (∀ m, s = some m → 1 ≤ m) → BxOk (some (s, lpt ls o x)) := fun {s x} hx hs => ⟨fun _ _ e => by cases e; exact hs, fun _ _ e => by cases e; exact ndK_put h2 _ _, fun _ _ e => by cases e; exact lpt_ge h2 hx h3⟩
  cases c with
  | home => exact ⟨fun _ _ e => by (cases e), fun _ _ e => by (cases e), fun _ _ e => by (cases e)⟩
  | fin => exact ⟨fun _ _ e => by (cases e; intro m e; cases e), fun _ _ e => by (cases e; exact h2), fun _ _ e => by (cases e; exact h3)⟩
  | go d n =>
    have hn := hc.1
    have g0 := lg0_ge h2 h3 o
    cases d with
    | down => exact ⟨h1, h2, h3⟩
    | up => exact ⟨h1, h2, h3⟩
    | left =>
      rw [bst_left, if_neg (by omega)]
      exact ⟨by omega, ndK_put h2 _ _, lpt_ge h2 (by omega) h3⟩
    | right =>
      rw [bst_right]
      by_cases hz : m - n ≤ 0
      · rw [if_pos hz]
        exact tail (by omega) fun m e => by cases e
      · rw [if_neg hz]
        exact ⟨by omega, ndK_put h2 _ _, lpt_ge h2 (by omega) h3⟩
theorem boxF_ok : ∀ {cs : List Cmd} {o v : Int}, okM cs → 1 ≤ v → (boxF o cs v).ok
  | [], o, v, _, hv => ⟨hv, List.nodup_nil, fun _ _ h => nomatch h⟩
  | c :: cs, o, v, hc, hv => by
    have ih := boxF_ok (o := o + c.mv) (v := v) (hc.sub fun d hd => List.mem_cons_of_mem _ hd) hv
    rw [boxF_cons]
    cases e : boxF (o + c.mv) cs v with
    | stop r => rw [e] at ih; exact ih
    | run m ls => rw [e] at ih; exact bst_ok (hc c List.mem_cons_self) ih
theorem out_ok {b : BS} (h : b.ok) : BxOk b.out := by
  cases b with
  | stop r => exact h
  | run m ls =>
    obtain ⟨h1, h2, h3⟩ := h
    exact ⟨fun _ _ e => by (cases e; intro m e; cases e; exact h1), fun _ _ e => by (cases e; exact h2), fun _ _ e => by (cases e; exact h3)⟩
theorem boxO_ok {cs : List Cmd} {v : Int} (hc : okM cs) (hv : 1 ≤ v) : BxOk (boxO cs v) := out_ok (boxF_ok hc hv)
/-- one step back -/
theorem bst_iff {L : Int → Int} (hL : ∀ o, 0 ≤ L o) {o m : Int} {ls : Lns} {c : Cmd} {g : Go} (hc : c.ok BIG) (hg : g0 g) (h : BS.ok (.run m ls)) : hold L (stp (L o) g c) (some (some m, ls)) ↔ hold L g (bst o m ls c).out := by
  obtain ⟨h1, h2, h3⟩ := h
  have base : ∀ g' : Go, hold L g' (some (some m, ls)) ↔ gge m g' ∧ ∀ p, lg0 ls p ≤ L p := fun g' => ⟨fun h => ⟨h.1 m rfl, h.2⟩, fun h => ⟨fun k e => by cases e; exact h.1, h.2⟩⟩
  have l0 := hL o
  have ln : ∀ x, (∀ p, lg0 (lpt ls o (max (lg0 ls o) x)) p ≤ L p) ↔ (∀ p, lg0 ls p ≤ L p) ∧ x ≤ L o := fun x => by
    constructor
    · intro h
      have h' := h o
      rw [lg0_put, if_pos rfl] at h'
      refine ⟨fun p => ?_, by omega⟩
      by_cases e : p = o
      · subst e; omega
      · have := h p
        rw [lg0_put, if_neg e] at this
        exact this
    · rintro ⟨h, hx⟩ p
      rw [lg0_put]
      have := h p
      split
      · next e => subst e; omega
      · exact this
  rw [base]
  cases c with
  | home =>
    simp only [stp, bst, BS.out, hold, gge]
    constructor
    · rintro ⟨h, _⟩; omega
    · exact False.elim
  | fin =>
    simp only [stp, bst, BS.out, hold, gge]
    exact ⟨fun h => ⟨fun _ e => (by cases e), h.2⟩, fun h => ⟨trivial, h.2⟩⟩
  | go d n =>
    have hn := hc.1
    cases d with
    | down => exact (base g).symm
    | up => exact (base g).symm
    | left =>
      rw [bst_left, if_neg (by omega)]
      show _ ↔ hold L g (some (some (m + n), _))
      have : hold L g (some (some (m + n), lpt ls o (max (lg0 ls o) (m + n)))) ↔ gge (m + n) g ∧ ((∀ p, lg0 ls p ≤ L p) ∧ m + n ≤ L o) := by
        rw [← ln (m + n)]
        exact ⟨fun h => ⟨h.1 _ rfl, h.2⟩, fun h => ⟨fun k e => by cases e; exact h.1, h.2⟩⟩
      rw [this]
      cases g with
      | none =>
        simp only [stp, gge, shw]
        constructor
        · rintro ⟨h, hl⟩; exact ⟨trivial, hl, by omega⟩
        · rintro ⟨_, hl, h⟩; exact ⟨by omega, hl⟩
      | some a =>
        simp only [stp, gge, shw]
        constructor
        · rintro ⟨h, hl⟩; exact ⟨by omega, hl, by omega⟩
        · rintro ⟨h', hl, h⟩; exact ⟨by omega, hl⟩
    | right =>
      rw [bst_right]
      by_cases hz : m - n ≤ 0
      · rw [if_pos hz]
        show _ ↔ hold L g (some (none, _))
        have : hold L g (some (none, lpt ls o (max (lg0 ls o) m))) ↔ (∀ p, lg0 ls p ≤ L p) ∧ m ≤ L o := by
          rw [← ln m]
          exact ⟨fun h => h.2, fun h => ⟨fun k e => by (cases e), h⟩⟩
        rw [this]
        cases g with
        | none =>
          simp only [stp, gge, shw]
          constructor
          · rintro ⟨h, hl⟩; exact ⟨hl, by omega⟩
          · rintro ⟨hl, h⟩; exact ⟨by omega, hl⟩
        | some a =>
          have ha : 0 ≤ a := hg
          simp only [stp, gge, shw]
          constructor
          · rintro ⟨h, hl⟩; exact ⟨hl, by omega⟩
          · rintro ⟨hl, h⟩; exact ⟨by omega, hl⟩
      · rw [if_neg hz]
        show _ ↔ hold L g (some (some (m - n), _))
        have : hold L g (some (some (m - n), lpt ls o (max (lg0 ls o) m))) ↔ gge (m - n) g ∧ ((∀ p, lg0 ls p ≤ L p) ∧ m ≤ L o) := by
          rw [← ln m]
          exact ⟨fun h => ⟨h.1 _ rfl, h.2⟩, fun h => ⟨fun k e => by cases e; exact h.1, h.2⟩⟩
        rw [this]
        cases g with
        | none =>
          simp only [stp, gge, shw]
          constructor
          · rintro ⟨h, hl⟩; exact ⟨trivial, hl, by omega⟩
          · rintro ⟨_, hl, h⟩; exact ⟨by omega, hl⟩
        | some a =>
          simp only [stp, gge, shw]
          constructor
          · rintro ⟨h, hl⟩; exact ⟨by omega, hl, by omega⟩
          · rintro ⟨h', hl, h⟩; exact ⟨by omega, hl⟩
theorem hold_stop {L : Int → Int} {ls : Lns} {g : Go} : hold L g (some (none, ls)) ↔ ∀ p, lg0 ls p ≤ L p := ⟨fun h => h.2, fun h => ⟨fun _ e => by (cases e), h⟩⟩
/-- THE LAW OF BOXES: what commands reach -/
theorem box_iff {L : Int → Int} (hL : ∀ o, 0 ≤ L o) {v : Int} (hv : 1 ≤ v) : ∀ {cs : List Cmd} {o : Int} {g : Go}, okM cs → g0 g → (gge v (rnG L o g cs) ↔ hold L g (boxF o cs v).out)
  | [], o, g, _, _ => by
    simp only [rnG, boxF, BS.out, hold]
    refine ⟨fun h => ⟨fun m e => by cases e; exact h, fun p => hL p⟩, fun h => h.1 _ rfl⟩
  | c :: cs, o, g, hc, hg => by
    have hc1 := hc c List.mem_cons_self
    have hc2 : okM cs := hc.sub fun d hd => List.mem_cons_of_mem _ hd
    have ih := box_iff hL hv (cs := cs) (o := o + c.mv) (g := stp (L o) g c) hc2 (stp_0 (hL o) hg c hc1)
    have ok := boxF_ok (o := o + c.mv) (v := v) hc2 hv
    rw [rnG, ih]
    rw [boxF_cons]
    cases e : boxF (o + c.mv) cs v with
    | run m ls =>
      rw [e] at ok
      exact bst_iff hL hc1 hg ok
    | stop r =>
      show hold L _ r ↔ hold L g r
      cases r with
      | none => exact Iff.rfl
      | some q =>
        obtain ⟨s, ls⟩ := q
        cases s with
        | none => rw [hold_stop, hold_stop]
        | some m =>
          -- a box that stopped has no start
          exfalso
          have : ∀ (cs : List Cmd) (o v : Int) (m : Int) (ls : Lns), boxF o cs v = .stop (some (some m, ls)) → False := by
            intro cs
            induction cs with
            | nil => intro o v m ls e; cases e
            | cons c cs ih =>
              intro o v m ls e
              rw [boxF_cons] at e
              cases e2 : boxF (o + c.mv) cs v with
              | stop r => rw [e2] at e; cases e; exact ih _ _ _ _ e2
              | run k ks =>
                rw [e2] at e
                cases c with
                | home => cases e
                | fin => cases e
                | go d n =>
                  cases d with
                  | down => cases e
                  | up => cases e
                  | left =>
                    have e : bst o k ks (.go .left n) = _ := e
                    rw [bst_left] at e
                    split at e <;> cases e
                  | right =>
                    have e : bst o k ks (.go .right n) = _ := e
                    rw [bst_right] at e
                    split at e <;> cases e
          exact this _ _ _ _ _ e
/-! ### boxes are told by what they hold for -/
def top (ls : Lns) : Int := (ls.map (·.2)).foldr max 0
theorem top_ge {ls : Lns} {o x : Int} (h : (o, x) ∈ ls) : x ≤ top ls := by
  unfold top
  induction ls with
  | nil => cases h
  | cons q ls ih =>
    rw [List.map_cons, List.foldr_cons]
    rcases List.mem_cons.mp h with e | h
    · rw [← e]; exact Int.le_max_left _ _
    · exact Int.le_trans (ih h) (Int.le_max_right _ _)
theorem top_0 (ls : Lns) : 0 ≤ top ls := by
  unfold top
  induction ls with
  | nil => exact Int.le_refl _
  | cons q ls ih => rw [List.map_cons, List.foldr_cons]; exact Int.le_trans ih (Int.le_max_right _ _)
theorem lg0_top {ls : Lns} (nd : ndK ls) (o : Int) : lg0 ls o ≤ top ls := by
  unfold lg0
  cases e : lgt ls o with
  | none => exact top_0 ls
  | some b => exact top_ge ((lgt_mem nd).mp e)
/-- a is at most b: b is never, or b needs at least what a needs -/
def ble (a b : Bx) : Prop := ∀ s ls, b = some (s, ls) → ∃ t ks, a = some (t, ks) ∧ (∀ m, t = some m → ∃ k, s = some k ∧ m ≤ k) ∧ ∀ p, lg0 ks p ≤ lg0 ls p
theorem ble_of {a b : Bx} (ha : BxOk a) (hb : BxOk b) (h : ∀ (L : Int → Int) (g : Go), (∀ o, 0 ≤ L o) → g0 g → hold L g b → hold L g a) : ble a b := by
  rintro s ls rfl
  have nd := hb.nd _ _ rfl
  have hg := lg0_ge nd (hb.ge _ _ rfl)
  have := h (lg0 ls) (some (s.getD 0)) hg (by
    show (0 : Int) ≤ s.getD 0
    cases s with
    | none => exact Int.le_refl _
    | some m => have := hb.s _ _ rfl m rfl; show (0 : Int) ≤ m; omega) ⟨fun m e => by subst e; exact Int.le_refl _, fun p => Int.le_refl _⟩
  cases a with
  | none => exact this.elim
  | some q =>
    obtain ⟨t, ks⟩ := q
    refine ⟨t, ks, rfl, fun m e => ?_, this.2⟩
    have h1 := this.1 m e
    have h2 := ha.s _ _ rfl m e
    cases s with
    | none =>
      have h1 : m ≤ 0 := h1
      omega
    | some k => exact ⟨k, rfl, h1⟩
theorem ble_uniq {a b : Bx} (ha : BxOk a) (hb : BxOk b) (h1 : ble a b) (h2 : ble b a) : (a = none ∧ b = none) ∨ ∃ s ks ls, a = some (s, ks) ∧ b = some (s, ls) ∧ (∀ p, lgt ks p = lgt ls p) := by
  cases b with
  | none =>
    cases a with
    | none => exact .inl ⟨rfl, rfl⟩
    | some q => obtain ⟨_, _, e, _⟩ := h2 q.1 q.2 rfl; cases e
  | some q =>
    obtain ⟨s, ls⟩ := q
    obtain ⟨t, ks, rfl, a1, a2⟩ := h1 s ls rfl
    obtain ⟨s', ls', e, b1, b2⟩ := h2 t ks rfl
    cases e
    refine .inr ⟨t, ks, ls, rfl, ?_, fun p => ?_⟩
    · have : s = t := by
        cases s with
        | none =>
          cases t with
          | none => rfl
          | some m => obtain ⟨k, e, _⟩ := a1 m rfl; cases e
        | some k =>
          obtain ⟨m, e, hm⟩ := b1 k rfl
          subst e
          obtain ⟨k', e, hk⟩ := a1 m rfl
          cases e
          rw [show k = m by omega]
      rw [this]
    · have e : lg0 ks p = lg0 ls p := by have := a2 p; have := b2 p; omega
      unfold lg0 at e
      cases e1 : lgt ks p with
      | none =>
        cases e2 : lgt ls p with
        | none => rfl
        | some y =>
          have := hb.ge _ _ rfl p y ((lgt_mem (hb.nd _ _ rfl)).mp e2)
          rw [e1, e2] at e
          simp at e
          omega
      | some x =>
        have := ha.ge _ _ rfl p x ((lgt_mem (ha.nd _ _ rfl)).mp e1)
        cases e2 : lgt ls p with
        | none =>
          rw [e1, e2] at e
          simp at e
          omega
        | some y =>
          rw [e1, e2] at e
          simp at e
          rw [e]
/-- as it is returned -/
def bxW : Bx → W
  | none => .non
  | some (s, ls) => .tup [gW s, .ls ((srt ls).map pairW)]
theorem bxW_eq {a b : Bx} (ha : BxOk a) (hb : BxOk b) (h1 : ble a b) (h2 : ble b a) : bxW a = bxW b := by
  rcases ble_uniq ha hb h1 h2 with ⟨rfl, rfl⟩ | ⟨s, ks, ls, rfl, rfl, h⟩
  · rfl
  · show W.tup [gW s, .ls ((srt ks).map pairW)] = W.tup [gW s, .ls ((srt ls).map pairW)]
    rw [srt_ext (ha.nd _ _ rfl) (hb.nd _ _ rfl) h]
end SL
namespace SL
open PySem PySem.Spec PyProof.Rows L2
theorem rnG_sh (L : Int → Int) (d : Int) : ∀ (cs : List Cmd) (o : Int) (g : Go), rnG L (o + d) g cs = rnG (fun p => L (p + d)) o g cs
  | [], _, _ => rfl
  | c :: cs, o, g => by
    rw [rnG, rnG, show o + d + c.mv = o + c.mv + d by omega, rnG_sh L d cs]
/-- lines by their offsets, moved -/
def shL (d : Int) (ls : Lns) : Lns := ls.map fun q => (q.1 + d, q.2)
theorem lgt_shL (d : Int) (ls : Lns) (p : Int) : lgt (shL d ls) p = lgt ls (p - d) := by
  unfold lgt shL
  induction ls with
  | nil => rfl
  | cons q ls ih =>
    rw [List.map_cons]
    by_cases h : q.1 = p - d
    · rw [List.find?_cons_of_pos (by simp; omega), List.find?_cons_of_pos (by simp [h])]; rfl
    · rw [List.find?_cons_of_neg (by simp; omega), List.find?_cons_of_neg (by simp [h])]; exact ih
theorem lg0_shL (d : Int) (ls : Lns) (p : Int) : lg0 (shL d ls) p = lg0 ls (p - d) := by unfold lg0; rw [lgt_shL]
theorem ndK_shL {d : Int} {ls : Lns} (h : ndK ls) : ndK (shL d ls) := by
  unfold ndK shL at *
  rw [List.map_map]
  have : ((fun q : Int × Int => q.1) ∘ fun q : Int × Int => (q.1 + d, q.2)) = (fun x => x + d) ∘ fun q : Int × Int => q.1 := rfl
  rw [this, ← List.map_map]
  unfold List.Nodup at *
  rw [List.pairwise_map]
  exact h.imp fun h e => h (by omega)
/-- the greater bound for both -/
def mgL (ls ks : Lns) : Lns := ks.foldl (fun acc q => lpt acc q.1 (max q.2 (lg0 acc q.1))) ls
theorem ndK_mgL : ∀ {ks ls : Lns}, ndK ls → ndK (mgL ls ks)
  | [], ls, h => h
  | q :: ks, ls, h => ndK_mgL (ks := ks) (ndK_put h _ _)
theorem mgL_ge : ∀ {ks ls : Lns}, ndK ls → (∀ o x, (o, x) ∈ ls → 1 ≤ x) → (∀ o x, (o, x) ∈ ks → 1 ≤ x) → ∀ o x, (o, x) ∈ mgL ls ks → 1 ≤ x
  | [], ls, _, h, _ => h
  | q :: ks, ls, nd, h, g => mgL_ge (ks := ks) (ndK_put nd _ _) (lpt_ge nd (by have := g q.1 q.2 List.mem_cons_self; omega) h) fun o x hm => g o x (List.mem_cons_of_mem _ hm)
theorem lg0_mgL : ∀ {ks ls : Lns} (p : Int), ndK ks → (∀ o x, (o, x) ∈ ks → 1 ≤ x) → 0 ≤ lg0 ls p → lg0 (mgL ls ks) p = max (lg0 ls p) (lg0 ks p)
  | [], ls, p, _, _, h => by
    show lg0 ls p = max (lg0 ls p) 0
    omega
  | q :: ks, ls, p, nd, g, h => by
    have nd' := nd
    unfold ndK at nd'
    rw [List.map_cons] at nd'
    obtain ⟨n1, n2⟩ := List.nodup_cons.mp nd'
    have gq := g q.1 q.2 List.mem_cons_self
    have ih := lg0_mgL (ks := ks) (ls := lpt ls q.1 (max q.2 (lg0 ls q.1))) p n2 (fun o x hm => g o x (List.mem_cons_of_mem _ hm)) (by rw [lg0_put]; split <;> omega)
    show lg0 (mgL (lpt ls q.1 (max q.2 (lg0 ls q.1))) ks) p = _
    rw [ih, lg0_put]
    by_cases e : p = q.1
    · rw [if_pos e]
      have e1 : lg0 (q :: ks) p = q.2 := by unfold lg0 lgt; rw [List.find?_cons_of_pos (by simp [e])]; rfl
      have e2 : lg0 ks p = 0 := by
        unfold lg0
        cases e3 : lgt ks p with
        | none => rfl
        | some b => exact absurd (List.mem_map.mpr ⟨(p, b), (lgt_mem n2).mp e3, e⟩) n1
      rw [e1, e2, e]
      omega
    · rw [if_neg e]
      have e1 : lg0 (q :: ks) p = lg0 ks p := by unfold lg0 lgt; rw [List.find?_cons_of_neg (by simp; intro z; exact e z.symm)]
      rw [e1]
/-- the box of two lists by those of both -/
def joinB (early late : List Cmd) (gone v : Int) : Bx :=
  match boxO late v with
  | none => none
  | some (none, ls) => some (none, shL gone (srt ls))
  | some (some m, ls) => match boxO early m with
    | none => none
    | some (s, ks) => some (s, mgL (shL gone (srt ls)) (srt ks))
theorem mem_shL {d : Int} {ls : Lns} {o x : Int} : (o, x) ∈ shL d ls ↔ (o - d, x) ∈ ls := by
  unfold shL
  rw [List.mem_map]
  constructor
  · rintro ⟨q, hq, e⟩
    cases e
    rw [show q.1 + d - d = q.1 by omega]
    exact hq
  · intro h
    exact ⟨_, h, by simp⟩
theorem mem_srt {ls : Lns} {q : Int × Int} : q ∈ srt ls ↔ q ∈ ls := (srt_perm ls).mem_iff
theorem lg0_srt {ls : Lns} (nd : ndK ls) (o : Int) : lg0 (srt ls) o = lg0 ls o := by unfold lg0; rw [lgt_srt nd]
theorem joinB_ok {early late : List Cmd} {gone v : Int} (h1 : okM early) (h2 : okM late) (hv : 1 ≤ v) : BxOk (joinB early late gone v) := by
  have ok := boxO_ok h2 hv
  unfold joinB
  cases e : boxO late v with
  | none => exact ⟨fun _ _ e => by (cases e), fun _ _ e => by (cases e), fun _ _ e => by (cases e)⟩
  | some q =>
    obtain ⟨s, ls⟩ := q
    rw [e] at ok
    have nd := ok.nd _ _ rfl
    have ge := ok.ge _ _ rfl
    have ge' : ∀ o x, (o, x) ∈ shL gone (srt ls) → 1 ≤ x := fun o x h => ge _ _ (mem_srt.mp (mem_shL.mp h))
    cases s with
    | none => exact ⟨fun _ _ e => by (cases e; intro m e; cases e), fun _ _ e => by (cases e; exact ndK_shL (srt_nd nd)), fun _ _ e => by (cases e; exact ge')⟩
    | some m =>
      have ok2 := boxO_ok h1 (ok.s _ _ rfl m rfl)
      dsimp only
      cases e2 : boxO early m with
      | none => exact ⟨fun _ _ e => by (cases e), fun _ _ e => by (cases e), fun _ _ e => by (cases e)⟩
      | some q =>
        obtain ⟨s, ks⟩ := q
        rw [e2] at ok2
        exact ⟨fun _ _ e => by (cases e; exact ok2.s _ _ rfl), fun _ _ e => by (cases e; exact ndK_mgL (ndK_shL (srt_nd nd))), fun _ _ e => by (cases e; exact mgL_ge (ndK_shL (srt_nd nd)) ge' fun o x h => ok2.ge _ _ rfl o x (mem_srt.mp h))⟩
theorem join_iff {L : Int → Int} (hL : ∀ o, 0 ≤ L o) {g : Go} (hg : g0 g) {early late : List Cmd} {v : Int} (h1 : okM early) (h2 : okM late) (hv : 1 ≤ v) : hold L g (joinB early late (off early) v) ↔ hold L g (boxO (early ++ late) v) := by
  have e0 := box_iff hL hv (o := 0) (h1.app h2) hg
  unfold boxO at *
  rw [← e0, rnG_app, show (0 : Int) + off early = 0 + off early from rfl, rnG_sh L (off early) late 0]
  have hg' : g0 (rnG L 0 g early) := rnG_0 hL early 0 g hg h1
  have hL' : ∀ o, 0 ≤ L (o + off early) := fun o => hL _
  rw [box_iff hL' hv (o := 0) h2 hg']
  have ok := boxO_ok h2 hv
  unfold joinB
  unfold boxO at ok ⊢
  have mv : ∀ ls : Lns, ndK ls → ((∀ p, lg0 (shL (off early) (srt ls)) p ≤ L p) ↔ ∀ p, lg0 ls p ≤ L (p + off early)) := fun ls nd => by
    constructor
    · intro h p
      have := h (p + off early)
      rw [lg0_shL, show p + off early - off early = p by omega, lg0_srt nd] at this
      exact this
    · intro h p
      have := h (p - off early)
      rw [show p - off early + off early = p by omega] at this
      rw [lg0_shL, lg0_srt nd]
      exact this
  cases e : (boxF 0 late v).out with
  | none => exact Iff.rfl
  | some q =>
    obtain ⟨s, ls⟩ := q
    rw [e] at ok
    have nd := ok.nd _ _ rfl
    have ge := ok.ge _ _ rfl
    cases s with
    | none =>
      show hold L g (some (none, _)) ↔ hold (fun p => L (p + off early)) _ (some (none, ls))
      rw [hold_stop, hold_stop]
      exact mv ls nd
    | some m =>
      have hm := ok.s _ _ rfl m rfl
      have key := box_iff hL hm (o := 0) h1 hg
      have ok2 := boxO_ok h1 hm
      unfold boxO at ok2
      dsimp only
      have r1 : hold (fun p => L (p + off early)) (rnG L 0 g early) (some (some m, ls)) ↔ gge m (rnG L 0 g early) ∧ ∀ p, lg0 ls p ≤ L (p + off early) := ⟨fun h => ⟨h.1 m rfl, h.2⟩, fun h => ⟨fun k e => by cases e; exact h.1, h.2⟩⟩
      rw [r1, key]
      cases e2 : (boxF 0 early m).out with
      | none => exact ⟨fun h => h.elim, fun h => h.1.elim⟩
      | some q =>
        obtain ⟨s, ks⟩ := q
        rw [e2] at ok2
        have nd2 := ok2.nd _ _ rfl
        have ge2 := ok2.ge _ _ rfl
        have lm : ∀ p, lg0 (mgL (shL (off early) (srt ls)) (srt ks)) p = max (lg0 (shL (off early) (srt ls)) p) (lg0 ks p) := fun p => by
          rw [lg0_mgL p (srt_nd nd2) (fun o x h => ge2 _ _ (mem_srt.mp h)) (lg0_ge (ndK_shL (srt_nd nd)) (fun o x h => ge _ _ (mem_srt.mp (mem_shL.mp h))) p), lg0_srt nd2]
        show ((∀ m, s = some m → gge m g) ∧ ∀ p, lg0 (mgL (shL (off early) (srt ls)) (srt ks)) p ≤ L p) ↔ ((∀ m, s = some m → gge m g) ∧ ∀ p, lg0 ks p ≤ L p) ∧ ∀ p, lg0 ls p ≤ L (p + off early)
        rw [← mv ls nd]
        constructor
        · rintro ⟨a, b⟩
          refine ⟨⟨a, fun p => ?_⟩, fun p => ?_⟩
          · have := b p; rw [lm] at this; omega
          · have := b p; rw [lm] at this; omega
        · rintro ⟨⟨a, b⟩, c⟩
          refine ⟨a, fun p => ?_⟩
          have h3 := b p
          have h4 := c p
          rw [lm]
          omega
theorem join_eq {early late : List Cmd} {v : Int} (h1 : okM early) (h2 : okM late) (hv : 1 ≤ v) : bxW (boxO (early ++ late) v) = bxW (joinB early late (off early) v) :=
  bxW_eq (boxO_ok (h1.app h2) hv) (joinB_ok h1 h2 hv) (ble_of (boxO_ok (h1.app h2) hv) (joinB_ok h1 h2 hv) fun L g hL hg h => (join_iff hL hg h1 h2 hv).mp h) (ble_of (joinB_ok h1 h2 hv) (boxO_ok (h1.app h2) hv) fun L g hL hg h => (join_iff hL hg h1 h2 hv).mpr h)
/-- a greater goal needs at least as much -/
theorem ble_mono {cs : List Cmd} {u v : Int} (h : okM cs) (hu : 1 ≤ u) (huv : u ≤ v) : ble (boxO cs u) (boxO cs v) :=
  ble_of (boxO_ok h hu) (boxO_ok h (by omega)) fun L g hL hg hh => by
    unfold boxO at *
    rw [← box_iff hL (by omega) h hg] at hh
    rw [← box_iff hL hu h hg]
    revert hh
    cases rnG L 0 g cs with
    | none => exact fun _ => trivial
    | some a => simp only [gge]; omega
/-! ### moves farther apart -/
def Cmd.far (f : Int) : Cmd → Cmd
  | .go .down n => .go .down (n * f)
  | .go .up n => .go .up (n * f)
  | c => c
theorem far_mv (f : Int) (c : Cmd) : (c.far f).mv = c.mv * f := by
  cases c with
  | go d n => cases d <;> simp [Cmd.far, Cmd.mv, Int.neg_mul]
  | home => simp [Cmd.far, Cmd.mv]
  | fin => simp [Cmd.far, Cmd.mv]
def scL (f : Int) (ls : Lns) : Lns := ls.map fun q => (q.1 * f, q.2)
theorem mul_inj {f a b : Int} (hf : 0 < f) (h : a * f = b * f) : a = b := Int.eq_of_mul_eq_mul_right (by omega) h
theorem lgt_scL {f : Int} (hf : 0 < f) (ls : Lns) (p : Int) : lgt (scL f ls) (p * f) = lgt ls p := by
  unfold lgt scL
  induction ls with
  | nil => rfl
  | cons q ls ih =>
    rw [List.map_cons]
    by_cases h : q.1 = p
    · rw [List.find?_cons_of_pos (by simp [h]), List.find?_cons_of_pos (by simp [h])]; rfl
    · rw [List.find?_cons_of_neg (by simp only [decide_eq_true_eq]; exact fun z => h (mul_inj hf z)), List.find?_cons_of_neg (by simp [h])]; exact ih
theorem lpt_scL {f : Int} (hf : 0 < f) (ls : Lns) (p x : Int) : lpt (scL f ls) (p * f) x = scL f (lpt ls p x) := by
  unfold lpt
  have e : ((scL f ls).any fun q => decide (q.1 = p * f)) = ls.any fun q => decide (q.1 = p) := by
    unfold scL
    rw [List.any_map]
    congr 1
    funext q
    show decide (q.1 * f = p * f) = decide (q.1 = p)
    by_cases h : q.1 = p
    · rw [h]
      simp
    · rw [decide_eq_false h, decide_eq_false fun z => h (mul_inj hf z)]
  rw [e]
  split
  · unfold scL
    rw [List.map_map, List.map_map]
    refine List.map_congr_left fun q _ => ?_
    show (if q.1 * f = p * f then (q.1 * f, x) else (q.1 * f, q.2)) = _
    by_cases h : q.1 = p
    · rw [if_pos (by rw [h])]
      simp [h]
    · rw [if_neg fun z => h (mul_inj hf z)]
      simp [h]
  · unfold scL
    rw [List.map_append]
    rfl
def scS (f : Int) : BS → BS
  | .run m ls => .run m (scL f ls)
  | .stop none => .stop none
  | .stop (some (s, ls)) => .stop (some (s, scL f ls))
theorem boxF_far {f : Int} (hf : 0 < f) : ∀ (cs : List Cmd) (o v : Int), boxF (o * f) (cs.map (Cmd.far f)) v = scS f (boxF o cs v)
  | [], o, v => rfl
  | c :: cs, o, v => by
    rw [List.map_cons, boxF_cons, boxF_cons, far_mv, show o * f + c.mv * f = (o + c.mv) * f by rw [Int.add_mul], boxF_far hf cs]
    cases boxF (o + c.mv) cs v with
    | stop r =>
      cases r with
      | none => rfl
      | some q => rfl
    | run m ls =>
      have l0 : lg0 (scL f ls) (o * f) = lg0 ls o := by unfold lg0; rw [lgt_scL hf]
      cases c with
      | home => rfl
      | fin => rfl
      | go d n =>
        cases d with
        | down => rfl
        | up => rfl
        | left =>
          show bst (o * f) m (scL f ls) (.go .left n) = scS f (bst o m ls (.go .left n))
          rw [bst_left, bst_left, l0]
          split
          · rw [lpt_scL hf]; rfl
          · rw [lpt_scL hf]; rfl
        | right =>
          show bst (o * f) m (scL f ls) (.go .right n) = scS f (bst o m ls (.go .right n))
          rw [bst_right, bst_right, l0]
          split
          · rw [lpt_scL hf]; rfl
          · rw [lpt_scL hf]; rfl
def scB (f : Int) : Bx → Bx
  | none => none
  | some (s, ls) => some (s, scL f ls)
theorem boxO_far {f : Int} (hf : 0 < f) (cs : List Cmd) (v : Int) : boxO (cs.map (Cmd.far f)) v = scB f (boxO cs v) := by
  have := boxF_far hf cs 0 v
  rw [Int.zero_mul] at this
  unfold boxO
  rw [this]
  cases boxF 0 cs v with
  | run m ls => rfl
  | stop r =>
    cases r with
    | none => rfl
    | some q => rfl
theorem ndK_scL {f : Int} (hf : 0 < f) {ls : Lns} (h : ndK ls) : ndK (scL f ls) := by
  unfold ndK scL at *
  rw [List.map_map]
  have : ((fun q : Int × Int => q.1) ∘ fun q : Int × Int => (q.1 * f, q.2)) = (fun x => x * f) ∘ fun q : Int × Int => q.1 := rfl
  rw [this, ← List.map_map]
  unfold List.Nodup at *
  rw [List.pairwise_map]
  exact h.imp fun h e => h (mul_inj hf e)
theorem srt_scL {f : Int} (hf : 0 < f) {ls : Lns} (h : ndK ls) : srt (scL f ls) = scL f (srt ls) := by
  refine (srt_uniq ((srt_perm ls).map _) (ndK_scL hf h) ?_).symm
  show List.Pairwise _ ((srt ls).map _)
  rw [List.pairwise_map]
  exact (srt_sorted ls).imp fun {a b} h => Int.mul_le_mul_of_nonneg_right h (by omega)
/-! ### which lines have bounds -/
def inLH (a b : Int) (ls : Lns) : Prop := ∀ q, q ∈ ls → a ≤ q.1 ∧ q.1 ≤ b
theorem inLH_put {a b o x : Int} {ls : Lns} (h : inLH a b ls) (h1 : a ≤ o) (h2 : o ≤ b) : inLH a b (lpt ls o x) := by
  intro q hq
  unfold lpt at hq
  split at hq
  · obtain ⟨r, hr, rfl⟩ := List.mem_map.mp hq
    split
    · exact h r hr
    · exact h r hr
  · rcases List.mem_append.mp hq with hq | hq
    · exact h q hq
    · rw [List.mem_singleton.mp hq]
      exact ⟨h1, h2⟩
def BS.inLH (a b : Int) : BS → Prop
  | .run _ ls => SL.inLH a b ls
  | .stop none => True
  | .stop (some (_, ls)) => SL.inLH a b ls
theorem boxF_in : ∀ (cs : List Cmd) (o v : Int), (boxF o cs v).inLH (o + lo cs) (o + hi cs)
  | [], o, v => fun q hq => nomatch hq
  | c :: cs, o, v => by
    have ih := boxF_in cs (o + c.mv) v
    have l1 := lo_le cs
    have l2 := hi_ge cs
    have up : ∀ ls, SL.inLH (o + c.mv + lo cs) (o + c.mv + hi cs) ls → SL.inLH (o + lo (c :: cs)) (o + hi (c :: cs)) ls := fun ls h q hq => by
      have := h q hq
      unfold lo hi
      omega
    have o1 : o + lo (c :: cs) ≤ o := by unfold lo; omega
    have o2 : o ≤ o + hi (c :: cs) := by unfold hi; omega
    rw [boxF_cons]
    cases e : boxF (o + c.mv) cs v with
    | stop r =>
      rw [e] at ih
      cases r with
      | none => trivial
      | some q => exact up _ ih
    | run m ls =>
      rw [e] at ih
      have ih := up ls ih
      cases c with
      | home => trivial
      | fin => exact ih
      | go d n =>
        cases d with
        | down => exact ih
        | up => exact ih
        | left =>
          show BS.inLH _ _ (bst o m ls (.go .left n))
          rw [bst_left]
          split
          · exact inLH_put ih o1 o2
          · exact inLH_put ih o1 o2
        | right =>
          show BS.inLH _ _ (bst o m ls (.go .right n))
          rw [bst_right]
          split
          · exact inLH_put ih o1 o2
          · exact inLH_put ih o1 o2
theorem boxO_in {cs : List Cmd} {v : Int} {s : Go} {ls : Lns} (h : boxO cs v = some (s, ls)) : inLH (lo cs) (hi cs) ls := by
  have := boxF_in cs 0 v
  unfold boxO at h
  rw [Int.zero_add, Int.zero_add] at this
  cases e : boxF 0 cs v with
  | run m ks => rw [e] at h this; cases h; exact this
  | stop r => rw [e] at h this; cases h; exact this
theorem boxF_len : ∀ (cs : List Cmd) (o v : Int), (∀ m ls, boxF o cs v = .run m ls → ls.length ≤ cs.length) ∧ ∀ s ls, boxF o cs v = .stop (some (s, ls)) → ls.length ≤ cs.length
  | [], o, v => ⟨fun m ls e => by cases e; exact Nat.le_refl _, fun s ls e => by cases e⟩
  | c :: cs, o, v => by
    obtain ⟨i1, i2⟩ := boxF_len cs (o + c.mv) v
    rw [boxF_cons]
    have pl : ∀ (ls : Lns) (x : Int), (lpt ls o x).length ≤ ls.length + 1 := fun ls x => by
      unfold lpt
      split
      · rw [List.length_map]; omega
      · rw [List.length_append, List.length_singleton]; exact Nat.le_refl _
    rw [List.length_cons]
    cases e : boxF (o + c.mv) cs v with
    | stop r => exact ⟨fun m ls e2 => by (cases e2), fun s ls e2 => by (cases e2; have := i2 _ _ e; omega)⟩
    | run m ls =>
      have hl := i1 _ _ e
      cases c with
      | home => exact ⟨fun m ls e2 => by (cases e2), fun s ls e2 => by (cases e2)⟩
      | fin => exact ⟨fun m ls e2 => by (cases e2), fun s ls e2 => by (cases e2; omega)⟩
      | go d n =>
        cases d with
        | down => exact ⟨fun m ls e2 => by (cases e2; omega), fun s ls e2 => by (cases e2)⟩
        | up => exact ⟨fun m ls e2 => by (cases e2; omega), fun s ls e2 => by (cases e2)⟩
        | left =>
          have p1 := pl ls (max (lg0 ls o) (m + n))
          refine ⟨fun k ks e2 => ?_, fun s ks e2 => ?_⟩
          · have e2 : bst o m ls (.go .left n) = _ := e2
            rw [bst_left] at e2
            split at e2 <;> cases e2
            omega
          · have e2 : bst o m ls (.go .left n) = _ := e2
            rw [bst_left] at e2
            split at e2 <;> cases e2
            omega
        | right =>
          have p1 := pl ls (max (lg0 ls o) m)
          refine ⟨fun k ks e2 => ?_, fun s ks e2 => ?_⟩
          · have e2 : bst o m ls (.go .right n) = _ := e2
            rw [bst_right] at e2
            split at e2 <;> cases e2
            omega
          · have e2 : bst o m ls (.go .right n) = _ := e2
            rw [bst_right] at e2
            split at e2 <;> cases e2
            omega
theorem boxO_len {cs : List Cmd} {v : Int} {s : Go} {ls : Lns} (h : boxO cs v = some (s, ls)) : ls.length ≤ cs.length := by
  unfold boxO at h
  cases e : boxF 0 cs v with
  | run m ks => rw [e] at h; cases h; exact (boxF_len cs 0 v).1 _ _ e
  | stop r => rw [e] at h; cases h; exact (boxF_len cs 0 v).2 _ _ e
/-- no command with a number for left and right, no home, no end -/
theorem boxF_plain : ∀ (cs : List Cmd) (o v : Int), (∀ c, c ∈ cs → ∃ n, c = .go .down n ∨ c = .go .up n) → boxF o cs v = .run v []
  | [], _, _, _ => rfl
  | c :: cs, o, v, h => by
    rw [boxF_cons, boxF_plain cs _ v fun d hd => h d (List.mem_cons_of_mem _ hd)]
    obtain ⟨n, rfl | rfl⟩ := h c List.mem_cons_self <;> rfl
/-! ### boxes as trees -/
theorem dk_pair {q : Int × Int} : Dk true 1 (pairW q) := dk_tup (n := 0) fun w hw => by
  simp only [List.mem_cons, List.not_mem_nil, or_false] at hw
  rcases hw with rfl | rfl
  · exact (dok_int 0 _).dk
  · exact (dok_int 0 _).dk
theorem dk_pairs {ls : Lns} : Dk true 2 (.ls (ls.map pairW)) := dk_ls fun w hw => by
  obtain ⟨q, _, rfl⟩ := List.mem_map.mp hw
  exact dk_pair
theorem dk_go {g : Go} {n : Nat} : Dk true n (gW g) := by
  cases g with
  | none => exact (dok_non n).dk
  | some a => exact (dok_int n a).dk
theorem dk_bx2 {g : Go} {ls : Lns} : Dk true 3 (.tup [gW g, .ls (ls.map pairW)]) := dk_tup fun w hw => by
  simp only [List.mem_cons, List.not_mem_nil, or_false] at hw
  rcases hw with rfl | rfl
  · exact dk_go
  · exact dk_pairs
theorem dk_bx {b : Bx} : Dk true 60 (bxW b) := by
  cases b with
  | none => exact (dok_non _).dk
  | some q => exact dk_bx2.up (by decide)
end SL
namespace SL
open PySem PySem.Spec PyProof.Rows L2
/-! ### dict(pairs) -/
def kvT (kv : Key × W) : W := .tup [kW kv.1, kv.2]
def uDict : RWL := fun xs Cs Q => ∃ (x : W) (kvs : List (Key × W)), xs = [x] ∧ LsV x (kvs.map kvT) Cs ∧ ∀ p, Q (.ref p) ((p, .dic (mergeW [] kvs)) :: Cs)
theorem pairs_kv {K : PySem.W.Frag} {H : Hp} : ∀ {kvs : List (Key × W)} {xs : List V}, reps K H (kvs.map kvT) xs → ∃ (ps : List Addr) (kvs' : List (Key × V)), xs = ps.map V.ref ∧ repKV K H kvs kvs' ∧ Paired (fun (p : Addr) (kv : Key × V) => SqT K H p [kV kv.1, kv.2]) ps kvs'
  | [], xs, h => ⟨[], [], reps_nil.mp h, repKV_nil.mpr rfl, .nil⟩
  | (k, w) :: kvs, xs, h => by
    obtain ⟨x, r, rfl, h1, h2⟩ := reps_cons.mp h
    obtain ⟨t, ys, rfl, h3, h4⟩ := rep_tup.mp h1
    obtain ⟨a, b, rfl, h5, h6⟩ := two_rep h4
    obtain ⟨ps, kvs', rfl, h7, h8⟩ := pairs_kv h2
    rw [kW_rep.mp h5] at h3
    exact ⟨t :: ps, (k, b) :: kvs', rfl, repKV_cons.mpr ⟨b, kvs', rfl, h6, h7⟩, .cons h3 h8⟩
theorem lk_dict {K : PySem.W.Frag} : LkL K (fun xs H Q => ∃ (a : Addr) (ps : List Addr) (kvs : List (Key × V)), xs = [.ref a] ∧ SqL K H a (ps.map V.ref) ∧ Paired (fun p kv => SqT K H p [kV kv.1, kv.2]) ps kvs ∧
    ∀ p, H p = none → Q (.ref p) (upd H p (.dK (mergeK [] kvs)))) uDict := fun xs vs H Cs Q Q' ⟨x, kvs, e, hl, q⟩ rc rx k => by
  subst e
  obtain ⟨v, rfl, r⟩ := one_rep rx
  obtain ⟨a, ys, rfl, h1, h2⟩ := hl.get rc r
  obtain ⟨ps, kvs', rfl, h3, h4⟩ := pairs_kv h2
  exact ⟨a, ps, kvs', rfl, .inl h1, h4, fun p hp => k _ _ _ _ (q p) (tr_new hp) (rc.new hp ⟨_, upd_same, repKV_mono (tr_new hp) (merge_rel h3 (repKV_nil.mpr rfl))⟩) (rep_ref.mpr rfl)⟩
theorem merge_new : ∀ (kvs acc : List (Key × W)), ((acc ++ kvs).map (·.1)).Nodup → mergeW acc kvs = acc ++ kvs
  | [], acc, _ => by simp [mergeW]
  | (k, w) :: kvs, acc, h => by
    show mergeW (putW acc k w) kvs = _
    have e : putW acc k w = acc ++ [(k, w)] := by
      unfold putW
      rw [if_neg]
      intro z
      rw [List.any_eq_true] at z
      obtain ⟨q, hq, e⟩ := z
      rw [List.map_append, List.map_cons] at h
      have := (List.nodup_append.mp h).2.2 q.1 (List.mem_map.mpr ⟨q, hq, rfl⟩) k (by simp)
      exact this (by simpa using e)
    rw [e, merge_new kvs _ (by simpa using h)]
    simp
/-! ### y = [..], locked -/
def tFrzS (t : TS) : TS := fun D σ H => t { D with nx := fun σ' H' => D.nx σ' H' ∨ ∃ d u, H' d = some u ∧ Mut (some u) ∧ ∀ od, D.nx σ' (upd H' d (.frz od u)) } σ H
section
variable {X : Cx}
theorem ps_frzS {st : Stmt} {t : TS} (h : PS X st t) : PS X st (tFrzS t) := by
  refine ⟨fun pins s σ H D I hw => ?_⟩
  refine thn (h.run pins s σ H _ I hw) fun f s1 q => ?_
  cases f with
  | next =>
    obtain ⟨σ', H', I2, q⟩ := q
    rcases q with q | ⟨d, u, hd, mu, q⟩
    · exact ⟨σ', H', I2, q⟩
    · obtain ⟨od, I3⟩ := I2.lock hd mu
      exact ⟨σ', _, I3, q od⟩
  | brk => exact q
  | cont => exact q
  | ret v => exact q
theorem qs_frzSet {st : Stmt} {t : ME} {i : Nat} (h : QS X st (sAsg t (gSet i))) : QS X st (sAsg (mFrz t) (gSet i)) := fun Wx tk => ps_imp (ps_frzS (h Wx tk)) fun D σ H ⟨ρ, Cs, DW, R, C, h, L⟩ => by
  have e : (fun w C => frzQ w C fun w' C' => DW.nx (ρ.put i w') C') = fun (w : W) (C : Cells) => (∀ j, j ≠ i → (ρ.put i w) j = ρ j) ∧ match (ρ.put i w) i with
    | some w => frzQ w C fun w' C' => DW.nx (ρ.put i w') C'
    | none => False := by
    funext w C
    rw [Rho.put_same]
    exact propext ⟨fun h => ⟨fun j hj => Rho.put_ne hj, h⟩, fun h => h.2⟩
  refine ⟨ρ, Cs, { DW with nx := fun ρ2 C2 => (∀ j, j ≠ i → ρ2 j = ρ j) ∧ match ρ2 i with
    | some w => frzQ w C2 fun w' C' => DW.nx (ρ.put i w') C'
    | none => False }, R, C, ?_, ⟨fun ρ2 C2 σ2 H2 q tr R2 rc2 => ?_, L.rt, L.bk, L.ct, L.ex⟩⟩
  · have h : t (fun C w Cs => DW.ex C w ρ Cs) ρ Cs (fun w C => frzQ w C fun w' C' => DW.nx (ρ.put i w') C') := h
    rw [e] at h
    exact h
  · obtain ⟨q1, q2⟩ := q
    cases hw : ρ2 i with
    | none => rw [hw] at q2; exact q2.elim
    | some w =>
      rw [hw] at q2
      have q3 := frzQ_V q2
      have plain : DW.nx (ρ.put i w) C2 → D.nx σ2 H2 := fun z => L.nx _ C2 σ2 H2 z tr (R2.weak fun j u e => by
        by_cases hj : j = i
        · subst hj
          rw [Rho.put_same] at e
          rw [hw]
          exact e
        · rw [Rho.put_ne hj] at e
          rw [q1 j hj]
          exact e) rc2
      cases w with
      | ref p =>
        obtain ⟨ws, Ds, hp, q⟩ := q3
        have rc' := rc2.perm hp
        obtain ⟨xs, e1, r1⟩ := rc'.mem List.mem_cons_self
        refine .inr ⟨p, _, e1, trivial, fun od => ?_⟩
        have trf : Tr X.K H2 (upd H2 p (.frz od (.lst xs))) := tr_frz e1
        refine L.nx _ Ds σ2 _ q (tr.trans trf) ⟨R2.len, fun j u e => ?_⟩ (rc'.frz e1)
        by_cases hj : j = i
        · subst hj
          rw [Rho.put_same] at e
          cases e
          obtain ⟨v, h1, h2⟩ := R2.at_ j _ hw
          exact ⟨v, h1, rep_ls.mpr ⟨p, od, xs, rep_ref.mp h2, upd_same, reps_mono trf _ _ r1⟩⟩
        · rw [Rho.put_ne hj] at e
          obtain ⟨v, h1, h2⟩ := R2.at_ j u (by rw [q1 j hj]; exact e)
          exact ⟨v, h1, rep_mono trf _ _ h2⟩
      | _ => exact .inl (plain q3)
end
end SL
namespace SL
open PySem PySem.Spec PyProof.Rows L2
theorem LsV.skip {x : W} {ws : List W} {C : Cells} {c : Addr × MO} (h : LsV x ws C) : LsV x ws (c :: C) := by
  cases x with
  | ref a => exact List.mem_cons_of_mem _ h
  | ls us => exact h
  | _ => exact h.elim
theorem iEn_v {x : W} {ws : List W} {C : Cells} {R : Wk → Cells → Prop} (h : LsV x ws C) (q : ∀ kp : Cells → Prop, (∀ C', LsV x ws C' → kp C') → R ⟨ws.length, kp, fun i w => ∃ u, ws[i]? = some u ∧ w = .tup [.int (i : Nat), u]⟩ C) : iEn [x] C R := by
  cases x with
  | ref a => exact ⟨ws, h, q _ fun _ h => h⟩
  | ls us =>
    obtain rfl : us = ws := h
    exact q _ fun _ _ => trivial
  | _ => exact h.elim
theorem iOf_v {x : W} {ws : List W} {C : Cells} {R : Wk → Cells → Prop} (h : LsV x ws C) (q : ∀ kp : Cells → Prop, (∀ C', LsV x ws C' → kp C') → R ⟨ws.length, kp, fun i w => ws[i]? = some w⟩ C) : iOf x C R := by
  cases x with
  | ref a => exact ⟨ws, h, q _ fun _ h => h⟩
  | ls us =>
    obtain rfl : us = ws := h
    exact q _ fun _ _ => trivial
  | _ => exact h.elim
theorem uLen_v {x : W} {ws : List W} {C : Cells} {Q : WK} (h : LsV x ws C) (q : Q (.int (ws.length : Nat)) C) : uLen [x] C Q := by
  cases x with
  | ref a => exact ⟨ws, h, q⟩
  | ls us =>
    obtain rfl : us = ws := h
    exact q
  | _ => exact h.elim
theorem uIx_v {x : W} {ws : List W} {C : Cells} {Q : WK} {i : Int} {w : W} (h : LsV x ws C) (e : nth ws i = some w) (q : Q w C) : uIx x (.int i) C Q := by
  cases x with
  | ref a => exact ⟨ws, w, h, e, q⟩
  | ls us =>
    obtain rfl : us = ws := h
    exact ⟨w, e, q⟩
  | _ => exact h.elim
theorem uSl_v {x : W} {ws : List W} {C : Cells} {Q : WK} {a b : Option Int} (h : LsV x ws C) (q : ∀ p, Q (.ref p) ((p, .lst (cutW ws a b)) :: C)) : uSl x a b C Q := by
  cases x with
  | ref a => exact ⟨ws, h, q⟩
  | ls us =>
    obtain rfl : us = ws := h
    exact q
  | _ => exact h.elim
theorem qRev_v {x : W} {ws : List W} {C : Cells} {Q : WK} (h : LsV x ws C) (q : ∀ p, Q (.ref p) ((p, .lst ws.reverse) :: C)) : qRev x C Q := ⟨ws, h, q⟩
/-! ### the rows that are visited -/
def offsA : Int → List Cmd → List Int
  | _, [] => []
  | o, c :: cs => (o + c.mv) :: offsA (o + c.mv) cs
theorem offsA_snoc : ∀ (cs : List Cmd) (o : Int) (c : Cmd), offsA o (cs ++ [c]) = offsA o cs ++ [o + off cs + c.mv]
  | [], o, c => by simp [offsA, off]
  | d :: cs, o, c => by
    rw [List.cons_append, offsA, offsA, offsA_snoc cs, off]
    simp [Int.add_assoc]
theorem offsA_len : ∀ (cs : List Cmd) (o : Int), (offsA o cs).length = cs.length
  | [], _ => rfl
  | c :: cs, o => by rw [offsA, List.length_cons, List.length_cons, offsA_len]
theorem offs_bd : ∀ (cs : List Cmd) (o y : Int), y ∈ o :: offsA o cs → o + lo cs ≤ y ∧ y ≤ o + hi cs
  | [], o, y, h => by
    simp [offsA] at h
    simp [lo, hi]
    omega
  | c :: cs, o, y, h => by
    have h1 := lo_le cs
    have h2 := hi_ge cs
    rw [offsA] at h
    unfold lo hi
    rcases List.mem_cons.mp h with h | h
    · omega
    · have := offs_bd cs _ y h
      omega
theorem offs_lo : ∀ (cs : List Cmd) (o : Int), o + lo cs ∈ o :: offsA o cs
  | [], o => by simp [lo]
  | c :: cs, o => by
    have ih := offs_lo cs (o + c.mv)
    rw [offsA]
    unfold lo
    by_cases h : 0 ≤ c.mv + lo cs
    · rw [Int.min_eq_left h]; simp
    · rw [Int.min_eq_right (by omega)]
      refine List.mem_cons_of_mem _ ?_
      rw [← Int.add_assoc]
      exact ih
theorem offs_hi : ∀ (cs : List Cmd) (o : Int), o + hi cs ∈ o :: offsA o cs
  | [], o => by simp [hi]
  | c :: cs, o => by
    have ih := offs_hi cs (o + c.mv)
    rw [offsA]
    unfold hi
    by_cases h : c.mv + hi cs ≤ 0
    · rw [Int.max_eq_left h]; simp
    · rw [Int.max_eq_right (by omega)]
      refine List.mem_cons_of_mem _ ?_
      rw [← Int.add_assoc]
      exact ih
def offs (cs : List Cmd) : List Int := 0 :: offsA 0 cs
theorem offs_min {cs : List Cmd} {m : Int} (h : m ∈ offs cs) (h2 : ∀ y, y ∈ offs cs → m ≤ y) : m = lo cs := by
  have h1 := (offs_bd cs 0 m h).1
  have h3 := h2 _ (offs_lo cs 0)
  omega
theorem offs_max {cs : List Cmd} {m : Int} (h : m ∈ offs cs) (h2 : ∀ y, y ∈ offs cs → y ≤ m) : m = hi cs := by
  have h1 := (offs_bd cs 0 m h).2
  have h3 := h2 _ (offs_hi cs 0)
  omega
theorem offs_snoc (cs : List Cmd) (c : Cmd) : offs (cs ++ [c]) = offs cs ++ [off cs + c.mv] := by
  unfold offs
  rw [offsA_snoc]
  simp
theorem offs_len (cs : List Cmd) : (offs cs).length = cs.length + 1 := by
  unfold offs
  rw [List.length_cons, offsA_len]
/-! ### the boxes of a list's end -/
theorem boxF_stop : ∀ (a : List Cmd) {b : List Cmd} {o v : Int} {r : Bx}, boxF (o + off a) b v = .stop r → boxF o (a ++ b) v = .stop r
  | [], b, o, v, r, h => by simpa [off] using h
  | c :: a, b, o, v, r, h => by
    rw [List.cons_append, boxF_cons, boxF_stop a (r := r) (by rw [← h, off, Int.add_assoc])]
    rfl
/-! ### numbers drawn -/
structure RngS where
  d : Int
  s : Int
  c : Int
def rM (S : RngS) : MO := .lst [.int S.d, .int S.s, .int S.c]
structure RngS.ok (S : RngS) (N : Nat) : Prop where
  d0 : 0 ≤ S.d
  s0 : 0 ≤ S.s
  s1 : S.s < 2305843009213693951
  c0 : 0 ≤ S.c
  c1 : S.c ≤ N
theorem RngS.ok.up {S : RngS} {N M : Nat} (h : S.ok N) (k : N ≤ M) : S.ok M := ⟨h.d0, h.s0, h.s1, h.c0, Int.le_trans h.c1 (by omega)⟩
/-- a def of the numbers alone, that gives something plain -/
def spR1 (c : Nat) (R : W → Prop) : SpW := sp1 fun x Cs Q _ => ∃ (q : Addr) (S : RngS) (Ds : Cells) (N : Nat), x = .ref q ∧ Cs = (q, rM S) :: Ds ∧ S.ok N ∧ N + c ≤ 1000000000 ∧ ∀ (w : W) (S' : RngS), R w → S'.ok (N + c) → Q w ((q, rM S') :: Ds)
theorem rng1_i {c : Nat} {R : W → Prop} {q : Addr} {S : RngS} {Cs Ds : Cells} {N : Nat} {Q : WK} {E : XW} [t : Take q Cs (rM S) Ds] (ok : S.ok N) (hN : N + c ≤ 1000000000) (k : ∀ (w : W) (S' : RngS), R w → S'.ok (N + c) → Q w ((q, rM S') :: Ds)) : cl (spR1 c R) [.ref q] Cs Q E :=
  cl_i (part_perm t.perm) ⟨_, rfl, q, S, Ds, N, rfl, rfl, ok, hN, k⟩
theorem w_eq {c d : Cmd} : (c.w = d.w) = (c = d) := propext ⟨Cmd.w_inj, fun h => by rw [h]⟩
theorem w_go {d : Dir} {n : Int} : Cmd.w (.go d n) = .tup [.str d.nm, .int n] := rfl
theorem w_home : Cmd.w .home = .tup [.str "home"] := rfl
theorem w_fin : Cmd.w .fin = .tup [.str "end"] := rfl
/-! dicts of whole numbers -/
def dputQ (x y v : W) (C : Cells) (Q : Cells → Prop) : Prop := ∃ a kvs k Ds, x = .ref a ∧ C.Perm ((a, .dic kvs) :: Ds) ∧ y = kW k ∧ kvs.length < 100000 ∧ Q ((a, .dic (putW kvs k v)) :: Ds)
theorem sDPutW_eq {td ty tv : ME} {D : EndsW} {ρ : Rho} {Cs : Cells} : sDPutW td ty tv D ρ Cs = tv (fun C w Cs => D.ex C w ρ Cs) ρ Cs fun v C1 => td (fun C w Cs => D.ex C w ρ Cs) ρ C1 fun x C2 => ty (fun C w Cs => D.ex C w ρ Cs) ρ C2 fun y C3 => dputQ x y v C3 (D.nx ρ) := rfl
theorem dput_ik {a : Addr} {ls : Lns} {C D : Cells} {Q : Cells → Prop} {o x : Int} [t : Take a C (.dic (ls.map ikw)) D] (hz : ls.length < 100000) (q : Q ((a, .dic ((lpt ls o x).map ikw)) :: D)) : dputQ (.ref a) (.int o) (.int x) C Q :=
  ⟨a, ls.map ikw, .inl o, D, rfl, t.perm, rfl, by rw [List.length_map]; exact hz, by rw [put_ik]; exact q⟩
def isDq (x : W) (C : Cells) : Prop := ∃ a kvs, x = .ref a ∧ (a, MO.dic kvs) ∈ C
def dgetQ (x y z : W) (C : Cells) (Q : WK) : Prop := ∃ a kvs k, x = .ref a ∧ (a, MO.dic kvs) ∈ C ∧ y = kW k ∧ Q ((valW kvs k).getD z) C
theorem mDGet2_eq {td ty tx : ME} {E : XW} {ρ : Rho} {Cs : Cells} {Q : WK} : mDGet2 td ty tx E ρ Cs Q = td E ρ Cs fun x C1 => isDq x C1 ∧ ty E ρ C1 fun y C2 => tx E ρ C2 fun z C3 => dgetQ x y z C3 Q := rfl
theorem isD_i {a : Addr} {kvs : List (Key × W)} {C : Cells} [h : At a C (.dic kvs)] : isDq (.ref a) C := ⟨a, kvs, rfl, h.mem⟩
theorem dget_ik {a : Addr} {ls : Lns} {C : Cells} {Q : WK} {o : Int} [h : At a C (.dic (ls.map ikw))] (q : Q (.int (lg0 ls o)) C) : dgetQ (.ref a) (.int o) (.int 0) C Q := ⟨a, _, .inl o, rfl, h.mem, rfl, by
  rw [val_ik]
  unfold lg0 at q
  cases e : lgt ls o with
  | none => rw [e] at q; exact q
  | some b => rw [e] at q; exact q⟩
theorem dget_id {a : Addr} {ls : Lns} {C : Cells} {Q : WK} {o d : Int} [h : At a C (.dic (ls.map ikw))] (q : Q (.int (lgd ls o d)) C) : dgetQ (.ref a) (.int o) (.int d) C Q := ⟨a, _, .inl o, rfl, h.mem, rfl, by
  rw [val_ik]
  unfold lgd at q
  cases e : lgt ls o with
  | none => rw [e] at q; exact q
  | some b => rw [e] at q; exact q⟩
theorem sum_i {us : List W} {C : Cells} {Q : WK} (ns : List Int) (e : us = ns.map W.int) (q : Q (.int ns.sum) C) : qSum [.ls us] C Q := ⟨_, ns, rfl, e, q⟩
theorem cutW_map {α β : Type} (f : α → β) (xs : List α) (a b : Option Int) : cutW (xs.map f) a b = (cutW xs a b).map f := by
  unfold cutW
  rw [List.length_map, List.map_take, List.map_drop]
theorem map_int {α : Type} (f : α → Int) (xs : List α) : xs.map (fun c => W.int (f c)) = (xs.map f).map W.int := by rw [List.map_map]; rfl
theorem pairW_at {q : Int × Int} : pairW q = .tup [.int q.1, .int q.2] := rfl
theorem dict_ik {ls : Lns} {C : Cells} {Q : WK} (nd : ndK ls) (q : ∀ p, Q (.ref p) ((p, .dic (ls.map ikw)) :: C)) : uDict [.ls (ls.map pairW)] C Q := ⟨_, ls.map ikw, rfl, by
  show ls.map pairW = (ls.map ikw).map kvT
  rw [List.map_map]
  rfl, fun p => by
  rw [merge_new _ _ (by
    rw [List.nil_append, List.map_map]
    have : (Prod.fst ∘ ikw) = (Sum.inl ∘ fun q : Int × Int => q.1 : Int × Int → Key) := rfl
    rw [this, ← List.map_map]
    unfold List.Nodup
    rw [List.pairwise_map]
    exact List.Pairwise.imp (fun h e => h (Sum.inl.inj e)) nd), List.nil_append]
  exact q p⟩
theorem dk_e {b : Bool} : Dk b 60 (.ls []) := dk_ls (n := 59) fun w hw => (nomatch hw)
theorem shL_map {g : Int} {ls : Lns} : ls.map (fun q => W.tup [.int (q.1 + g), .int q.2]) = (shL g ls).map pairW := by unfold shL; rw [List.map_map]; rfl
theorem scL_map {f : Int} {ls : Lns} : ls.map (fun q => W.tup [.int (q.1 * f), .int q.2]) = (scL f ls).map pairW := by unfold scL; rw [List.map_map]; rfl
theorem go_n {s : Go} (h : s = none) : gW s = .non := by rw [h]; rfl
theorem gW_n : gW none = .non := rfl
theorem gW_s {a : Int} : gW (some a) = .int a := rfl
theorem bxW_n : bxW none = .non := rfl
theorem bxW_s {s : Go} {ls : Lns} : bxW (some (s, ls)) = .tup [gW s, .ls ((srt ls).map pairW)] := rfl
theorem cut_to {α : Type} {xs : List α} {c : Int} (h0 : 0 ≤ c) : cutW xs none (some c) = xs.take c.toNat := by
  unfold cutW
  have e : HT.sIx xs.length xs.length (some c) = min c.toNat xs.length := by
    show (if c < 0 then _ else _) = _
    rw [if_neg (by omega)]
  rw [e, show HT.sIx xs.length 0 none = 0 from rfl, List.drop_zero, Nat.sub_zero]
  rw [List.take_eq_take_iff]
  omega
theorem cut_from {α : Type} {xs : List α} {c : Int} (h0 : 0 ≤ c) : cutW xs (some c) none = xs.drop c.toNat := by
  unfold cutW
  have e : HT.sIx xs.length 0 (some c) = min c.toNat xs.length := by
    show (if c < 0 then _ else _) = _
    rw [if_neg (by omega)]
  rw [e, show HT.sIx xs.length xs.length none = xs.length from rfl, List.take_of_length_le (by rw [List.length_drop]; exact Nat.le_refl _)]
  by_cases h : c.toNat ≤ xs.length
  · rw [Nat.min_eq_left h]
  · rw [Nat.min_eq_right (by omega), List.drop_length, List.drop_eq_nil_of_le (by omega)]
/-- a tree whose == is the tree's -/
theorem ne_w {x y : W} {C : Cells} {Q : WK} (hx : Dk true 60 x) (hy : Dk true 60 y) (q : Q (.bl (!eqB x y)) C) : uNe x y C Q := by
  unfold uNe
  cases e : seq x y with
  | none => exact neW_i true hx hy q
  | some b =>
    have : eqB x y = b := by
      cases x <;> cases y <;> simp only [seq, reduceCtorEq, Option.some.injEq] at e <;> subst e
      all_goals first | exact eqB_dec (by simp) | (rw [eqB_self]) | (exact eqB_ne (by simp))
    rw [this] at q
    exact q
theorem eq_w {x y : W} {C : Cells} {Q : WK} (hx : Dk true 60 x) (hy : Dk true 60 y) (q : Q (.bl (eqB x y)) C) : uEq x y C Q := by
  unfold uEq
  cases e : seq x y with
  | none => exact eqW_i true hx hy q
  | some b =>
    have : eqB x y = b := by
      cases x <;> cases y <;> simp only [seq, reduceCtorEq, Option.some.injEq] at e <;> subst e
      all_goals first | exact eqB_dec (by simp) | (rw [eqB_self]) | (exact eqB_ne (by simp))
    rw [this] at q
    exact q
theorem gW_eq {a b : Go} : (gW a = gW b) = (a = b) := by
  cases a <;> cases b <;> simp [gW]
theorem int_gW {a : Int} {g : Go} : (W.int a = gW g) = (g = some a) := by
  cases g <;> simp [gW, eq_comm]
theorem non_gW {g : Go} : (W.non = gW g) = (g = none) := by
  cases g <;> simp [gW]
end SL
namespace SL
open PySem PySem.Spec PyProof.Rows L2
/-! ### repr of lists and tuples -/
def rReprO (K : PySem.W.Frag) : List V → Hp → VK → Prop := fun vs H Q => ∃ a d, vs = [.ref a] ∧ Dp K H (.ref a) d ∧ d.showable = true ∧ d.hasDict = false ∧ d.depth ≤ 61 ∧ d.shown.length ≤ sizeLine ∧ Q (.str d.shown) H
def uReprO : RWL := fun xs Cs Q => ∃ x d, xs = [x] ∧ (∀ K H v, rep K H x v → ∃ a, v = .ref a) ∧ Dw Cs x d ∧ d.showable = true ∧ d.hasDict = false ∧ d.depth ≤ 61 ∧ d.shown.length ≤ sizeLine ∧ Q (.str d.shown) Cs
def rReprU (K : PySem.W.Frag) : List V → Hp → VK → Prop := fun vs H Q => rReprO K vs H Q ∨ (vs = [.non] ∧ Q (.str "None") H) ∨ (∃ i, vs = [.int i] ∧ i.natAbs.log2 < 1920 ∧ Q (.str (toString i)) H) ∨ (∃ b : Bool, vs = [.bl b] ∧ Q (.str (if b then "True" else "False")) H) ∨ ∃ x, vs = [.str x] ∧ (reprText x).length ≤ sizeLine ∧ Q (.str (reprText x)) H
def uRepr : RWL
  | [.non], Cs, Q => Q (.str "None") Cs
  | [.int i], Cs, Q => i.natAbs.log2 < 1920 ∧ Q (.str (toString i)) Cs
  | [.bl b], Cs, Q => Q (.str (if b then "True" else "False")) Cs
  | [.str x], Cs, Q => (reprText x).length ≤ sizeLine ∧ Q (.str (reprText x)) Cs
  | xs, Cs, Q => uReprO xs Cs Q
section
variable {X : Cx} {K : PySem.W.Frag}
theorem call_reprU (hg : X.A.guards = some []) (hu : X.A.units + 64 < cLine) : CallR X (.builtin "repr") (rReprU X.K) := by
  intro pins s σ H xs us Q I r h
  rcases h with ⟨a, d, rfl, hd, h1, h2, h3, h4, q⟩ | ⟨rfl, q⟩ | ⟨i, rfl, hi, q⟩ | ⟨b, rfl, q⟩ | ⟨x, rfl, hx, q⟩
  · obtain ⟨u, rfl, ru⟩ := vals1 r
    obtain ⟨as, rd⟩ := Dp.reads I _ _ u hd ru
    obtain rfl : u = Value.ref a := ru
    refine repr_of_reads' (s := s) rd h1 (fun z => ?_) hg ?_ (fun _ _ e => e) (fun h' t tk k => ⟨.str _, H, I.kept k, ⟨t, rfl⟩, q⟩) h4
    · rw [h2] at z
      cases z
    · omega
  · obtain ⟨u, rfl, ru⟩ := vals1 r
    obtain rfl : u = Value.none := ru
    exact PySem.P.repr_of_none ⟨.str _, H, I.tok _, ⟨_, rfl⟩, q⟩
  · obtain ⟨u, rfl, t, rfl⟩ := vals1 r
    exact PySem.P.repr_of_int hi ⟨.str _, H, I.tok _, ⟨_, rfl⟩, q⟩
  · obtain ⟨u, rfl, ru⟩ := vals1 r
    obtain rfl : u = Value.bool b := ru
    exact PySem.P.repr_of_bool ⟨.str _, H, I.tok _, ⟨_, rfl⟩, q⟩
  · obtain ⟨u, rfl, t, rfl⟩ := vals1 r
    exact PySem.P.repr_of_str ⟨.str _, H, I.tok _, ⟨_, rfl⟩, q⟩ hx
theorem lk_reprO : LkL K (rReprO K) uReprO := fun xs vs H Cs Q Q' ⟨x, d, e, hx, hd, h1, h2, h3, h4, q⟩ rc rx k => by
  subst e
  obtain ⟨v, rfl, r⟩ := one_rep rx
  obtain ⟨a, rfl⟩ := hx K H v r
  exact ⟨a, d, rfl, hd.dp rc r, h1, h2, h3, h4, k.here q rc (rep_str.mpr rfl)⟩
theorem lk_reprU : LkL K (rReprU K) uRepr := fun xs vs H Cs Q Q' h rc rx k => by
  unfold uRepr at h
  split at h
  · obtain ⟨v, rfl, r⟩ := one_rep rx
    obtain rfl := rep_non.mp r
    exact .inr (.inl ⟨rfl, k.here h rc (rep_str.mpr rfl)⟩)
  · obtain ⟨v, rfl, r⟩ := one_rep rx
    obtain rfl := rep_int.mp r
    exact .inr (.inr (.inl ⟨_, rfl, h.1, k.here h.2 rc (rep_str.mpr rfl)⟩))
  · obtain ⟨v, rfl, r⟩ := one_rep rx
    obtain rfl := rep_bl.mp r
    exact .inr (.inr (.inr (.inl ⟨_, rfl, k.here h rc (rep_str.mpr rfl)⟩)))
  · obtain ⟨v, rfl, r⟩ := one_rep rx
    obtain rfl := rep_str.mp r
    exact .inr (.inr (.inr (.inr ⟨_, rfl, h.1, k.here h.2 rc (rep_str.mpr rfl)⟩)))
  · exact .inl (lk_reprO _ vs H Cs Q Q' h rc rx k)
end
/-- a tree that is shown with at most n signs -/
structure Shw (n : Nat) (w : W) : Prop where
  rf : noref w = true
  sh : (dW w).showable = true
  nd : (dW w).hasDict = false
  dep : (dW w).depth ≤ 61
  len : (dW w).shown.length ≤ n
/-- of small depth -/
structure Shd (k n : Nat) (w : W) : Prop where
  rf : noref w = true
  sh : (dW w).showable = true
  nd : (dW w).hasDict = false
  dep : (dW w).depth ≤ k
  len : (dW w).shown.length ≤ n
theorem Shd.up {k k' n n' : Nat} {w : W} (h : Shd k n w) (a : k ≤ k') (b : n ≤ n') : Shd k' n' w := ⟨h.rf, h.sh, h.nd, Nat.le_trans h.dep a, Nat.le_trans h.len b⟩
theorem shd_int {i : Int} (h : i.natAbs < 10 ^ 60) : Shd 0 61 (.int i) := by
  refine ⟨by rw [noref.eq_def], ?_, by rw [dW, PyData.hasDict.eq_def], by rw [dW, PyData.depth.eq_def]; exact Nat.le_refl _, ?_⟩
  · rw [dW, PyData.showable.eq_def]
    have : i.natAbs.log2 < 1920 := by
      by_cases e : i.natAbs = 0
      · rw [e]; decide
      · exact Nat.lt_trans ((Nat.log2_lt e).mpr (Nat.lt_of_lt_of_le (k := 2 ^ 200) h (by decide))) (by decide)
    exact decide_eq_true this
  · rw [dW, PyData.shown_int]
    have e := int_text_length_le10 (k := 60) (by decide) h
    show (Str.ofString (toString i)).length ≤ 61
    rw [PySem.ofString_length]
    exact e
theorem shd_non : Shd 0 4 .non := ⟨by rw [noref.eq_def], by rw [dW, PyData.showable.eq_def], by rw [dW, PyData.hasDict.eq_def], by rw [dW, PyData.depth.eq_def]; exact Nat.le_refl _, by rw [dW]; decide +kernel⟩
theorem shd_bl {b : Bool} : Shd 0 5 (.bl b) := ⟨by rw [noref.eq_def], by rw [dW, PyData.showable.eq_def], by rw [dW, PyData.hasDict.eq_def], by rw [dW, PyData.depth.eq_def]; exact Nat.le_refl _, by rw [dW]; cases b <;> decide +kernel⟩
theorem shd_items {k n : Nat} {ws : List W} (h : ∀ w, w ∈ ws → Shd k n w) : norefs ws = true ∧ PyData.showableAll (dWs ws) = true ∧ PyData.hasDictAll (dWs ws) = false ∧ PyData.depthAll (dWs ws) ≤ k ∧ ∀ t, t ∈ PyData.shownAll (dWs ws) → t.length ≤ n := by
  rw [dWs_map, norefs_all]
  refine ⟨List.all_eq_true.mpr fun w hw => (h w hw).rf, showAll fun d hd => ?_, noDictAll fun d hd => ?_, depthAll_le fun d hd => ?_, fun t ht => ?_⟩
  · obtain ⟨w, hw, rfl⟩ := List.mem_map.mp hd
    exact (h w hw).sh
  · obtain ⟨w, hw, rfl⟩ := List.mem_map.mp hd
    exact (h w hw).nd
  · obtain ⟨w, hw, rfl⟩ := List.mem_map.mp hd
    exact (h w hw).dep
  · rw [shownAll_map, List.map_map] at ht
    obtain ⟨w, hw, rfl⟩ := List.mem_map.mp ht
    exact (h w hw).len
theorem shd_ls {k n m : Nat} {ws : List W} (h : ∀ w, w ∈ ws → Shd k n w) (hm : ws.length ≤ m) : Shd (k + 1) (2 + m * (n + 2)) (.ls ws) := by
  obtain ⟨h1, h2, h3, h4, h5⟩ := shd_items h
  refine ⟨by rw [noref.eq_def]; exact h1, by rw [dW, PyData.showable.eq_def]; exact h2, by rw [dW, PyData.hasDict.eq_def]; exact h3, by rw [dW, PyData.depth.eq_def]; exact Nat.succ_le_succ h4, ?_⟩
  rw [dW, PyData.shown.eq_def]
  dsimp only
  have := listText_len h5
  rw [PyData.shownAll_length, dWs_map, List.length_map, ← dWs_map] at this
  refine Nat.le_trans this ?_
  exact Nat.add_le_add_left (Nat.mul_le_mul_right _ hm) _
theorem shd_tup {k n m : Nat} {ws : List W} (h : ∀ w, w ∈ ws → Shd k n w) (hm : ws.length ≤ m) : Shd (k + 1) (3 + m * (n + 2)) (.tup ws) := by
  obtain ⟨h1, h2, h3, h4, h5⟩ := shd_items h
  refine ⟨by rw [noref.eq_def]; exact h1, by rw [dW, PyData.showable.eq_def]; exact h2, by rw [dW, PyData.hasDict.eq_def]; exact h3, by rw [dW, PyData.depth.eq_def]; exact Nat.succ_le_succ h4, ?_⟩
  rw [dW, PyData.shown.eq_def]
  dsimp only
  have := tupleText_len h5
  rw [PyData.shownAll_length, dWs_map, List.length_map, ← dWs_map] at this
  refine Nat.le_trans this ?_
  exact Nat.add_le_add_left (Nat.mul_le_mul_right _ hm) _
/-- the text of a tree -/
def rpr (w : W) : Str := (dW w).shown
theorem repr_ls {n : Nat} {ws : List W} {C : Cells} {Q : WK} (h : Shd 61 n (.ls ws)) (hn : n ≤ 16777216) (q : Q (.str (rpr (.ls ws))) C) : uRepr [.ls ws] C Q :=
  ⟨_, _, rfl, fun K H v r => by obtain ⟨a, _, _, rfl, _⟩ := rep_ls.mp r; exact ⟨a, rfl⟩, .flat h.rf, h.sh, h.nd, h.dep, Nat.le_trans h.len (by rw [sizeLine_eq]; exact hn), q⟩
theorem repr_tup {n : Nat} {ws : List W} {C : Cells} {Q : WK} (h : Shd 61 n (.tup ws)) (hn : n ≤ 16777216) (q : Q (.str (rpr (.tup ws))) C) : uRepr [.tup ws] C Q :=
  ⟨_, _, rfl, fun K H v r => by obtain ⟨a, _, rfl, _⟩ := rep_tup.mp r; exact ⟨a, rfl⟩, .flat h.rf, h.sh, h.nd, h.dep, Nat.le_trans h.len (by rw [sizeLine_eq]; exact hn), q⟩
/-- any tree -/
theorem repr_w {n : Nat} {w : W} {C : Cells} {Q : WK} (h : Shd 61 n w) (hn : n ≤ 16777216) (q : Q (.str (rpr w)) C) : uRepr [w] C Q := by
  have hl : (dW w).shown.length ≤ sizeLine := Nat.le_trans h.len (by rw [sizeLine_eq]; exact hn)
  cases w with
  | ls ws => exact repr_ls h hn q
  | tup ws => exact repr_tup h hn q
  | non => exact q
  | int i =>
    have hs := h.sh
    rw [dW, PyData.showable.eq_def] at hs
    refine ⟨?_, q⟩
    simpa using hs
  | bl b => exact q
  | str x =>
    refine ⟨?_, q⟩
    exact hl
  | _ => exact absurd h.rf (by rw [noref.eq_def]; simp)
/-- a list that is read -/
theorem repr_v {n : Nat} {x : W} {ws : List W} {C : Cells} {Q : WK} (l : LsV x ws C) (h : Shd 61 n (.ls ws)) (hn : n ≤ 16777216) (q : Q (.str (rpr (.ls ws))) C) : uRepr [x] C Q := by
  have e : uRepr [x] C Q = uReprO [x] C Q := by
    cases x with
    | ref a => rfl
    | ls us => rfl
    | _ => exact l.elim
  rw [e]
  exact ⟨_, _, rfl, fun K H v r => by
    cases x with
    | ref a => exact ⟨a, rep_ref.mp r⟩
    | ls us => obtain ⟨a, _, _, rfl, _⟩ := rep_ls.mp r; exact ⟨a, rfl⟩
    | _ => exact l.elim, l.dw (by have := h.rf; rw [noref.eq_def] at this; exact this), h.sh, h.nd, h.dep, Nat.le_trans h.len (by rw [sizeLine_eq]; exact hn), q⟩
/-- a tuple with a list ahead that is read -/
theorem repr_tv {n : Nat} {x : W} {ws r : List W} {C : Cells} {Q : WK} (l : LsV x ws C) (hr : norefs r = true) (h : Shd 61 n (.tup (.ls ws :: r))) (hn : n ≤ 16777216) (q : Q (.str (rpr (.tup (.ls ws :: r)))) C) : uRepr [.tup (x :: r)] C Q :=
  ⟨_, _, rfl, fun K H v r => by obtain ⟨a, _, rfl, _⟩ := rep_tup.mp r; exact ⟨a, rfl⟩, by
    rw [dW]
    refine .tup (by rw [dWs_map, List.length_map]; rfl) fun i w d e1 e2 => ?_
    rw [dWs_map, List.getElem?_map] at e2
    have hrf := h.rf
    rw [noref.eq_def] at hrf
    dsimp only at hrf
    rw [norefs, Bool.and_eq_true] at hrf
    cases i with
    | zero =>
      simp at e1 e2
      subst e1 e2
      exact l.dw (by have := hrf.1; rw [noref.eq_def] at this; exact this)
    | succ i =>
      simp only [List.getElem?_cons_succ] at e1 e2
      rw [e1] at e2
      cases e2
      rw [norefs_all] at hr
      exact .flat (List.all_eq_true.mp hr w (List.mem_of_getElem? e1)), h.sh, h.nd, h.dep, Nat.le_trans h.len (by rw [sizeLine_eq]; exact hn), q⟩
/-! ### a list that is read, found by instances -/
class LV (x : W) (C : Cells) (ws : outParam (List W)) : Prop where
  v : LsV x ws C
instance LV.l {ws : List W} {C : Cells} : LV (.ls ws) C ws := ⟨rfl⟩
instance LV.r {a : Addr} {ws : List W} {C : Cells} [h : At a C (.lst ws)] : LV (.ref a) C ws := ⟨h.mem⟩
/-! ### a tuple whose first part is a list just made -/
def frzT (w : W) (C : Cells) (Q : WK) : Prop := match w with
  | .tup (.ref p :: r) => match C with
    | (q, .lst us) :: D => q = p ∧ Q (.tup (.ls us :: r)) D
    | _ => Q w C
  | w => Q w C
def mFrzT (t : ME) : ME := fun E ρ Cs Q => t E ρ Cs fun w C => frzT w C Q
theorem qe_frzT {X : Cx} {e : Expr} {t : ME} (h : QE X e t) : QE X e (mFrzT t) := fun Wx tk => pe_imp (pe_frz (h Wx tk)) fun σ H Q' ⟨ρ, Cs, E, Q, R, C, h, kQ, kE⟩ => ⟨ρ, Cs, E, _, R, C, h, fun w C1 v H1 q tr rc rp => by
  unfold frzT at q
  split at q
  · split at q
    · obtain ⟨rfl, q⟩ := q
      obtain ⟨xs, e1, r1⟩ := rc.mem List.mem_cons_self
      obtain ⟨t, ys, rfl, ht, hy⟩ := rep_tup.mp rp
      obtain ⟨y, ys, rfl, hy1, hy2⟩ := reps_cons.mp hy
      obtain rfl := rep_ref.mp hy1
      exact .inr ⟨_, _, e1, trivial, fun od => by
        have trf : Tr X.K H1 (upd H1 _ (.frz od (.lst xs))) := tr_frz e1
        exact kQ _ _ _ _ q (tr.trans trf) (rc.frz e1) (rep_tup.mpr ⟨t, _, rfl, trf.tup _ _ ht, reps_cc.mpr ⟨rep_ls.mpr ⟨_, od, xs, rfl, upd_same, reps_mono trf _ _ r1⟩, reps_mono trf _ _ hy2⟩⟩)⟩
    · exact .inl (kQ _ C1 _ _ q tr rc rp)
  · exact .inl (kQ _ C1 _ _ q tr rc rp), kE⟩
theorem frzT_r {p : Addr} {us r : List W} {D : Cells} {Q : WK} : frzT (.tup (.ref p :: r)) ((p, .lst us) :: D) Q = Q (.tup (.ls us :: r)) D := propext ⟨fun h => h.2, fun h => ⟨rfl, h⟩⟩
theorem frzT_n {D : Cells} {Q : WK} : frzT .non D Q = Q .non D := rfl
end SL
namespace SL
open PySem PySem.Spec PyProof.Rows L2
/-! ### text.split(text), list.index(text), written dicts asked by get -/
theorem m1_get {X : Cx} {o e : Expr} {apos cpos : Pos} (h1 : attributeBase o "get" X.env (eval o X.env) = eval o X.env := by rfl) (h2 : ((backTo cpos (starEach [e] X.env)).all (fun x => !x.1) && (backToKw cpos (keywordEach [] X.env)).all (fun x => x.1.isSome)
    && decide (([e] : List Expr).length + ([] : List Keyword).length + (if ([] : List Keyword).isEmpty then 0 else 1) < 30)) = true := by rfl) (h3 : (apos.endLine == cpos.line) = true := by rfl) (h4 : backTo cpos (starEach [e] X.env) = [(false, eval e X.env)] := by rfl) : M1 X o "get" apos e cpos := ⟨h1, h2, h3, h4⟩
section
variable {K : PySem.W.Frag}
def qSplit : RWM := fun x xs Cs Q => ∃ a b, x = .str a ∧ xs = [.str b] ∧ (b.length == 0) = false ∧ a.length + 2 ≤ sizeLine ∧ ∀ p, Q (.ref p) ((p, .lst ((Txt.split a b).map W.str)) :: Cs)
theorem lk_split : LkM K (fun x xs H Q => ∃ a b, x = .str a ∧ xs = [.str b] ∧ (b.length == 0) = false ∧ a.length + 2 ≤ sizeLine ∧ rNewStrs (Txt.split a b) H Q) qSplit := fun x xs vx vs H Cs Q Q' ⟨a, b, e1, e2, h1, h2, q⟩ rc rx rxs k => by
  subst e1 e2
  obtain ⟨v, rfl, r⟩ := one_rep rxs
  refine ⟨a, b, rep_str.mp rx, by rw [rep_str.mp r], h1, h2, fun p hp => ?_⟩
  exact k _ _ _ _ (q p) (tr_new hp) (rc.new hp ⟨_, upd_same, reps_strs.mpr rfl⟩) (rep_ref.mpr rfl)
def uIndex : RWM := fun x xs Cs Q => ∃ (ws : List W) (y z : W) (j : Nat), xs = [y] ∧ LsV x ws Cs ∧ flatW y = true ∧ ws.all flatW = true ∧ ws[j]? = some z ∧ weq z y = true ∧ (∀ (m : Nat) (z' : W), m < j → ws[m]? = some z' → weq z' y = false) ∧ Q (.int (j : Nat)) Cs
theorem lk_index : LkM K (rIndex K) uIndex := fun x xs vx vs H Cs Q Q' ⟨ws, y, z, j, e1, hl, fy, fw, h1, h2, h3, q⟩ rc rx rxs k => by
  subst e1
  obtain ⟨v, rfl, r⟩ := one_rep rxs
  obtain ⟨a, us, rfl, f1, r1⟩ := hl.get rc rx
  obtain ⟨fus, _⟩ := win_ok fy r fw r1
  have hall : ∀ w ∈ ws, flatW w = true := List.all_eq_true.mp fw
  have hlen := reps_len r1
  have nth : ∀ (m : Nat) (w : W), ws[m]? = some w → ∃ u, us[m]? = some u ∧ rep K H w u := fun m w e => reps_get r1 e
  obtain ⟨u, u1, u2⟩ := nth j z h1
  refine ⟨a, us, v, j, u, rfl, rfl, .inl f1, flat_ok fy r, fus, u1, by rw [weq_ok fy (hall z (List.mem_of_getElem? h1)) r u2]; exact h2, fun m z' hm e => ?_, k.here q rc (rep_int.mpr rfl)⟩
  obtain ⟨w, hw, u4⟩ := reps_get' r1 e
  rw [weq_ok fy (hall w (List.mem_of_getElem? hw)) r u4]
  exact h3 m w hm hw
/-! a sign in a text; a tree in a list of trees -/
def uInS : RW2 := fun x y Cs Q => ∃ (c : Nat) (z : Str), x = .str ⟨#[c]⟩ ∧ y = .str z ∧ Q (.bl (decide (c ∈ cd z))) Cs
theorem lk_inS : Lk2 K (fun x y H Q => ∃ (c : Nat) (z : Str), x = .str ⟨#[c]⟩ ∧ y = .str z ∧ Q (.bl (decide (c ∈ z.cps.toList))) H) uInS := fun x y vx vy H Cs Q Q' ⟨c, z, e1, e2, q⟩ rc rx ry k => by
  subst e1 e2
  exact ⟨c, z, rep_str.mp rx, rep_str.mp ry, k.here q rc (rep_bl.mpr rfl)⟩
def qInD : RW2 := fun x y Cs Q => ∃ d ds, Dw Cs x d ∧ Dw Cs y (.list ds) ∧ SeqAt.shaped d = true ∧ SeqAt.shaped (.list ds) = true ∧ Q (.bl (ds.any fun z => PyData.eqv z d)) Cs
theorem lk_inD : Lk2 K (rInD K) qInD := fun x y vx vy H Cs Q Q' ⟨d, ds, h1, h2, s1, s2, q⟩ rc rx ry k => ⟨d, ds, h1.dp rc rx, h2.dp rc ry, s1, s2, k.here q rc (rep_bl.mpr rfl)⟩
theorem inD_i {x y : W} {ws : List W} {Cs : Cells} {Q : WK} (b : Bool) (l : LsV y ws Cs) (hx : Dk b 60 x) (hall : ∀ w, w ∈ ws → Dk b 59 w) (h : Q (.bl (ws.any fun z => eqB z x)) Cs) : qInD x y Cs Q := by
  have hy : Dk b 60 (.ls ws) := dk_ls hall
  have e : dW (.ls ws) = .list (dWs ws) := by rw [dW]
  refine ⟨_, dWs ws, .flat (nk_noref hx.nk), by rw [← e]; exact l.dw (norefs_ls hy), shp hx, by rw [← e]; exact shp hy, ?_⟩
  have e2 : ((dWs ws).any fun z => PyData.eqv z (dW x)) = ws.any fun z => eqB z x := by
    rw [dWs_map, List.any_map]
    refine Bool.eq_iff_iff.mpr ?_
    rw [List.any_eq_true, List.any_eq_true]
    refine exists_congr fun z => and_congr_right fun hz => ?_
    show PyData.eqv (dW z) (dW x) = true ↔ _
    rw [eqv_B ((hall z hz).up (by decide)) hx]
  rw [e2]
  exact h
end
/-- the signs of a text -/
def iStr (t : ME) : MI := fun E ρ Cs Q => t E ρ Cs fun x C => ∃ s, x = .str s ∧ Q ⟨(cd s).length, fun _ => True, fun i w => ∃ c, (cd s)[i]? = some c ∧ w = .str ⟨#[c]⟩⟩ C
theorem walk_s {K : PySem.W.Frag} {H : Hp} {s : Str} : WalkW K H (Its s) ⟨(cd s).length, fun _ => True, fun i w => ∃ c, (cd s)[i]? = some c ∧ w = .str ⟨#[c]⟩⟩ := ⟨fun i H Cs _ hi _ _ => by
    have : i < (cd s).length := hi
    rw [cd, Array.length_toList] at this
    exact this, fun _ _ _ _ _ => by
    show s.cps.size ≤ (cd s).length
    rw [cd, Array.length_toList]
    exact Nat.le_refl _, fun i H x H' Cs _ hi R h y => by
    obtain ⟨e, c, hc, y⟩ := y
    subst e y
    exact ⟨Tr.refl _, fun _ q => q, _, ⟨c, by rw [cd, Array.getElem?_toList]; exact hc, rfl⟩, rep_str.mpr rfl⟩⟩
theorem qi_str {X : Cx} {tg l : Expr} {tl : ME} (h : QE X l tl) : QI X tg l (iStr tl) := fun Wx tk => pi_imp (pi_str (h Wx tk)) fun σ H R' ⟨ρ, Cs, E, Q, R, C, h, kQ, kE⟩ => ⟨ρ, Cs, E, _, R, C, h, fun x C1 v H1 q tr rc rp => by
  obtain ⟨s, e, q⟩ := q
  subst e
  exact ⟨s, rep_str.mp rp, kQ _ C1 H1 _ q tr rc walk_s⟩, kE⟩
theorem items_s {s : Str} {kp : Cells → Prop} : Items ⟨(cd s).length, kp, fun i w => ∃ c, (cd s)[i]? = some c ∧ w = .str ⟨#[c]⟩⟩ (cd s) (fun c => .str ⟨#[c]⟩) := ⟨rfl, fun i w _ e => e⟩
/-! five arguments -/
def sp5 (p : W → W → W → W → W → Cells → WK → XW → Prop) : SpW := fun ws Cs Q E => ∃ x y z u v, ws = [x, y, z, u, v] ∧ p x y z u v Cs Q E
theorem len5 {p : W → W → W → W → W → Cells → WK → XW → Prop} : ∀ ws Cs Q E, sp5 p ws Cs Q E → ws.length = 5 := fun ws Cs Q E ⟨_, _, _, _, _, e, _⟩ => by rw [e]; rfl
theorem sp5_iff {p : W → W → W → W → W → Cells → WK → XW → Prop} {x y z u v : W} {Cs : Cells} {Q : WK} {E : XW} : sp5 p [x, y, z, u, v] Cs Q E ↔ p x y z u v Cs Q E := ⟨fun ⟨a, b, c, d, f, e, h⟩ => by cases e; exact h, fun h => ⟨x, y, z, u, v, rfl, h⟩⟩
/-- a pair with a list behind that is read -/
theorem repr_t2 {n : Nat} {g x : W} {ws : List W} {C : Cells} {Q : WK} (l : LsV x ws C) (hg : noref g = true) (h : Shd 61 n (.tup [g, .ls ws])) (hn : n ≤ 16777216) (q : Q (.str (rpr (.tup [g, .ls ws]))) C) : uRepr [.tup [g, x]] C Q :=
  ⟨_, _, rfl, fun K H v r => by obtain ⟨a, _, rfl, _⟩ := rep_tup.mp r; exact ⟨a, rfl⟩, by
    rw [dW]
    refine .tup (by rw [dWs_map, List.length_map]; rfl) fun i w d e1 e2 => ?_
    rw [dWs_map, List.getElem?_map] at e2
    have hrf := h.rf
    rw [noref.eq_def] at hrf
    dsimp only at hrf
    simp only [norefs, Bool.and_eq_true] at hrf
    match i, e1, e2 with
    | 0, e1, e2 =>
      simp at e1 e2
      subst e1 e2
      exact .flat hg
    | 1, e1, e2 =>
      simp at e1 e2
      subst e1 e2
      exact l.dw (by have := hrf.2.1; rw [noref.eq_def] at this; exact this)
    | i + 2, e1, e2 => simp at e1, h.sh, h.nd, h.dep, Nat.le_trans h.len (by rw [sizeLine_eq]; exact hn), q⟩
end SL
namespace SL
open PySem PySem.Spec PyProof.Rows L2
/-! ### how great bounds get -/
def sumL : List Cmd → Int
  | [] => 0
  | .go .left n :: cs => n + sumL cs
  | _ :: cs => sumL cs
theorem sumL_0 : ∀ {cs : List Cmd}, okM cs → 0 ≤ sumL cs
  | [], _ => Int.le_refl _
  | c :: cs, h => by
    have ih := sumL_0 (cs := cs) (h.sub fun d hd => List.mem_cons_of_mem _ hd)
    have hc := h c List.mem_cons_self
    cases c with
    | go d n =>
      cases d with
      | left => have := hc.1; show 0 ≤ n + sumL cs; omega
      | _ => exact ih
    | home => exact ih
    | fin => exact ih
def leL (b : Int) (ls : Lns) : Prop := ∀ q, q ∈ ls → q.2 ≤ b
theorem leL_put {b o x : Int} {ls : Lns} (h : leL b ls) (hx : x ≤ b) : leL b (lpt ls o x) := by
  intro q hq
  unfold lpt at hq
  split at hq
  · obtain ⟨r, hr, rfl⟩ := List.mem_map.mp hq
    split
    · exact hx
    · exact h r hr
  · rcases List.mem_append.mp hq with hq | hq
    · exact h q hq
    · rw [List.mem_singleton.mp hq]
      exact hx
theorem leL_lg0 {b : Int} {ls : Lns} (hb : 0 ≤ b) (nd : ndK ls) (h : leL b ls) (o : Int) : lg0 ls o ≤ b := by
  unfold lg0
  cases e : lgt ls o with
  | none => exact hb
  | some x => exact h _ ((lgt_mem nd).mp e)
theorem leL.up {a b : Int} {ls : Lns} (h : leL a ls) (k : a ≤ b) : leL b ls := fun q hq => Int.le_trans (h q hq) k
theorem boxF_le : ∀ {cs : List Cmd} {o v : Int}, okM cs → 1 ≤ v → (∀ m ls, boxF o cs v = .run m ls → m ≤ v + sumL cs ∧ leL (v + sumL cs) ls) ∧ ∀ s ls, boxF o cs v = .stop (some (s, ls)) → leL (v + sumL cs) ls
  | [], o, v, _, hv => ⟨fun m ls e => by cases e; exact ⟨by simp [sumL], fun q hq => nomatch hq⟩, fun s ls e => by cases e⟩
  | c :: cs, o, v, h, hv => by
    have hm : okM cs := h.sub fun d hd => List.mem_cons_of_mem _ hd
    obtain ⟨i1, i2⟩ := boxF_le (cs := cs) (o := o + c.mv) (v := v) hm hv
    have ok := boxF_ok (cs := cs) (o := o + c.mv) (v := v) hm hv
    have s0 := sumL_0 hm
    have hc := h c List.mem_cons_self
    have sm : sumL cs ≤ sumL (c :: cs) := by
      cases c with
      | go d n =>
        cases d with
        | left => have := hc.1; show sumL cs ≤ n + sumL cs; omega
        | _ => exact Int.le_refl _
      | home => exact Int.le_refl _
      | fin => exact Int.le_refl _
    rw [boxF_cons]
    cases e : boxF (o + c.mv) cs v with
    | stop r => exact ⟨fun m ls e2 => by (cases e2), fun s ls e2 => by (cases e2; exact (i2 _ _ e).up (by omega))⟩
    | run m ls =>
      rw [e] at ok
      obtain ⟨h1, h2, h3⟩ := ok
      obtain ⟨j1, j2⟩ := i1 _ _ e
      have l0 := leL_lg0 (by omega) h2 j2 o
      have j2' : leL (v + sumL (c :: cs)) ls := j2.up (by omega)
      cases c with
      | home => exact ⟨fun m ls e2 => by (cases e2), fun s ls e2 => by (cases e2)⟩
      | fin => exact ⟨fun m ls e2 => by (cases e2), fun s ls e2 => by (cases e2; exact j2')⟩
      | go d n =>
        cases d with
        | down => exact ⟨fun m ls e2 => by (cases e2; exact ⟨j1, j2⟩), fun s ls e2 => by (cases e2)⟩
        | up => exact ⟨fun m ls e2 => by (cases e2; exact ⟨j1, j2⟩), fun s ls e2 => by (cases e2)⟩
        | left =>
          have e3 : sumL (.go .left n :: cs) = n + sumL cs := rfl
          rw [e3] at j2' ⊢
          refine ⟨fun k ks e2 => ?_, fun s ks e2 => ?_⟩
          · have e2 : bst o m ls (.go .left n) = _ := e2
            rw [bst_left] at e2
            split at e2 <;> cases e2
            exact ⟨by omega, leL_put j2' (by omega)⟩
          · have e2 : bst o m ls (.go .left n) = _ := e2
            rw [bst_left] at e2
            split at e2 <;> cases e2
            exact leL_put j2' (by omega)
        | right =>
          have hn := hc.1
          have e3 : sumL (.go .right n :: cs) = sumL cs := rfl
          rw [e3] at j2' ⊢
          refine ⟨fun k ks e2 => ?_, fun s ks e2 => ?_⟩
          · have e2 : bst o m ls (.go .right n) = _ := e2
            rw [bst_right] at e2
            split at e2 <;> cases e2
            exact ⟨by omega, leL_put j2' (by omega)⟩
          · have e2 : bst o m ls (.go .right n) = _ := e2
            rw [bst_right] at e2
            split at e2 <;> cases e2
            exact leL_put j2' (by omega)
theorem boxO_le {cs : List Cmd} {v : Int} {s : Go} {ls : Lns} (h : okM cs) (hv : 1 ≤ v) (e : boxO cs v = some (s, ls)) : (∀ m, s = some m → m ≤ v + sumL cs) ∧ leL (v + sumL cs) ls := by
  obtain ⟨i1, i2⟩ := boxF_le (o := 0) (v := v) h hv
  unfold boxO at e
  cases e2 : boxF 0 cs v with
  | run m ks =>
    rw [e2] at e
    cases e
    obtain ⟨a, b⟩ := i1 _ _ e2
    exact ⟨fun k e => by cases e; exact a, b⟩
  | stop r =>
    rw [e2] at e
    have e : r = some (s, ls) := e
    subst e
    refine ⟨fun k ek => ?_, i2 _ _ e2⟩
    subst ek
    exfalso
    have : ∀ (cs : List Cmd) (o v : Int) (m : Int) (ls : Lns), boxF o cs v = .stop (some (some m, ls)) → False := by
      intro cs
      induction cs with
      | nil => intro o v m ls e; cases e
      | cons c cs ih =>
        intro o v m ls e
        rw [boxF_cons] at e
        cases e2 : boxF (o + c.mv) cs v with
        | stop r => rw [e2] at e; cases e; exact ih _ _ _ _ e2
        | run k ks =>
          rw [e2] at e
          cases c with
          | home => cases e
          | fin => cases e
          | go d n =>
            cases d with
            | down => cases e
            | up => cases e
            | left =>
              have e : bst o k ks (.go .left n) = _ := e
              rw [bst_left] at e
              split at e <;> cases e
            | right =>
              have e : bst o k ks (.go .right n) = _ := e
              rw [bst_right] at e
              split at e <;> cases e
    exact this _ _ _ _ _ e2
theorem shd_go {g : Go} (h : ∀ a, g = some a → a.natAbs < 10 ^ 60) : Shd 0 61 (gW g) := by
  cases g with
  | none => exact shd_non.up (Nat.le_refl _) (by decide)
  | some a => exact shd_int (h a rfl)
theorem shd_pairs {ls : Lns} {m : Nat} (h1 : ∀ q, q ∈ ls → q.1.natAbs < 10 ^ 60 ∧ q.2.natAbs < 10 ^ 60) (hm : ls.length ≤ m) : Shd 2 (2 + m * 131) (.ls (ls.map pairW)) :=
  shd_ls (n := 129) (fun w hw => by
    obtain ⟨q, hq, rfl⟩ := List.mem_map.mp hw
    refine shd_tup (n := 61) (m := 2) (fun u hu => ?_) (Nat.le_refl 2)
    simp only [List.mem_cons, List.not_mem_nil, or_false] at hu
    rcases hu with rfl | rfl
    · exact shd_int (h1 q hq).1
    · exact shd_int (h1 q hq).2) (by rw [List.length_map]; exact hm)
theorem shd_ints {ns : List Int} {m : Nat} (h : ∀ x, x ∈ ns → x.natAbs < 10 ^ 60) (hm : ns.length ≤ m) : Shd 1 (2 + m * 63) (.ls (ns.map W.int)) :=
  shd_ls (n := 61) (fun w hw => by
    obtain ⟨q, hq, rfl⟩ := List.mem_map.mp hw
    exact shd_int (h q hq)) (by rw [List.length_map]; exact hm)
theorem shd_cmd {c : Cmd} (h : c.ok BIG) : Shd 1 150 c.w := ⟨nb_noref (dok_cmd c).nb, showable_cmd h, noDict_cmd c, (dok_cmd c).dep, shown_cmd h⟩
theorem shd_cmds {cs : List Cmd} {m : Nat} (h : okM cs) (hm : cs.length ≤ m) : Shd 2 (2 + m * 152) (.ls (cs.map Cmd.w)) :=
  shd_ls (n := 150) (fun w hw => by
    obtain ⟨c, hc, rfl⟩ := List.mem_map.mp hw
    exact shd_cmd (h c hc)) (by rw [List.length_map]; exact hm)
end SL
namespace SL
open PySem PySem.Spec PyProof.Rows L2
/-! ### texts: lists of lengths -/
def lnAt (ln : List Int) (i : Int) : Int := (ln[i.toNat]?).getD 0
theorem nth_ln {ln : List Int} {i : Int} (h0 : 0 ≤ i) (h1 : i < ln.length) : nth (ln.map W.int) i = some (.int (lnAt ln i)) := by
  unfold nth lnAt
  rw [if_pos h0, List.getElem?_map]
  have : i.toNat < ln.length := by omega
  rw [List.getElem?_eq_getElem this]
  rfl
theorem lnAt_0 {ln : List Int} (h : ∀ x, x ∈ ln → 0 ≤ x) (i : Int) : 0 ≤ lnAt ln i := by
  unfold lnAt
  cases e : ln[i.toNat]? with
  | none => exact Int.le_refl _
  | some x => exact h x (List.mem_of_getElem? e)
/-- the cursor behind commands, run one by one, or None -/
def aftW (ln : List Int) (row : Int) (g : Go) (cs : List Cmd) : W :=
  if 0 ≤ row + lo cs ∧ row + hi cs < ln.length then .tup [.int (row + off cs), gW (rnG (fun o => lnAt ln (row + o)) 0 g cs)] else .non
theorem rnG_snoc (L : Int → Int) (g : Go) (a : List Cmd) (c : Cmd) : rnG L 0 g (a ++ [c]) = stp (L (off a)) (rnG L 0 g a) c := by
  rw [rnG_app, Int.zero_add]
  rfl
theorem gW_ne (a : Int) : isNon (gW (some a)) = false := rfl
/-- the lengths of a least text -/
def lls (a b : Int) (ls : Lns) : List Int := (List.range (b + 1 - a).toNat).map fun i => lg0 ls (a + (i : Nat))
theorem lls_len (a b : Int) (ls : Lns) : (lls a b ls).length = (b + 1 - a).toNat := by unfold lls; rw [List.length_map, List.length_range]
theorem lls_at {a b : Int} {ls : Lns} {p : Int} (h1 : a ≤ p) (h2 : p ≤ b) : lnAt (lls a b ls) (p - a) = lg0 ls p := by
  unfold lnAt lls
  rw [List.getElem?_map, List.getElem?_range (by omega)]
  show lg0 ls (a + ((p - a).toNat : Nat)) = _
  rw [show a + ((p - a).toNat : Nat) = p by omega]
theorem lls_out {a b : Int} {ls : Lns} (h : inLH a b ls) (nd : ndK ls) {p : Int} (hp : p < a ∨ b < p) : lg0 ls p = 0 := by
  unfold lg0
  cases e : lgt ls p with
  | none => rfl
  | some x =>
    have := h _ ((lgt_mem nd).mp e)
    simp only at this
    omega
end SL
namespace SL
open PySem PySem.Spec PyProof.Rows L2
/-! ### forms: boxes of all goals -/
/-- bounds, all greater by g -/
def upL (g : Int) (ls : Lns) : Lns := ls.map fun q => (q.1, q.2 + g)
theorem upL_keys (g : Int) (ls : Lns) : (upL g ls).map (·.1) = ls.map (·.1) := by unfold upL; rw [List.map_map]; rfl
theorem ndK_upL {g : Int} {ls : Lns} (h : ndK ls) : ndK (upL g ls) := by unfold ndK; rw [upL_keys]; exact h
theorem lgt_upL (g : Int) (ls : Lns) (o : Int) : lgt (upL g ls) o = (lgt ls o).map (· + g) := by
  unfold lgt upL
  induction ls with
  | nil => rfl
  | cons q ls ih =>
    rw [List.map_cons]
    by_cases h : q.1 = o
    · rw [List.find?_cons_of_pos (by simp [h]), List.find?_cons_of_pos (by simp [h])]; rfl
    · rw [List.find?_cons_of_neg (by simp [h]), List.find?_cons_of_neg (by simp [h])]; exact ih
theorem lpt_upL (g : Int) (ls : Lns) (o x : Int) : lpt (upL g ls) o (x + g) = upL g (lpt ls o x) := by
  unfold lpt
  have e : ((upL g ls).any fun q => decide (q.1 = o)) = ls.any fun q => decide (q.1 = o) := by unfold upL; rw [List.any_map]; rfl
  rw [e]
  split
  · unfold upL
    rw [List.map_map, List.map_map]
    refine List.map_congr_left fun q _ => ?_
    show (if q.1 = o then _ else _) = _
    by_cases h : q.1 = o <;> simp [h]
  · unfold upL
    rw [List.map_append]
    rfl
theorem srt_upL {g : Int} {ls : Lns} (h : ndK ls) : srt (upL g ls) = upL g (srt ls) := by
  refine (srt_uniq ((srt_perm ls).map _) (ndK_upL h) ?_).symm
  show List.Pairwise _ ((srt ls).map _)
  rw [List.pairwise_map]
  exact (srt_sorted ls).imp fun {a b} h => h
theorem upL_up (a b : Int) (ls : Lns) : upL a (upL b ls) = upL (b + a) ls := by
  unfold upL
  rw [List.map_map]
  refine List.map_congr_left fun q _ => ?_
  show (q.1, q.2 + b + a) = (q.1, q.2 + (b + a))
  rw [show q.2 + b + a = q.2 + (b + a) by omega]
theorem upL_0 (ls : Lns) : upL 0 ls = ls := by
  unfold upL
  conv => rhs; rw [← List.map_id ls]
  refine List.map_congr_left fun q _ => ?_
  show (q.1, q.2 + 0) = q
  rw [Int.add_zero]
/-- the data of a box: its bounds less the goal, lines in order -/
abbrev Dt := Option (Go × Lns)
abbrev Pc := Int × Dt
def dtB (g : Int) : Bx → Dt := Option.map fun r => (r.1.map (· - g), upL (-g) (srt r.2))
def dtF (cs : List Cmd) (g : Int) : Dt := dtB g (boxO cs g)
/-- a piece more, unless it goes on with the last one -/
def addP (ps : List Pc) (f : Int) (d : Dt) : List Pc := if ps.getLast?.map (·.2) = some d then ps else ps ++ [(f, d)]
inductive PS where
  | run (f s : Int) (ls : Lns) (ps : List Pc)
  | stop (ps : List Pc)
def pst (o f s : Int) (ls : Lns) (ps : List Pc) : Cmd → PS
  | .go .left n => .run f (s + n) (lpt ls o (max (lgd ls o (s + n)) (s + n))) ps
  | .go .right n => if f + (s - n) ≤ 0 then .run (1 - (s - n)) (s - n) (lpt ls o (max (lgd ls o s) s)) (addP ps f (some (none, srt (lpt ls o (max (lgd ls o s) s))))) else .run f (s - n) (lpt ls o (max (lgd ls o s) s)) ps
  | .go _ _ => .run f s ls ps
  | .home => .stop (addP ps f none)
  | .fin => .stop (addP ps f (some (none, srt ls)))
theorem pst_right {o f s n : Int} {ls : Lns} {ps : List Pc} : pst o f s ls ps (.go .right n) = if f + (s - n) ≤ 0 then .run (1 - (s - n)) (s - n) (lpt ls o (max (lgd ls o s) s)) (addP ps f (some (none, srt (lpt ls o (max (lgd ls o s) s))))) else .run f (s - n) (lpt ls o (max (lgd ls o s) s)) ps := rfl
def pcn (o : Int) (c : Cmd) : PS → PS
  | .stop r => .stop r
  | .run f s ls ps => pst o f s ls ps c
def pcF : Int → List Cmd → PS
  | _, [] => .run 1 0 [] []
  | o, c :: cs => pcn o c (pcF (o + c.mv) cs)
theorem pcF_nil {o : Int} : pcF o [] = .run 1 0 [] [] := rfl
theorem pcF_cons {o : Int} {c : Cmd} {cs : List Cmd} : pcF o (c :: cs) = pcn o c (pcF (o + c.mv) cs) := rfl
def PS.out : PS → List Pc
  | .run f s ls ps => addP ps f (some (some s, srt ls))
  | .stop ps => ps
/-- the pieces of commands -/
def pcO (cs : List Cmd) : List Pc := (pcF 0 cs).out
theorem pcF_stop : ∀ (a : List Cmd) {b : List Cmd} {o : Int} {r : List Pc}, pcF (o + off a) b = .stop r → pcF o (a ++ b) = .stop r
  | [], b, o, r, h => by rw [off, Int.add_zero] at h; exact h
  | c :: a, b, o, r, h => by
    rw [List.cons_append, pcF_cons, pcF_stop a (by rw [off] at h; rw [Int.add_assoc]; exact h)]
    rfl
/-- pieces, the last one first: they tell a function of the goals below a goal -/
def Rl (F : Int → Dt) : Int → List Pc → Prop
  | e, [] => e = 1
  | e, (f, d) :: t => f < e ∧ (∀ g, f ≤ g → g < e → F g = d) ∧ (∀ q, t.head? = some q → q.2 ≠ d) ∧ Rl F f t
def Rw (F : Int → Dt) : List Pc → Prop
  | [] => False
  | (f, d) :: t => (∀ g, f ≤ g → F g = d) ∧ (∀ q, t.head? = some q → q.2 ≠ d) ∧ Rl F f t
theorem Rl_ge {F : Int → Dt} : ∀ {ps : List Pc} {e : Int}, Rl F e ps → 1 ≤ e
  | [], e, h => by have h : e = 1 := h; omega
  | (f, d) :: t, e, h => by have := Rl_ge h.2.2.2; have := h.1; omega
theorem Rl_congr {F G : Int → Dt} : ∀ {ps : List Pc} {e : Int}, Rl F e ps → (∀ g, 1 ≤ g → g < e → F g = G g) → Rl G e ps
  | [], e, h, _ => h
  | (f, d) :: t, e, h, k => by
    have hf := Rl_ge h.2.2.2
    have := h.1
    exact ⟨h.1, fun g a b => by rw [← k g (by omega) b]; exact h.2.1 g a b, h.2.2.1, Rl_congr h.2.2.2 fun g a b => k g a (by omega)⟩
theorem Rl_uniq {F : Int → Dt} : ∀ {ps qs : List Pc} {e : Int}, Rl F e ps → Rl F e qs → ps = qs
  | [], [], _, _, _ => rfl
  | [], (f, d) :: t, e, h, k => by have h : e = 1 := h; have := Rl_ge k.2.2.2; have := k.1; omega
  | (f, d) :: t, [], e, h, k => by have k : e = 1 := k; have := Rl_ge h.2.2.2; have := h.1; omega
  | (f, d) :: t, (f', d') :: t', e, h, k => by
    obtain ⟨h1, h2, h3, h4⟩ := h
    obtain ⟨k1, k2, k3, k4⟩ := k
    have gf := Rl_ge h4
    have gf' := Rl_ge k4
    have ed : d = d' := by rw [← h2 (e - 1) (by omega) (by omega), ← k2 (e - 1) (by omega) (by omega)]
    subst ed
    have ef : f = f' := by
      rcases Int.lt_trichotomy f f' with h | h | h
      · exfalso
        cases t' with
        | nil => have k4 : f' = 1 := k4; omega
        | cons q t' =>
          obtain ⟨f2, d2⟩ := q
          exact k3 _ rfl (by show d2 = d; rw [← k4.2.1 (f' - 1) (by have := k4.1; omega) (by omega), h2 (f' - 1) (by omega) (by omega)])
      · exact h
      · exfalso
        cases t with
        | nil => have h4 : f = 1 := h4; omega
        | cons q t =>
          obtain ⟨f2, d2⟩ := q
          exact h3 _ rfl (by show d2 = d; rw [← h4.2.1 (f - 1) (by have := h4.1; omega) (by omega), k2 (f - 1) (by omega) (by omega)])
    subst ef
    rw [Rl_uniq h4 k4]
theorem Rw_Rl {F : Int → Dt} : ∀ {ps : List Pc}, Rw F ps → ∃ m : Int, ∀ e, m < e → Rl F e ps
  | [], h => h.elim
  | (f, d) :: t, h => ⟨f, fun e he => ⟨he, fun g a _ => h.1 g a, h.2.1, h.2.2⟩⟩
theorem Rw_uniq {F : Int → Dt} {ps qs : List Pc} (h : Rw F ps) (k : Rw F qs) : ps = qs := by
  obtain ⟨m, hm⟩ := Rw_Rl h
  obtain ⟨n, hn⟩ := Rw_Rl k
  exact Rl_uniq (hm (max m n + 1) (by omega)) (hn (max m n + 1) (by omega))
theorem Rw_congr {F G : Int → Dt} : ∀ {ps : List Pc}, Rw F ps → (∀ g, 1 ≤ g → F g = G g) → Rw G ps
  | [], h, _ => h.elim
  | (f, d) :: t, h, k => by
    have := Rl_ge h.2.2
    exact ⟨fun g a => by rw [← k g (by omega)]; exact h.1 g a, h.2.1, Rl_congr h.2.2 fun g a _ => k g a⟩
theorem last_rev {ps : List Pc} : ps.getLast? = ps.reverse.head? := by rw [List.head?_reverse]
theorem Rl_add {F : Int → Dt} {ps : List Pc} {f e : Int} {d : Dt} (h : Rl F f ps.reverse) (he : f < e) (k : ∀ g, f ≤ g → g < e → F g = d) : Rl F e (addP ps f d).reverse := by
  unfold addP
  rw [last_rev]
  split
  · next e1 =>
    cases er : ps.reverse with
    | nil => rw [er] at e1; cases e1
    | cons q t =>
      obtain ⟨f0, d0⟩ := q
      rw [er] at e1 h
      have e1 : some d0 = some d := e1
      cases e1
      refine ⟨by have := h.1; omega, fun g a b => ?_, h.2.2.1, h.2.2.2⟩
      by_cases hg : g < f
      · exact h.2.1 g a hg
      · exact k g (by omega) b
  · next e1 =>
    rw [List.reverse_append]
    refine ⟨he, k, fun q hq => ?_, h⟩
    intro e2
    exact e1 (by rw [show ps.reverse.head? = some q from hq, Option.map_some, e2])
theorem Rw_add {F : Int → Dt} {ps : List Pc} {f : Int} {d : Dt} (h : Rl F f ps.reverse) (k : ∀ g, f ≤ g → F g = d) : Rw F (addP ps f d).reverse := by
  unfold addP
  rw [last_rev]
  split
  · next e1 =>
    cases er : ps.reverse with
    | nil => rw [er] at e1; cases e1
    | cons q t =>
      obtain ⟨f0, d0⟩ := q
      rw [er] at e1 h
      have e1 : some d0 = some d := e1
      cases e1
      refine ⟨fun g a => ?_, h.2.2.1, h.2.2.2⟩
      by_cases hg : g < f
      · exact h.2.1 g a hg
      · exact k g (by omega)
  · next e1 =>
    rw [List.reverse_append]
    refine ⟨k, fun q hq => ?_, h⟩
    intro e2
    exact e1 (by rw [show ps.reverse.head? = some q from hq, Option.map_some, e2])
/-- what is known while pieces are made -/
def PS.good (o : Int) (cs : List Cmd) : PS → Prop
  | .run f s ls ps => 1 ≤ f ∧ 1 ≤ f + s ∧ ndK ls ∧ (∀ g, f ≤ g → boxF o cs g = .run (g + s) (upL g ls)) ∧ (∀ g, 1 ≤ g → g < f → ∃ r, boxF o cs g = .stop r) ∧ Rl (fun g => dtB g (boxF o cs g).out) f ps.reverse
  | .stop ps => (∀ g, 1 ≤ g → ∃ r, boxF o cs g = .stop r) ∧ Rw (fun g => dtB g (boxF o cs g).out) ps.reverse
theorem dtB_up {g : Int} {ls : Lns} {s : Go} (h : ndK ls) : dtB g (some (s.map (· + g), upL g ls)) = some (s, srt ls) := by
  show some _ = _
  simp only
  rw [srt_upL h, upL_up, show g + -g = 0 by omega, upL_0]
  congr 2
  cases s with
  | none => rfl
  | some a => show some (a + g - g) = some a; rw [Int.add_sub_cancel]
theorem max_upL {g : Int} {ls : Lns} {o x : Int} (h : 1 ≤ x + g) : max (lg0 (upL g ls) o) (g + x) = max (lgd ls o x) x + g := by
  unfold lg0 lgd
  rw [lgt_upL]
  cases lgt ls o with
  | none => show max 0 (g + x) = max x x + g; omega
  | some b => show max (b + g) (g + x) = max b x + g; omega
theorem pcF_good : ∀ {cs : List Cmd} {o : Int}, okM cs → (pcF o cs).good o cs
  | [], o, _ => ⟨Int.le_refl _, by omega, List.nodup_nil, fun g _ => by rw [boxF_nil, Int.add_zero]; rfl, fun g a b => by omega, rfl⟩
  | c :: cs, o, hc => by
    have ih := pcF_good (cs := cs) (o := o + c.mv) (hc.sub fun d hd => List.mem_cons_of_mem _ hd)
    have hcc := hc c List.mem_cons_self
    rw [pcF_cons]
    have st : ∀ g, (∃ r, boxF (o + c.mv) cs g = .stop r) → boxF o (c :: cs) g = boxF (o + c.mv) cs g := fun g ⟨r, e⟩ => by rw [boxF_cons, e]; rfl
    cases e : pcF (o + c.mv) cs with
    | stop ps =>
      rw [e] at ih
      obtain ⟨h1, h2⟩ := ih
      refine ⟨fun g a => ?_, Rw_congr h2 fun g a => by rw [st g (h1 g a)]⟩
      rw [st g (h1 g a)]
      exact h1 g a
    | run f s ls ps =>
      rw [e] at ih
      obtain ⟨h1, h2, h3, h4, h5, h6⟩ := ih
      have r6 : Rl (fun g => dtB g (boxF o (c :: cs) g).out) f ps.reverse := Rl_congr h6 fun g a b => by rw [st g (h5 g a b)]
      have r5 : ∀ g, 1 ≤ g → g < f → ∃ r, boxF o (c :: cs) g = .stop r := fun g a b => by rw [st g (h5 g a b)]; exact h5 g a b
      have r4 : ∀ g, f ≤ g → boxF o (c :: cs) g = bst o (g + s) (upL g ls) c := fun g a => by rw [boxF_cons, h4 g a]; rfl
      show (pst o f s ls ps c).good o (c :: cs)
      cases c with
      | home =>
        refine ⟨fun g a => ?_, Rw_add r6 fun g a => by rw [r4 g a]; rfl⟩
        by_cases hg : g < f
        · exact r5 g a hg
        · exact ⟨_, r4 g (by omega)⟩
      | fin =>
        refine ⟨fun g a => ?_, Rw_add r6 fun g a => by rw [r4 g a]; exact dtB_up (s := none) h3⟩
        by_cases hg : g < f
        · exact r5 g a hg
        · exact ⟨_, r4 g (by omega)⟩
      | go d n =>
        have hn : 1 ≤ n := hcc.1
        cases d with
        | down => exact ⟨h1, h2, h3, r4, r5, r6⟩
        | up => exact ⟨h1, h2, h3, r4, r5, r6⟩
        | left =>
          refine ⟨h1, by omega, ndK_put h3 _ _, fun g a => ?_, r5, r6⟩
          rw [r4 g a, bst_left, if_neg (by omega), ← lpt_upL, show g + s + n = g + (s + n) by omega, max_upL (by omega)]
        | right =>
          have eb : ∀ g, f ≤ g → boxF o (.go .right n :: cs) g = if g + (s - n) ≤ 0 then .stop (some (none, upL g (lpt ls o (max (lgd ls o s) s)))) else .run (g + (s - n)) (upL g (lpt ls o (max (lgd ls o s) s))) := fun g a => by
            rw [r4 g a, bst_right, ← lpt_upL, max_upL (by omega), show g + s - n = g + (s - n) by omega]
          have nd := ndK_put h3 o (max (lgd ls o s) s)
          rw [pst_right]
          split
          · next hz =>
            refine ⟨by omega, by omega, nd, fun g a => ?_, fun g a b => ?_, Rl_add r6 (by omega) fun g a b => ?_⟩
            · rw [eb g (by omega), if_neg (by omega)]
            · by_cases hg : g < f
              · exact r5 g a hg
              · exact ⟨_, by rw [eb g (by omega), if_pos (by omega)]⟩
            · show dtB g _ = _
              rw [eb g a, if_pos (by omega)]
              exact dtB_up (s := none) nd
          · next hz =>
            refine ⟨h1, by omega, nd, fun g a => ?_, r5, r6⟩
            rw [eb g a, if_neg (by omega)]
/-- THE LAW OF FORMS: pieces tell the boxes of all goals -/
theorem pcO_rw {cs : List Cmd} (hc : okM cs) : Rw (dtF cs) (pcO cs).reverse := by
  have h := pcF_good (o := 0) hc
  unfold pcO
  have ed : dtF cs = fun g => dtB g (boxF 0 cs g).out := rfl
  cases e : pcF 0 cs with
  | stop ps => rw [e] at h; rw [ed]; exact h.2
  | run f s ls ps =>
    rw [e] at h
    obtain ⟨h1, h2, h3, h4, h5, h6⟩ := h
    rw [ed]
    refine Rw_add h6 fun g a => ?_
    show dtB g (boxF 0 cs g).out = _
    rw [h4 g a, show g + s = s + g by omega]
    exact dtB_up (s := some s) h3
theorem pcO_uniq {a b : List Cmd} (ha : okM a) (hb : okM b) (h : ∀ g, 1 ≤ g → dtF a g = dtF b g) : pcO a = pcO b := by
  have := Rw_uniq (Rw_congr (pcO_rw ha) h) (pcO_rw hb)
  have := congrArg List.reverse this
  rwa [List.reverse_reverse, List.reverse_reverse] at this
/-! ### lists with the same effect -/
structure Eqv (a b : List Cmd) : Prop where
  off : off a = off b
  lo : lo a = lo b
  hi : hi a = hi b
  run : ∀ (L : Int → Int) (o : Int) (g : Go), (∀ o, 0 ≤ L o) → g0 g → rnG L o g a = rnG L o g b
theorem Eqv.refl (a : List Cmd) : Eqv a a := ⟨rfl, rfl, rfl, fun _ _ _ _ _ => rfl⟩
theorem Eqv.trans {a b c : List Cmd} (h : Eqv a b) (k : Eqv b c) : Eqv a c := ⟨h.off.trans k.off, h.lo.trans k.lo, h.hi.trans k.hi, fun L o g x y => (h.run L o g x y).trans (k.run L o g x y)⟩
theorem Eqv.app {a b : List Cmd} (h : Eqv a b) {p q : List Cmd} (hp : okM p) : Eqv (p ++ (a ++ q)) (p ++ (b ++ q)) := by
  refine ⟨?_, ?_, ?_, fun L o g x y => ?_⟩
  · simp only [off_app, h.off]
  · simp only [lo_app, h.off, h.lo]
  · simp only [hi_app, h.off, h.hi]
  · simp only [rnG_app, h.off]
    rw [h.run L _ _ x (rnG_0 x p o g y hp)]
theorem Eqv.bx {a b : List Cmd} (h : Eqv a b) (ha : okM a) (hb : okM b) {v : Int} (hv : 1 ≤ v) : (boxO a v = none ∧ boxO b v = none) ∨ ∃ s ks ls, boxO a v = some (s, ks) ∧ boxO b v = some (s, ls) ∧ srt ks = srt ls := by
  have oa := boxO_ok ha hv
  have ob := boxO_ok hb hv
  have e : ∀ (L : Int → Int) (g : Go), (∀ o, 0 ≤ L o) → g0 g → (hold L g (boxO a v) ↔ hold L g (boxO b v)) := fun L g hL hg => by
    unfold boxO
    rw [← box_iff hL hv ha hg, ← box_iff hL hv hb hg, h.run L 0 g hL hg]
  rcases ble_uniq oa ob (ble_of oa ob fun L g hL hg k => (e L g hL hg).mpr k) (ble_of ob oa fun L g hL hg k => (e L g hL hg).mp k) with h | ⟨s, ks, ls, e1, e2, e3⟩
  · exact .inl h
  · exact .inr ⟨s, ks, ls, e1, e2, srt_ext (oa.nd _ _ e1) (ob.nd _ _ e2) e3⟩
theorem Eqv.bxW {a b : List Cmd} (h : Eqv a b) (ha : okM a) (hb : okM b) {v : Int} (hv : 1 ≤ v) : bxW (boxO a v) = bxW (boxO b v) := by
  rcases h.bx ha hb hv with ⟨e1, e2⟩ | ⟨s, ks, ls, e1, e2, e3⟩
  · rw [e1, e2]
  · rw [e1, e2]
    show W.tup [gW s, .ls ((srt ks).map pairW)] = W.tup [gW s, .ls ((srt ls).map pairW)]
    rw [e3]
theorem Eqv.pc {a b : List Cmd} (h : Eqv a b) (ha : okM a) (hb : okM b) : pcO a = pcO b := by
  refine pcO_uniq ha hb fun g hg => ?_
  unfold dtF
  rcases h.bx ha hb hg with ⟨e1, e2⟩ | ⟨s, ks, ls, e1, e2, e3⟩
  · rw [e1, e2]
  · rw [e1, e2]
    show some _ = some _
    simp only
    rw [e3]
/-! ### as they are returned -/
def dtW : Dt → List W
  | none => [.non, .non]
  | some (s, ls) => [gW s, .ls (ls.map pairW)]
def pcW (p : Pc) : W := .tup (.int p.1 :: dtW p.2)
def rchW (cs : List Cmd) : W := .tup [.int (lo cs), .int (hi cs), .int (off cs)]
def fmW (cs : List Cmd) : W := .tup [rchW cs, .ls ((pcO cs).map pcW)]
theorem Eqv.fm {a b : List Cmd} (h : Eqv a b) (ha : okM a) (hb : okM b) : fmW a = fmW b := by
  unfold fmW rchW
  rw [h.off, h.lo, h.hi, h.pc ha hb]
end SL
namespace SL
open PySem PySem.Spec PyProof.Rows L2
/-! ### how great the numbers of forms are -/
theorem BIG_1 : (1 : Int) ≤ BIG := by decide
/-- each data of some pieces is within M, with at most k lines -/
structure LnB (M : Int) (k : Nat) (ls : Lns) : Prop where
  len : ls.length ≤ k
  at_ : ∀ q, q ∈ ls → q.1.natAbs ≤ M ∧ q.2.natAbs ≤ M
structure PcB (M : Int) (k : Nat) (p : Pc) : Prop where
  f : p.1.natAbs ≤ M
  s : ∀ s ls a, p.2 = some (s, ls) → s = some a → a.natAbs ≤ M
  ls : ∀ s ls, p.2 = some (s, ls) → LnB M k ls
theorem LnB.srt {M : Int} {k : Nat} {ls : Lns} (h : LnB M k ls) : LnB M k (srt ls) := ⟨by rw [(srt_perm ls).length_eq]; exact h.len, fun q hq => h.at_ q (mem_srt.mp hq)⟩
theorem LnB.up {M N : Int} {k m : Nat} {ls : Lns} (h : LnB M k ls) (h1 : M ≤ N) (h2 : k ≤ m) : LnB N m ls := ⟨Nat.le_trans h.len h2, fun q hq => ⟨Int.le_trans (h.at_ q hq).1 h1, Int.le_trans (h.at_ q hq).2 h1⟩⟩
theorem PcB.up {M N : Int} {k m : Nat} {p : Pc} (h : PcB M k p) (h1 : M ≤ N) (h2 : k ≤ m) : PcB N m p := ⟨Int.le_trans h.f h1, fun s ls a e1 e2 => Int.le_trans (h.s s ls a e1 e2) h1, fun s ls e => (h.ls s ls e).up h1 h2⟩
theorem LnB.put {M : Int} {k : Nat} {ls : Lns} {o x : Int} (h : LnB M k ls) (h1 : o.natAbs ≤ M) (h2 : x.natAbs ≤ M) : LnB M (k + 1) (lpt ls o x) := by
  unfold lpt
  split
  · refine ⟨by rw [List.length_map]; exact Nat.le_succ_of_le h.len, fun q hq => ?_⟩
    obtain ⟨r, hr, rfl⟩ := List.mem_map.mp hq
    have := h.at_ r hr
    split
    · exact ⟨this.1, h2⟩
    · exact this
  · refine ⟨by rw [List.length_append]; exact Nat.succ_le_succ h.len, fun q hq => ?_⟩
    rcases List.mem_append.mp hq with hq | hq
    · exact h.at_ q hq
    · rw [List.mem_singleton.mp hq]; exact ⟨h1, h2⟩
theorem lgd_in {M : Int} {k : Nat} {ls : Lns} {o d : Int} (h : LnB M k ls) (hd : d.natAbs ≤ M) : (lgd ls o d).natAbs ≤ M := by
  unfold lgd lgt
  cases e : ls.find? fun q => decide (q.1 = o) with
  | none => exact hd
  | some q => exact (h.at_ q (List.mem_of_find?_eq_some e)).2
theorem addP_in {ps : List Pc} {f : Int} {d : Dt} {P : Pc → Prop} (h : ∀ p, p ∈ ps → P p) (k : P (f, d)) : ∀ p, p ∈ addP ps f d → P p := by
  unfold addP
  split
  · exact h
  · intro p hp
    rcases List.mem_append.mp hp with hp | hp
    · exact h p hp
    · rw [List.mem_singleton.mp hp]; exact k
theorem addP_len {ps : List Pc} {f : Int} {d : Dt} : (addP ps f d).length ≤ ps.length + 1 := by
  unfold addP
  split
  · omega
  · rw [List.length_append]; exact Nat.le_refl _
def PS.bd (M : Int) (n : Nat) : PS → Prop
  | .run f s ls ps => f.natAbs ≤ 1 + n * BIG ∧ s.natAbs ≤ n * BIG ∧ LnB M n ls ∧ ps.length ≤ n ∧ ∀ p, p ∈ ps → PcB M n p
  | .stop ps => ps.length ≤ n ∧ ∀ p, p ∈ ps → PcB M n p
theorem pcF_bd {M : Int} : ∀ {cs : List Cmd} {o : Int}, okM cs → o.natAbs + cs.length * BIG + 1 ≤ M → (pcF o cs).bd M cs.length
  | [], o, _, h => ⟨by decide, by decide, ⟨Nat.le_refl _, fun q hq => nomatch hq⟩, Nat.le_refl _, fun p hp => nomatch hp⟩
  | c :: cs, o, hc, h => by
    have hB := BIG_1
    have hcc := hc c List.mem_cons_self
    have hmv : c.mv.natAbs ≤ BIG := by
      cases c with
      | go d n =>
        have h1 := hcc.1
        have h2 := hcc.2
        cases d <;> simp only [Cmd.mv] <;> omega
      | home => simp only [Cmd.mv]; omega
      | fin => simp only [Cmd.mv]; omega
    rw [List.length_cons] at h ⊢
    have e1 : ((cs.length + 1 : Nat) : Int) * BIG = cs.length * BIG + BIG := by
      rw [Int.natCast_succ, Int.add_mul, Int.one_mul]
    rw [e1] at h
    have ih := pcF_bd (M := M) (cs := cs) (o := o + c.mv) (hc.sub fun d hd => List.mem_cons_of_mem _ hd) (by omega)
    rw [pcF_cons]
    have pos : 0 ≤ (cs.length : Int) * BIG := Int.mul_nonneg (by omega) (by omega)
    cases e : pcF (o + c.mv) cs with
    | stop ps =>
      rw [e] at ih
      exact ⟨Nat.le_succ_of_le ih.1, fun p hp => (ih.2 p hp).up (Int.le_refl _) (Nat.le_succ _)⟩
    | run f s ls ps =>
      rw [e] at ih
      obtain ⟨h1, h2, h3, h4, h5⟩ := ih
      have h5' : ∀ p, p ∈ ps → PcB M (cs.length + 1) p := fun p hp => (h5 p hp).up (Int.le_refl _) (Nat.le_succ _)
      show (pst o f s ls ps c).bd M (cs.length + 1)
      cases c with
      | home =>
        exact ⟨Nat.le_trans addP_len (by omega), addP_in h5' ⟨by show (f.natAbs : Int) ≤ M; omega, fun s ls a e => (by cases e), fun s ls e => (by cases e)⟩⟩
      | fin =>
        exact ⟨Nat.le_trans addP_len (by omega), addP_in h5' ⟨by show (f.natAbs : Int) ≤ M; omega, fun s ls a e e2 => (by cases e; cases e2), fun s ls e => (by cases e; exact h3.srt.up (Int.le_refl _) (Nat.le_succ _))⟩⟩
      | go d n =>
        have n1 := hcc.1
        have n2 := hcc.2
        have up3 : LnB M (cs.length + 1) ls := h3.up (Int.le_refl _) (Nat.le_succ _)
        cases d with
        | down => exact ⟨by rw [e1]; omega, by rw [e1]; omega, up3, by omega, h5'⟩
        | up => exact ⟨by rw [e1]; omega, by rw [e1]; omega, up3, by omega, h5'⟩
        | left =>
          have := lgd_in (o := o) (d := s + n) h3 (by omega)
          refine ⟨by rw [e1]; omega, by rw [e1]; omega, h3.put (by omega) (by omega), by omega, h5'⟩
        | right =>
          have := lgd_in (o := o) (d := s) h3 (by omega)
          have l1 : LnB M (cs.length + 1) (lpt ls o (max (lgd ls o s) s)) := h3.put (by omega) (by omega)
          rw [pst_right]
          split
          · exact ⟨by rw [e1]; omega, by rw [e1]; omega, l1, Nat.le_trans addP_len (by omega), addP_in h5' ⟨by show (f.natAbs : Int) ≤ M; omega, fun s ls a e e2 => (by cases e; cases e2), fun s ls e => (by cases e; exact l1.srt)⟩⟩
          · exact ⟨by rw [e1]; omega, by rw [e1]; omega, l1, by omega, h5'⟩
theorem pcO_bd {M : Int} {cs : List Cmd} (hc : okM cs) (h : cs.length * BIG + 1 ≤ M) : (pcO cs).length ≤ cs.length + 1 ∧ ∀ p, p ∈ pcO cs → PcB M cs.length p := by
  have hb := pcF_bd (M := M) (cs := cs) (o := 0) hc (by show ((0 : Nat) : Int) + _ + 1 ≤ M; omega)
  unfold pcO
  cases e : pcF 0 cs with
  | stop ps => rw [e] at hb; exact ⟨Nat.le_succ_of_le hb.1, hb.2⟩
  | run f s ls ps =>
    rw [e] at hb
    obtain ⟨h1, h2, h3, h4, h5⟩ := hb
    exact ⟨Nat.le_trans addP_len (by omega), addP_in h5 ⟨by show (f.natAbs : Int) ≤ M; omega, fun s ls a e e2 => (by cases e; cases e2; omega), fun s ls e => (by cases e; exact h3.srt)⟩⟩
/-! ### lists rewritten -/
def plainC : Cmd → Prop
  | .go .left _ => True
  | .go .right _ => True
  | .home => True
  | .fin => True
  | _ => False
theorem plain_mv {c : Cmd} (h : plainC c) : c.mv = 0 := by
  cases c with
  | go d n => cases d <;> first | rfl | exact h.elim
  | home => rfl
  | fin => rfl
theorem plain_off : ∀ {cs : List Cmd}, (∀ c, c ∈ cs → plainC c) → off cs = 0 ∧ lo cs = 0 ∧ hi cs = 0
  | [], _ => ⟨rfl, rfl, rfl⟩
  | c :: cs, h => by
    obtain ⟨h1, h2, h3⟩ := plain_off (cs := cs) fun d hd => h d (List.mem_cons_of_mem _ hd)
    have := plain_mv (h c List.mem_cons_self)
    unfold off lo hi
    omega
theorem Eqv.plain {a b : List Cmd} (ha : ∀ c, c ∈ a → plainC c) (hb : ∀ c, c ∈ b → plainC c) (h : ∀ (L : Int → Int) (o : Int) (g : Go), (∀ o, 0 ≤ L o) → g0 g → rnG L o g a = rnG L o g b) : Eqv a b := by
  obtain ⟨a1, a2, a3⟩ := plain_off ha
  obtain ⟨b1, b2, b3⟩ := plain_off hb
  exact ⟨by rw [a1, b1], by rw [a2, b2], by rw [a3, b3], h⟩
theorem eqv_left {n p : Int} (h1 : 1 ≤ p) (h2 : p < n) : Eqv [.go .left n] [.go .left p, .go .left (n - p)] := by
  refine .plain (fun c hc => ?_) (fun c hc => ?_) fun L o g hL hg => ?_
  · rw [List.mem_singleton.mp hc]; trivial
  · simp only [List.mem_cons, List.not_mem_nil, or_false] at hc
    rcases hc with rfl | rfl <;> trivial
  · have := hL o
    simp only [rnG, Cmd.mv, Int.add_zero, stp]
    congr 1
    simp only [shw]
    cases g with
    | none => simp only [shw]; omega
    | some a => simp only [shw]; omega
theorem eqv_right {n p : Int} (h1 : 1 ≤ p) (h2 : p < n) : Eqv [.go .right n] [.go .right p, .go .right (n - p)] := by
  refine .plain (fun c hc => ?_) (fun c hc => ?_) fun L o g hL hg => ?_
  · rw [List.mem_singleton.mp hc]; trivial
  · simp only [List.mem_cons, List.not_mem_nil, or_false] at hc
    rcases hc with rfl | rfl <;> trivial
  · have := hL o
    simp only [rnG, Cmd.mv, Int.add_zero, stp]
    congr 1
    simp only [shw]
    cases g with
    | none => simp only [shw]; omega
    | some a => simp only [shw]; omega
theorem eqv_home {n : Int} (h1 : 1 ≤ n) : Eqv [.home] [.home, .go .left n] := by
  refine .plain (fun c hc => ?_) (fun c hc => ?_) fun L o g hL hg => ?_
  · rw [List.mem_singleton.mp hc]; trivial
  · simp only [List.mem_cons, List.not_mem_nil, or_false] at hc
    rcases hc with rfl | rfl <;> trivial
  · have := hL o
    simp only [rnG, Cmd.mv, Int.add_zero, stp, shw]
    congr 1
    omega
theorem eqv_ahead {c : Cmd} (hc : c = .home ∨ c = .fin) {more : List Cmd} (hm : ∀ d, d ∈ more → plainC d) {two : Bool} : Eqv [c] (more ++ if two then [c, c] else [c]) := by
  have pc : plainC c := by rcases hc with rfl | rfl <;> trivial
  refine .plain (fun d hd => by rw [List.mem_singleton.mp hd]; exact pc) (fun d hd => ?_) fun L o g hL hg => ?_
  · rcases List.mem_append.mp hd with hd | hd
    · exact hm d hd
    · cases two
      · simp at hd; rw [hd]; exact pc
      · simp at hd; rw [hd]; exact pc
  · rw [rnG_app]
    rcases hc with rfl | rfl <;> cases two <;> simp [rnG, stp]
theorem eqv_moves {a b : List Cmd} {f : Int} (hf : 1 ≤ f) : (off a + f ≤ hi (a ++ b) → Eqv (a ++ b) (a ++ ([.go .down f, .go .up f] ++ b))) ∧ (lo (a ++ b) ≤ off a - f → Eqv (a ++ b) (a ++ ([.go .up f, .go .down f] ++ b))) := by
  have e1 : off [Cmd.go .down f, .go .up f] = 0 ∧ off [Cmd.go .up f, .go .down f] = 0 := by simp only [off, Cmd.mv]; omega
  have l1 : lo [Cmd.go .down f, .go .up f] = 0 ∧ hi [Cmd.go .down f, .go .up f] = f := by simp only [lo, hi, Cmd.mv]; omega
  have l2 : lo [Cmd.go .up f, .go .down f] = 0 - f ∧ hi [Cmd.go .up f, .go .down f] = 0 := by simp only [lo, hi, Cmd.mv]; omega
  have q1 := lo_le b
  have q2 := hi_ge b
  have q3 := lo_off a
  have q4 := off_hi a
  constructor
  · intro h
    rw [hi_app] at h
    refine ⟨?_, ?_, ?_, fun L o g x y => ?_⟩
    · simp only [off_app, e1.1]; omega
    · simp only [lo_app, off_app, e1.1, l1.1]; omega
    · simp only [hi_app, off_app, e1.1, l1.2]; omega
    · simp only [rnG_app, e1.1, Int.add_zero]
      simp only [rnG, stp]
  · intro h
    rw [lo_app] at h
    refine ⟨?_, ?_, ?_, fun L o g x y => ?_⟩
    · simp only [off_app, e1.2]; omega
    · simp only [lo_app, off_app, e1.2, l2.1]; omega
    · simp only [hi_app, off_app, e1.2, l2.2]; omega
    · simp only [rnG_app, e1.2, Int.add_zero]
      simp only [rnG, stp]
end SL
namespace SL
open PySem PySem.Spec PyProof.Rows L2
/-! ### forms as they are returned -/
theorem pairW_inj {a b : Int × Int} (h : pairW a = pairW b) : a = b := by
  unfold pairW at h
  obtain ⟨a1, a2⟩ := a
  obtain ⟨b1, b2⟩ := b
  simp only [W.tup.injEq, List.cons.injEq, W.int.injEq, and_true] at h
  rw [h.1, h.2]
theorem map_inj {α β : Type} {f : α → β} (hf : ∀ a b, f a = f b → a = b) : ∀ {xs ys : List α}, xs.map f = ys.map f → xs = ys
  | [], [], _ => rfl
  | [], y :: ys, h => by cases h
  | x :: xs, [], h => by cases h
  | x :: xs, y :: ys, h => by
    rw [List.map_cons, List.map_cons, List.cons.injEq] at h
    rw [hf _ _ h.1, map_inj hf h.2]
theorem dtW_inj {a b : Dt} (h : dtW a = dtW b) : a = b := by
  cases a with
  | none =>
    cases b with
    | none => rfl
    | some q => obtain ⟨s, ls⟩ := q; simp [dtW] at h
  | some p =>
    obtain ⟨t, ks⟩ := p
    cases b with
    | none => simp [dtW] at h
    | some q =>
      obtain ⟨s, ls⟩ := q
      simp only [dtW, List.cons.injEq, W.ls.injEq, and_true] at h
      have e1 : t = s := by have := h.1; rw [gW_eq] at this; exact this
      rw [e1, map_inj (fun _ _ => pairW_inj) h.2]
theorem pcW_inj {a b : Pc} (h : pcW a = pcW b) : a = b := by
  obtain ⟨f, d⟩ := a
  obtain ⟨g, e⟩ := b
  simp only [pcW, W.tup.injEq, List.cons.injEq, W.int.injEq] at h
  rw [h.1, dtW_inj h.2]
theorem dk_dt {d : Dt} : ∀ w, w ∈ dtW d → Dk true 2 w := by
  intro w hw
  cases d with
  | none =>
    simp only [dtW, List.mem_cons, List.not_mem_nil, or_false] at hw
    rcases hw with rfl | rfl <;> exact of_eq_true dk_non
  | some q =>
    obtain ⟨s, ls⟩ := q
    simp only [dtW, List.mem_cons, List.not_mem_nil, or_false] at hw
    rcases hw with rfl | rfl
    · exact dk_go
    · exact dk_pairs
theorem dk_dtT {d : Dt} : Dk true 60 (.tup (dtW d)) := (dk_tup dk_dt).up (by decide)
theorem dk_pc {p : Pc} : Dk true 3 (pcW p) := dk_tup fun w hw => by
  rcases List.mem_cons.mp hw with rfl | hw
  · exact of_eq_true dk_int
  · exact dk_dt w hw
theorem dk_pcs {ps : List Pc} : Dk true 60 (.ls (ps.map pcW)) := (dk_ls (n := 3) fun w hw => by
  obtain ⟨p, _, rfl⟩ := List.mem_map.mp hw
  exact dk_pc).up (by decide)
theorem dk_rch {cs : List Cmd} {n : Nat} : Dk true (n + 1) (rchW cs) := dk_tup fun w hw => by
  simp only [List.mem_cons, List.not_mem_nil, or_false] at hw
  rcases hw with rfl | rfl | rfl <;> exact of_eq_true dk_int
theorem dk_fm {cs : List Cmd} : Dk true 60 (fmW cs) := dk_tup (n := 59) fun w hw => by
  simp only [List.mem_cons, List.not_mem_nil, or_false] at hw
  rcases hw with rfl | rfl
  · exact dk_rch
  · exact (dk_ls (n := 3) fun w hw => by
      obtain ⟨p, _, rfl⟩ := List.mem_map.mp hw
      exact dk_pc).up (by decide)
/-- the last one of some items -/
theorem nth_last {ws : List W} {w : W} (h : ws.getLast? = some w) : nth ws (-1) = some w := by
  cases ws with
  | nil => cases h
  | cons x xs =>
    unfold nth
    rw [List.getLast?_eq_getElem?] at h
    simp only [List.length_cons] at *
    have : ¬ (0 : Int) ≤ -1 := by decide
    first
      | (rw [if_neg (by omega), if_pos (by omega)]; rw [← h]; congr 1; omega)
      | (simp; rw [← h]; congr 1)
theorem cut_1 {α : Type} {x : α} {xs : List α} : cutW (x :: xs) (some 1) none = xs := by
  rw [cut_from (by decide)]
  rfl
theorem addP_map {ps : List Pc} {f : Int} {d : Dt} : (addP ps f d).map pcW = if ps.getLast?.map (·.2) = some d then ps.map pcW else ps.map pcW ++ [pcW (f, d)] := by
  unfold addP
  split
  · rfl
  · rw [List.map_append]; rfl
theorem pos_small {i : Int} {M : Int} (h : i.natAbs ≤ M) (hM : M < 10 ^ 60) : i.natAbs < 10 ^ 60 := by
  have : ((10 ^ 60 : Nat) : Int) = 10 ^ 60 := by decide
  omega
theorem shd_pc {M : Int} {k : Nat} {p : Pc} (h : PcB M k p) (hM : M < 10 ^ 60) : Shd 3 (3 + 3 * (64 + k * 131 + 2)) (pcW p) := by
  obtain ⟨f, d⟩ := p
  refine shd_tup (m := 3) (fun w hw => ?_) ?_
  · rcases List.mem_cons.mp hw with rfl | hw
    · exact (shd_int (pos_small h.f hM)).up (by decide) (by omega)
    · cases d with
      | none =>
        simp only [dtW, List.mem_cons, List.not_mem_nil, or_false] at hw
        rcases hw with rfl | rfl <;> exact shd_non.up (by decide) (by omega)
      | some q =>
        obtain ⟨s, ls⟩ := q
        simp only [dtW, List.mem_cons, List.not_mem_nil, or_false] at hw
        rcases hw with rfl | rfl
        · exact (shd_go fun a e => pos_small (h.s _ _ a rfl e) hM).up (by decide) (by omega)
        · have hl := h.ls _ _ rfl
          exact (shd_pairs (m := k) (fun q hq => ⟨pos_small (hl.at_ q hq).1 hM, pos_small (hl.at_ q hq).2 hM⟩) hl.len).up (by decide) (by omega)
  · show (dtW d).length + 1 ≤ 3
    cases d with
    | none => exact Nat.le_refl _
    | some q => exact Nat.le_refl _
theorem off_bd : ∀ {cs : List Cmd}, okM cs → (lo cs).natAbs ≤ cs.length * BIG ∧ (hi cs).natAbs ≤ cs.length * BIG ∧ (off cs).natAbs ≤ cs.length * BIG
  | [], _ => by simp [lo, hi, off]
  | c :: cs, h => by
    obtain ⟨i1, i2, i3⟩ := off_bd (cs := cs) (h.sub fun d hd => List.mem_cons_of_mem _ hd)
    have hmv : c.mv.natAbs ≤ BIG := by
      have hcc := h c List.mem_cons_self
      cases c with
      | go d n =>
        have h1 := hcc.1
        have h2 := hcc.2
        cases d <;> simp only [Cmd.mv] <;> omega
      | home => simp [Cmd.mv]; decide
      | fin => simp [Cmd.mv]; decide
    rw [List.length_cons, Int.natCast_succ, Int.add_mul, Int.one_mul]
    unfold lo hi off
    omega
theorem sumL_bd : ∀ {cs : List Cmd}, okM cs → sumL cs ≤ cs.length * BIG
  | [], _ => by simp [sumL]
  | c :: cs, h => by
    have i1 := sumL_bd (cs := cs) (h.sub fun d hd => List.mem_cons_of_mem _ hd)
    have hcc := h c List.mem_cons_self
    have hB := BIG_1
    rw [List.length_cons, Int.natCast_succ, Int.add_mul, Int.one_mul]
    cases c with
    | go d n =>
      have h1 := hcc.1
      have h2 := hcc.2
      cases d <;> simp only [sumL] <;> omega
    | home => simp only [sumL]; omega
    | fin => simp only [sumL]; omega
theorem shd_bx {cs : List Cmd} {v : Int} {m : Nat} (hc : okM cs) (hv : 1 ≤ v) (hv2 : v ≤ 1000000000000000000000000000000) (hm : cs.length ≤ m) (hm2 : m ≤ 1000) : Shd 4 (3 + 2 * (64 + m * 131 + 2)) (bxW (boxO cs v)) := by
  have hB : BIG = 1000000000000000000000000000000000000000000000 := rfl
  have hM : 1002 * BIG < 10 ^ 60 := by decide
  obtain ⟨i1, i2, _⟩ := off_bd hc
  have i4 := sumL_bd hc
  have h9 : (cs.length : Int) * BIG ≤ 1001 * BIG := by rw [hB]; omega
  have ok := boxO_ok hc hv
  cases e : boxO cs v with
  | none => exact shd_non.up (by decide) (by omega)
  | some q =>
    obtain ⟨s, ls⟩ := q
    rw [e] at ok
    obtain ⟨l1, l2⟩ := boxO_le hc hv e
    have l3 := boxO_in e
    have l4 := boxO_len e
    refine shd_tup (k := 3) (m := 2) (fun w hw => ?_) (Nat.le_refl _)
    simp only [List.mem_cons, List.not_mem_nil, or_false] at hw
    rcases hw with rfl | rfl
    · refine (shd_go fun a ea => ?_).up (by decide) (by omega)
      have := l1 a ea
      have := ok.s _ _ rfl a ea
      exact pos_small (M := 1002 * BIG) (by omega) hM
    · refine (shd_pairs (m := m) (fun q hq => ?_) (by rw [(srt_perm ls).length_eq]; omega)).up (by decide) (by omega)
      have hq' := mem_srt.mp hq
      have := l2 q hq'
      have := l3 q hq'
      have := ok.ge _ _ rfl q.1 q.2 hq'
      exact ⟨pos_small (M := 1002 * BIG) (by omega) hM, pos_small (M := 1002 * BIG) (by omega) hM⟩
theorem shd_fm {cs : List Cmd} {m : Nat} (hc : okM cs) (hm : cs.length ≤ m) (hm2 : m ≤ 1000) : Shd 5 (3 + 2 * (200 + (m + 1) * (3 + 3 * (64 + m * 131 + 2) + 2) + 2)) (fmW cs) := by
  have hB : BIG = 1000000000000000000000000000000000000000000000 := rfl
  have h1 := pcO_bd (M := 1001 * BIG) hc (by rw [hB]; omega)
  have hM : 1001 * BIG < 10 ^ 60 := by decide
  obtain ⟨i1, i2, i3⟩ := off_bd hc
  refine shd_tup (m := 2) (fun w hw => ?_) (Nat.le_refl _)
  simp only [List.mem_cons, List.not_mem_nil, or_false] at hw
  rcases hw with rfl | rfl
  · refine (shd_tup (k := 0) (n := 61) (m := 3) (fun w hw => ?_) (Nat.le_refl _)).up (by decide) (by omega)
    simp only [List.mem_cons, List.not_mem_nil, or_false] at hw
    have h9 : (cs.length : Int) * BIG ≤ 1001 * BIG := by rw [hB]; omega
    rcases hw with rfl | rfl | rfl
    · exact shd_int (pos_small (Int.le_trans i1 h9) hM)
    · exact shd_int (pos_small (Int.le_trans i2 h9) hM)
    · exact shd_int (pos_small (Int.le_trans i3 h9) hM)
  · refine (shd_ls (k := 3) (n := 3 + 3 * (64 + m * 131 + 2)) (m := m + 1) (fun w hw => ?_) ?_).up (by decide) (by omega)
    · obtain ⟨p, hp, rfl⟩ := List.mem_map.mp hw
      exact shd_pc ((h1.2 p hp).up (Int.le_refl _) hm) hM
    · rw [List.length_map]; omega
end SL
namespace SL
open PySem PySem.Spec PyProof.Rows L2
/-! ### texts that are read -/
/-- the number of a word without leading zeros -/
def numOf (l : List Nat) : Option Int := if (1 ≤ l.length ∧ l.length ≤ 40) ∧ (∀ c, c ∈ l → 48 ≤ c ∧ c ≤ 57) ∧ l.head? ≠ some 48 then some ((NumText.digitsVal l : Nat) : Int) else none
def dirOf (c : Nat) : Option Dir := if c = 68 then some .down else if c = 85 then some .up else if c = 82 then some .right else if c = 76 then some .left else none
/-- the command of a word -/
def cmdOf (l : List Nat) : Option Cmd := match l.getLast? with
  | none => none
  | some c => if c = 72 then (if l.length = 1 then some .home else none) else if c = 69 then (if l.length = 1 then some .fin else none) else
    match dirOf c with
    | none => none
    | some d => (numOf l.dropLast).map (Cmd.go d)
theorem dg_val (n : Nat) : NumText.digitsVal (dg n) = n := TL.numL_val n
theorem dg_head {n : Nat} (h : 1 ≤ n) : (dg n).head? ≠ some 48 := by
  intro e
  have hne := dg_ne n
  -- a leading zero could be dropped
  cases e2 : dg n with
  | nil => exact hne e2
  | cons c r =>
    rw [e2] at e
    have e : some c = some 48 := e
    cases e
    have h0 := dg_val n
    rw [e2] at h0
    have hz : Nat.toDigits 10 n ≠ [] := Nat.toDigits_ne_nil
    have h2 : ∀ k : Nat, 1 ≤ k → (Nat.toDigits 10 k).head? ≠ some '0' := by
      intro k
      induction k using Nat.strongRecOn with
      | _ k ih =>
        intro hk
        rw [Nat.toDigits_eq_if (by decide)]
        split
        · next hlt =>
          have hc : ∀ j : Nat, j < 10 → 1 ≤ j → ¬ Nat.digitChar j = '0' := by decide
          intro e
          exact hc k hlt hk (by simpa using e)
        · next hge =>
          have := ih (k / 10) (by omega) (by omega)
          rw [List.head?_append]
          cases e : (Nat.toDigits 10 (k / 10)).head? with
          | none => exact absurd (List.head?_eq_none_iff.mp e) Nat.toDigits_ne_nil
          | some d => rw [e] at this; simpa using this
    refine h2 n h ?_
    unfold dg at e2
    cases e3 : Nat.toDigits 10 n with
    | nil => exact absurd e3 hz
    | cons d t =>
      rw [e3, List.map_cons, List.cons.injEq] at e2
      have : d = '0' := char_toNat_inj (by rw [e2.1]; rfl)
      rw [this]
      rfl
theorem numOf_dg {n : Nat} (h : 1 ≤ n) (h2 : n < 10 ^ 40) : numOf (dg n) = some (n : Int) := by
  unfold numOf
  have hl := dg_len 39 n h2
  have hp : 1 ≤ (dg n).length := List.length_pos_iff.mpr (dg_ne n)
  rw [if_pos ⟨⟨hp, hl⟩, fun c hc => dg_mem hc, dg_head h⟩, dg_val]
theorem cmdOf_tx {c : Cmd} (h : c.ok (10 ^ 40 - 1)) : cmdOf c.tx = some c := by
  cases c with
  | home => decide
  | fin => decide
  | go d n =>
    have h1 : 1 ≤ n := h.1
    have h2 : n ≤ 10 ^ 40 - 1 := h.2
    have e1 : (dg n.toNat ++ [d.lt]).getLast? = some d.lt := by simp
    have e2 : (dg n.toNat ++ [d.lt]).dropLast = dg n.toNat := by simp
    have e3 : numOf (dg n.toNat) = some n := by
      rw [numOf_dg (by omega) (by
        have : ((10 ^ 40 : Nat) : Int) = 10 ^ 40 := by decide
        omega)]
      congr 1
      omega
    unfold cmdOf Cmd.tx
    simp only [e1, e2, e3]
    cases d <;> simp [Dir.lt, dirOf]
/-- the words of a text of commands -/
theorem split_tx {cs : List Cmd} (h : cs ≠ []) : Txt.split (txt (jn [32] (cs.map Cmd.tx))) (Str.ofString " ") = cs.map fun c => txt c.tx := by
  have e : Txt.join (Str.ofString " ") (cs.map fun c => txt c.tx) = txt (jn [32] (cs.map Cmd.tx)) := by
    refine cd_inj ?_
    rw [cd_join, cd_txt, List.map_map]
    rfl
  rw [← e]
  refine TL.split_join (s := 32) (S := []) (by decide) (by decide +kernel) (by simpa using h) fun p hp => ?_
  obtain ⟨c, _, rfl⟩ := List.mem_map.mp hp
  exact tx_no32 c
theorem cutS_last (r : List Nat) (c : Nat) : cutS (txt (r ++ [c])) (some (-1)) none = txt [c] := by
  unfold cutS
  have hl : (txt (r ++ [c])).length = r.length + 1 := by rw [txt_len]; simp
  have e1 : HT.sIx (r.length + 1) 0 (some (-1)) = r.length := by
    unfold HT.sIx
    simp only
    rw [if_pos (by decide : (-1 : Int) < 0)]
    omega
  have e2 : HT.sIx (r.length + 1) (r.length + 1) none = r.length + 1 := rfl
  rw [hl, e1, e2]
  show (⟨(((r ++ [c]).drop r.length).take (r.length + 1 - r.length)).toArray⟩ : Str) = ⟨[c].toArray⟩
  rw [List.drop_left, show r.length + 1 - r.length = 1 by omega]
  rfl
theorem cutS_init (r : List Nat) (c : Nat) : cutS (txt (r ++ [c])) none (some (-1)) = txt r := by
  unfold cutS
  have hl : (txt (r ++ [c])).length = r.length + 1 := by rw [txt_len]; simp
  have e1 : HT.sIx (r.length + 1) (r.length + 1) (some (-1)) = r.length := by
    unfold HT.sIx
    simp only
    rw [if_pos (by decide : (-1 : Int) < 0)]
    omega
  have e2 : HT.sIx (r.length + 1) 0 none = 0 := rfl
  rw [hl, e1, e2]
  show (⟨(((r ++ [c]).drop 0).take (r.length - 0)).toArray⟩ : Str) = ⟨r.toArray⟩
  rw [List.drop_zero, Nat.sub_zero, List.take_left]
theorem cutS_nil (a b : Option Int) : cutS (txt []) a b = txt [] := by
  unfold cutS
  refine cd_inj ?_
  show (([] : List Nat).drop _).take _ = []
  rw [List.drop_nil, List.take_nil]
theorem items_c {l : List Nat} {kp : Cells → Prop} : Items ⟨l.length, kp, fun i w => ∃ c, l[i]? = some c ∧ w = .str ⟨#[c]⟩⟩ l (fun c => .str ⟨#[c]⟩) := ⟨rfl, fun i w _ e => e⟩
theorem dig_mem {c : Nat} : (c ∈ cd (Str.ofString "0123456789")) = (48 ≤ c ∧ c ≤ 57) := by
  have e : cd (Str.ofString "0123456789") = [48, 49, 50, 51, 52, 53, 54, 55, 56, 57] := by decide +kernel
  rw [e]
  refine propext ?_
  simp only [List.mem_cons, List.not_mem_nil, or_false]
  omega
theorem sign_0 {c : Nat} : (({ cps := #[c] } : Str) = Str.ofString "0") = (c = 48) := by
  have e : Str.ofString "0" = ⟨#[48]⟩ := by decide +kernel
  rw [e]
  refine propext ⟨fun h => ?_, fun h => by rw [h]⟩
  have := congrArg cd h
  simpa [cd] using this
theorem units65 {k : Nat} {A : Around} (r : Room k A) : A.units + 65 < cLine := by have := r.un; omega
end SL
/-! ### goals behind repetitions (point 5): plainly -/
namespace SL
open PySem PySem.Spec PyProof.Rows L2
def Cmd.isAl : Cmd → Bool
  | .home => true
  | .fin => true
  | _ => false
def Cmd.isHz : Cmd → Bool
  | .go .left _ => true
  | .go .right _ => true
  | _ => false
def chg : List Cmd → Int
  | [] => 0
  | .go .right n :: cs => n + chg cs
  | .go .left n :: cs => chg cs - n
  | _ :: cs => chg cs
theorem chg_snoc : ∀ (cs : List Cmd) (c : Cmd), chg (cs ++ [c]) = chg cs + chg [c]
  | [], c => by simp [chg]
  | d :: cs, c => by
    have ih := chg_snoc cs c
    cases d with
    | go e n => cases e <;> simp only [List.cons_append, chg] at ih ⊢ <;> omega
    | home => simpa only [List.cons_append, chg] using ih
    | fin => simpa only [List.cons_append, chg] using ih
@[elab_as_elim] theorem snocInd {α : Type} {motive : List α → Prop} (nil : motive []) (snoc : ∀ (l : List α) (a : α), motive l → motive (l ++ [a])) (l : List α) : motive l := by
  have h : ∀ r : List α, motive r.reverse := fun r => by
    induction r with
    | nil => exact nil
    | cons a r ih => rw [List.reverse_cons]; exact snoc _ _ ih
  have := h l.reverse
  rwa [List.reverse_reverse] at this
/-- what a list without home and end does: nothing, or it moves the goal by its change within two ends -/
theorem rnG_clamp {L : Int → Int} (hL : ∀ o, 0 ≤ L o) (cs : List Cmd) (hc : okM cs) (ha : ∀ c, c ∈ cs → c.isAl = false) :
    (chg cs = 0 ∧ (∀ c, c ∈ cs → c.isHz = false) ∧ ∀ g, rnG L 0 g cs = g) ∨
    ((∃ c, c ∈ cs ∧ c.isHz = true) ∧ ∃ a b : Int, 0 ≤ a ∧ a ≤ b ∧ rnG L 0 none cs = some b ∧ ∀ x : Int, 0 ≤ x → rnG L 0 (some x) cs = some (max a (min b (x + chg cs)))) := by
  induction cs using snocInd with
  | nil => exact .inl ⟨rfl, fun c hc => (nomatch hc), fun g => rfl⟩
  | snoc cs c ih =>
    have ih := ih (hc.sub fun d hd => List.mem_append_left _ hd) fun d hd => ha d (List.mem_append_left _ hd)
    have hcc := hc c (List.mem_append_right _ (List.mem_singleton.mpr rfl))
    have hac := ha c (List.mem_append_right _ (List.mem_singleton.mpr rfl))
    have hl := hL (off cs)
    cases c with
    | home => cases hac
    | fin => cases hac
    | go e n =>
      have h1 := hcc.1
      have plain : e = .up ∨ e = .down → chg (cs ++ [.go e n]) = chg cs ∧ (∀ g, rnG L 0 g (cs ++ [.go e n]) = rnG L 0 g cs) ∧ (Cmd.go e n).isHz = false := fun he => by
        rcases he with rfl | rfl
        · exact ⟨by rw [chg_snoc]; simp [chg], fun g => by rw [rnG_snoc]; rfl, rfl⟩
        · exact ⟨by rw [chg_snoc]; simp [chg], fun g => by rw [rnG_snoc]; rfl, rfl⟩
      have keep : e = .up ∨ e = .down → (chg (cs ++ [.go e n]) = 0 ∧ (∀ c, c ∈ (cs ++ [.go e n]) → c.isHz = false) ∧ ∀ g, rnG L 0 g (cs ++ [.go e n]) = g) ∨
          ((∃ c, c ∈ (cs ++ [.go e n]) ∧ c.isHz = true) ∧ ∃ a b : Int, 0 ≤ a ∧ a ≤ b ∧ rnG L 0 none (cs ++ [.go e n]) = some b ∧ ∀ x : Int, 0 ≤ x → rnG L 0 (some x) (cs ++ [.go e n]) = some (max a (min b (x + chg (cs ++ [.go e n]))))) := fun he => by
        obtain ⟨p1, p2, p3⟩ := plain he
        rcases ih with ⟨i1, i2, i3⟩ | ⟨⟨c, i0, i1⟩, a, b, i2, i3, i4, i5⟩
        · refine .inl ⟨by rw [p1]; exact i1, fun c hc => ?_, fun g => by rw [p2]; exact i3 g⟩
          rcases List.mem_append.mp hc with hc | hc
          · exact i2 c hc
          · rw [List.mem_singleton.mp hc]; exact p3
        · exact .inr ⟨⟨c, List.mem_append_left _ i0, i1⟩, a, b, i2, i3, by rw [p2]; exact i4, fun x hx => by rw [p1, p2]; exact i5 x hx⟩
      have hz : ∀ e', (Cmd.go e' n).isHz = true → ∃ c, c ∈ cs ++ [Cmd.go e' n] ∧ c.isHz = true := fun e' h => ⟨_, List.mem_append_right _ (List.mem_singleton.mpr rfl), h⟩
      cases e with
      | down => exact keep (.inr rfl)
      | up => exact keep (.inl rfl)
      | right =>
        have e1 : chg (cs ++ [.go .right n]) = chg cs + n := by rw [chg_snoc]; simp [chg]
        refine .inr ⟨hz _ rfl, ?_⟩
        rcases ih with ⟨i1, i2, i3⟩ | ⟨_, a, b, i2, i3, i4, i5⟩
        · refine ⟨min (L (off cs)) n, L (off cs), by omega, by omega, ?_, fun x hx => ?_⟩
          · rw [rnG_snoc, i3]
            show some (min (L (off cs) + n) (L (off cs))) = _
            congr 1; omega
          · rw [rnG_snoc, i3, e1, i1]
            show some (min (min x (L (off cs)) + n) (L (off cs))) = _
            congr 1; omega
        · refine ⟨min (L (off cs)) (a + n), min (L (off cs)) (b + n), by omega, by omega, ?_, fun x hx => ?_⟩
          · rw [rnG_snoc, i4]
            show some (min (min b (L (off cs)) + n) (L (off cs))) = _
            congr 1; omega
          · rw [rnG_snoc, i5 x hx, e1]
            show some (min (min (max a (min b (x + chg cs))) (L (off cs)) + n) (L (off cs))) = _
            congr 1; omega
      | left =>
        have e1 : chg (cs ++ [.go .left n]) = chg cs - n := by rw [chg_snoc]; simp only [chg]; omega
        refine .inr ⟨hz _ rfl, ?_⟩
        rcases ih with ⟨i1, i2, i3⟩ | ⟨_, a, b, i2, i3, i4, i5⟩
        · refine ⟨0, max 0 (L (off cs) - n), by omega, by omega, ?_, fun x hx => ?_⟩
          · rw [rnG_snoc, i3]
            show some (max (L (off cs) - n) 0) = _
            congr 1; omega
          · rw [rnG_snoc, i3, e1, i1]
            show some (max (min x (L (off cs)) - n) 0) = _
            congr 1; omega
        · refine ⟨max 0 (min a (L (off cs)) - n), max 0 (min b (L (off cs)) - n), by omega, by omega, ?_, fun x hx => ?_⟩
          · rw [rnG_snoc, i4]
            show some (max (min b (L (off cs)) - n) 0) = _
            congr 1; omega
          · rw [rnG_snoc, i5 x hx, e1]
            show some (max (min (max a (min b (x + chg cs))) (L (off cs)) - n) 0) = _
            congr 1; omega
/-- with home or end the start does not count -/
theorem rnG_al {L : Int → Int} : ∀ (cs : List Cmd) (o : Int) (g g' : Go), (∃ c, c ∈ cs ∧ c.isAl = true) → rnG L o g cs = rnG L o g' cs
  | [], _, _, _, ⟨c, h, _⟩ => nomatch h
  | c :: cs, o, g, g', ⟨d, hd, ha⟩ => by
    unfold rnG
    rcases List.mem_cons.mp hd with rfl | hd
    · cases d with
      | home => rfl
      | fin => rfl
      | go e n => cases ha
    · exact rnG_al cs _ _ _ ⟨d, hd, ha⟩
/-- a round, again and again -/
def itr (F : Go → Go) : Nat → Go → Go
  | 0, g => g
  | n + 1, g => F (itr F n g)
theorem itr_add {F : Go → Go} : ∀ (m n : Nat) (g : Go), itr F (m + n) g = itr F m (itr F n g)
  | 0, n, g => by rw [Nat.zero_add]; rfl
  | m + 1, n, g => by
    rw [Nat.succ_add]
    show F (itr F (m + n) g) = F (itr F m (itr F n g))
    rw [itr_add m n g]
theorem itr_const {F : Go → Go} {g : Go} (h : F (F g) = F g) : ∀ n : Nat, itr F (n + 1) g = F g
  | 0 => rfl
  | n + 1 => by
    show F (itr F (n + 1) g) = F g
    rw [itr_const h n, h]
/-- how repeat finds it -/
theorem itr_clamp {F : Go → Go} {a b c : Int} (h0 : 0 ≤ a) (h1 : a ≤ b) (hn : F none = some b) (hs : ∀ x : Int, 0 ≤ x → F (some x) = some (max a (min b (x + c)))) {g : Go} (hg : g0 g) {y : Int} (hy : F g = some y) :
    ∀ n : Nat, itr F (n + 1) g = some (max (max a (min b c)) (min b (y + c * (n : Int)))) := by
  have y1 : max a (min b c) ≤ y ∧ y ≤ b := by
    cases g with
    | none => rw [hn] at hy; cases hy; omega
    | some x =>
      have hg : (0 : Int) ≤ x := hg
      rw [hs x hg] at hy
      cases hy
      omega
  intro n
  induction n with
  | zero =>
    show F g = _
    rw [hy]
    congr 1
    simp only [Int.natCast_zero, Int.mul_zero]
    omega
  | succ n ih =>
    show F (itr F (n + 1) g) = _
    rw [ih, hs _ (by omega)]
    have e : c * ((n + 1 : Nat) : Int) = c * (n : Int) + c := by rw [Int.natCast_add, Int.mul_add]; simp
    rw [e]
    have hc : (0 ≤ c → 0 ≤ c * (n : Int)) ∧ (c ≤ 0 → c * (n : Int) ≤ 0) := ⟨fun h => Int.mul_nonneg h (Int.natCast_nonneg n), fun h => Int.mul_nonpos_of_nonpos_of_nonneg h (Int.natCast_nonneg n)⟩
    generalize c * (n : Int) = z at hc
    congr 1
    omega
/-- a greater goal never leads to a lesser one -/
def gle : Go → Go → Prop
  | _, none => True
  | none, some _ => False
  | some a, some b => a ≤ b
theorem stp_mono {l : Int} {g g' : Go} (h : gle g g') (c : Cmd) : gle (stp l g c) (stp l g' c) := by
  cases c with
  | home => exact Int.le_refl 0
  | fin => trivial
  | go d n =>
    cases d <;> cases g <;> cases g' <;> simp only [stp, shw, gle] at * <;> omega
theorem rnG_mono {L : Int → Int} : ∀ (cs : List Cmd) (o : Int) (g g' : Go), gle g g' → gle (rnG L o g cs) (rnG L o g' cs)
  | [], _, _, _, h => h
  | c :: cs, o, g, g', h => rnG_mono cs _ _ _ (stp_mono h c)
theorem itr_mono {F : Go → Go} (h : ∀ g g', gle g g' → gle (F g) (F g')) : ∀ (n : Nat) (g g' : Go), gle g g' → gle (itr F n g) (itr F n g')
  | 0, _, _, e => e
  | n + 1, g, g', e => h _ _ (itr_mono h n g g' e)
theorem itr_inv {F : Go → Go} {P : Go → Prop} (h : ∀ g, P g → P (F g)) : ∀ (n : Nat) (g : Go), P g → P (itr F n g)
  | 0, _, e => e
  | n + 1, g, e => h _ (itr_inv h n g e)
/-! ### lists that are read, compared -/
theorem eq_v {x y : W} {xs ys : List W} {Cs : Cells} {Q : WK} (b : Bool) (lx : LsV x xs Cs) (ly : LsV y ys Cs) (hx : Dk b 60 (.ls xs)) (hy : Dk b 60 (.ls ys)) (h : Q (.bl (eqB (.ls xs) (.ls ys))) Cs) : uEq x y Cs Q := by
  have r := eqV_i b lx ly hx hy h
  cases x with
  | ref a => cases y with
    | ref c => exact r
    | ls us => exact r
    | _ => exact ly.elim
  | ls ws => cases y with
    | ref c => exact r
    | ls us => exact r
    | _ => exact ly.elim
  | _ => exact lx.elim
theorem ne_v {x y : W} {xs ys : List W} {Cs : Cells} {Q : WK} (b : Bool) (lx : LsV x xs Cs) (ly : LsV y ys Cs) (hx : Dk b 60 (.ls xs)) (hy : Dk b 60 (.ls ys)) (h : Q (.bl (!eqB (.ls xs) (.ls ys))) Cs) : uNe x y Cs Q := by
  have r := neV_i b lx ly hx hy h
  cases x with
  | ref a => cases y with
    | ref c => exact r
    | ls us => exact r
    | _ => exact ly.elim
  | ls ws => cases y with
    | ref c => exact r
    | ls us => exact r
    | _ => exact ly.elim
  | _ => exact lx.elim
theorem dk_ints {ns : List Int} : Dk true 60 (.ls (ns.map W.int)) := (dk_ls (n := 59) fun w hw => by obtain ⟨i, _, rfl⟩ := List.mem_map.mp hw; exact of_eq_true dk_int)
theorem dk_c1 (c : Cmd) : Dk true 59 c.w := by
  cases c with
  | go d n =>
    refine dk_tup (n := 58) fun w hw => ?_
    simp only [List.mem_cons, List.not_mem_nil, or_false] at hw
    rcases hw with rfl | rfl
    · rw [dk_str]; cases d <;> decide +kernel
    · exact of_eq_true dk_int
  | home =>
    refine dk_tup (n := 58) fun w hw => ?_
    rw [List.mem_singleton] at hw
    subst hw
    rw [dk_str]; decide +kernel
  | fin =>
    refine dk_tup (n := 58) fun w hw => ?_
    rw [List.mem_singleton] at hw
    subst hw
    rw [dk_str]; decide +kernel
theorem dk_cmds {cs : List Cmd} : Dk true 60 (.ls (cs.map Cmd.w)) := dk_ls (n := 59) fun w hw => by
  obtain ⟨c, _, rfl⟩ := List.mem_map.mp hw
  exact dk_c1 c
theorem log2_up {x a : Nat} (h : x < 2 ^ a) : x.log2 ≤ a := by
  by_cases e : x = 0
  · subst e; exact Nat.zero_le _
  · exact Nat.le_of_lt ((Nat.log2_lt e).mpr h)
theorem mulW {i j : Int} {a b : Nat} (hi : i.natAbs < 2 ^ a) (hj : j.natAbs < 2 ^ b) (h : a + b < 1000000) : CMulA i j := .inr (by
  have h1 := log2_up hi
  have h2 := log2_up hj
  show i.natAbs.log2 + j.natAbs.log2 < 1000000
  omega)
end SL
/-! ### generator defs: a for that hands out -/
namespace SL
open PySem PySem.Spec PyProof.Rows L2 GenW
section
variable {prog : Program} {w : World} {A : Around} {R : GenEnd} {Y : Protocol} {n : Nat} {s₀ : Shared} {fs : List Frame} {s : Shared} {env : Env}
/-- what a loop's code does with an exception -/
def noted (env : Env) (e : Value) : Sem PySem.Fin := (do noteFrame e env; theTreesLotGoes e : Sem Unit).wrap (fun _ => .raise e) .raise id id
theorem seg_forTurn {target : Expr} {it : Value} {body : List Stmt}
    (h : wpAny (model prog w) (A.over (.forLoop target it body [] env) fs) (pyNext it) (fun r s1 => match r with
      | none => Seg (model prog w) A R Y n s₀ (.forLoop target it body [] env) (.pure (.again (.block [] env))) fs s1
      | some v => wpAny (model prog w) (A.over (.forLoop target it body [] env) fs) (letOwnedTupleGo target it v) (fun _ s2 => wpAny (model prog w) (A.over (.forLoop target it body [] env) fs) (assign target env v) (fun _ s3 =>
          Seg (model prog w) A R Y n s₀ (.forLoop target it body [] env) ((execs body env).wrap (fun f => match f with
            | .next | .cont => .pure (.again (.forLoop target it body [] env))
            | .brk => .pure (.done .next)
            | .ret v => .pure (.done (.ret v))) (noted env) id id) fs s3)
          (fun x s' => Seg (model prog w) A R Y n s₀ (.forLoop target it body [] env) (noted env x) fs s') s2) (fun x s' => Seg (model prog w) A R Y n s₀ (.forLoop target it body [] env) (noted env x) fs s') s1)
      (fun x s' => Seg (model prog w) A R Y n s₀ (.forLoop target it body [] env) (noted env x) fs s') s) :
    Seg (model prog w) A R Y n s₀ (.forLoop target it body [] env) ((model prog w).den (.forLoop target it body [] env)) fs s := by
  have hn : ∀ e, noted env e = ((do noteFrame e env; theTreesLotGoes e : Sem Unit).bind fun _ => (Sem.raise e : Sem PySem.Fin)) := fun e => by
    unfold noted
    rw [Sem.bind_eq_wrap]
  show Seg _ A R Y n s₀ _ ((forTurn target it body [] env).onRaise (fun x => do noteFrame x env; theTreesLotGoes x)) fs s
  unfold forTurn
  rw [Sem.onRaise_eq_wrap]
  show Seg _ A R Y n s₀ _ (.at target.pos fun _ => ((((pyNext it).onRaise fun _ => standAt { target.pos with line := 0 }) >>= _ : Sem PySem.Fin).wrap _ _ _ _)) fs s
  refine seg_at ?_
  refine seg_bind_wrap (wpAny_onRaise (wpAny_mono h (fun r s1 h1 => ?_) fun x s' hx => wpAny_standAt ?_))
  · cases r with
    | none => exact h1
    | some v =>
      refine seg_bind_wrap (wpAny_mono h1 (fun _ s2 h2 => ?_) fun x s' hx => ?_)
      · refine seg_bind_wrap (wpAny_mono h2 (fun _ s3 h3 => ?_) fun x s' hx => ?_)
        · rw [Sem.bind_eq_wrap', Sem.wrap_wrap]
          refine Eq.mpr (congrArg (fun t => Seg (model prog w) A R Y n s₀ (.forLoop target it body [] env) t fs s3) (Sem.wrap_congr (execs body env) _ _ (K' := fun f => match f with
            | .next | .cont => .pure (.again (.forLoop target it body [] env))
            | .brk => .pure (.done .next)
            | .ret v => .pure (.done (.ret v))) (H' := noted env) (fun f => by cases f <;> rfl) (fun e => (hn e).symm))) h3
        · rw [hn] at hx; exact hx
      · rw [hn] at hx; exact hx
  · rw [hn] at hx; exact hx
theorem seg_For {target iter : Expr} {body : List Stmt} {pos : Pos} {c : Code} {K : Flow → Sem PySem.Fin} {J : Value → Sem PySem.Fin} {gd : Bool → Bool} {lv : List Value → List Value}
    (hs : ∀ x, foldedSetIterable iter env x = pure x)
    (h : wpAny (model prog w) (A.over c fs) (eval iter env) (fun x s1 => wpAny (model prog w) (A.over c fs) (pyIter x) (fun it s2 => ∀ p, Seg (model prog w) A R Y n s₀ (.forLoop target it body [] env) ((model prog w).den (.forLoop target it body [] env))
      (.ret (fun r => ((match r with | .ok f => (.pure f : Sem Flow) | .error e => .raise e).onRaise (cameBack env)).wrap K J gd lv) none (gd false) (lv []) c p [] :: fs) s2)
      (fun x s' => Seg (model prog w) A R Y n s₀ c (J x) fs s') s1) (fun x s' => Seg (model prog w) A R Y n s₀ c (J x) fs s') s) :
    Seg (model prog w) A R Y n s₀ c ((exec (.For target iter body [] pos) env).wrap K J gd lv) fs s := by
  rw [exec_For]
  refine seg_bind_wrap (wpAny_standAt ?_)
  refine seg_bind_wrap (wpAny_mono h (fun x s1 h1 => ?_) fun x s' hx => hx)
  refine seg_bind_wrap (wpAny_of_eq (hs x) ?_)
  refine seg_bind_wrap (wpAny_standAt ?_)
  refine seg_bind_wrap (wpAny_holding (wpAny_mono h1 (fun it s2 h2 => ?_) fun x s' hx => hx))
  exact seg_call h2
end
section
variable {X : Cx}
def tGFor (wi : TI) (g : TG) (tb : TGn) : TGn := fun D ys σ H => wi σ H fun J H1 => ∃ W : Nat → Nat → List V → L2.St → Hp → Prop, (∃ m, W 0 m ys σ H1) ∧ ∀ i m ys σ H, W i m ys σ H →
  (J.stop i H ∧ D.nx ys σ H) ∨ (J.go i H ∧ ∃ N : List V → L2.St → Hp → Prop, (∀ ys' σ' H', N ys' σ' H' → ∃ m', m' < m ∧ W (i + 1) m' ys' σ' H') ∧ ∀ x H', J.yld i H x H' → g x σ H' fun σ2 H2 => tb { D with nx := N, ct := N, bk := D.nx } ys σ2 H2)
theorem gs_for {tg iter : Expr} {body : List Stmt} {wi : TI} {g : TG} {tb : TGn} {pos : Pos} (hp : PassesOwn (model X.prog X.w) X.A X.env X.xe) (hc : X.calm = true) (hi : PI X tg iter wi) (hg : PG X tg g) (hb : GSs X body tb)
    (hs : ∀ x, foldedSetIterable iter X.env x = pure x := by intro _; rfl) : GS X (.For tg iter body [] pos) (tGFor wi g tb) := by
  refine ⟨fun A S ip R n ys s₀ c fs K J gd lv s σ H D G hn k hI ht => ?_⟩
  obtain ⟨acc, cc, r, I⟩ := hI
  refine seg_For hs ?_
  rw [G.over]
  refine wpAny_mono (hi.run _ s σ H _ I ht) (fun v s1 h1 => wpAny_mono h1 (fun itv s2 h2 p => ?_) fun x s' hx => k.exc n s₀ x s' hx) fun x s' hx => k.exc n s₀ x s' hx
  obtain ⟨it, fp, tn, JJ, H2, e, I2, T, st2, f2, W, ⟨m0, w0⟩, turn⟩ := h2
  subst e
  have GL := fun (kk : Result → Sem PySem.Fin) => gc_loop (k := kk) (c' := .forLoop tg (.ref it) body [] X.env) (l := lv []) (kp := []) (p := p) G rfl rfl
  have GB := fun (kk : Result → Sem PySem.Fin) => gc_loop (k := kk) (c' := .block [] X.env) (l := lv []) (kp := []) (p := p) G rfl rfl
  -- what stays true of the iterator's objects
  have stat : ∀ {H' : Hp} {acc' : Array Value} {c' : Nat}, (∀ b ∈ fp, H' b = none) → ∀ b ∈ fp, FpOk X ((S, lstObj acc' c') :: ip) H' b := fun {H' acc' c'} hn b hb => by
    obtain ⟨_, q1, q2, q3, q4, q5⟩ := f2 b hb
    refine ⟨hn b hb, q1, q2, q3, q4, fun p hp => ?_⟩
    rcases List.mem_append.mp hp with hp | hp
    · exact q5 p (List.mem_append_left _ hp)
    · rcases List.mem_cons.mp hp with hp | hp
      · rw [hp]; exact q5 (S, lstObj acc cc) (List.mem_append_right _ List.mem_cons_self)
      · exact q5 p (List.mem_append_right _ (List.mem_cons_of_mem _ hp))
  have nS : ∀ b ∈ fp, b ≠ S := fun b hb z => (f2 b hb).2.2.2.2.2 (S, lstObj acc cc) (List.mem_append_right _ List.mem_cons_self) z.symm
  have loop : ∀ (m n i : Nat) (ys : List V) (s₀ s : Shared) (σ : L2.St) (H : Hp), n + ys.length = sizeLine → W i m ys σ H → GI X S ip ys σ H s → tn i s.heap → (∀ b ∈ fp, H b = none) →
      Seg (model X.prog X.w) A R (GY X S) n s₀ (.forLoop tg (.ref it) body [] X.env) ((model X.prog X.w).den (.forLoop tg (.ref it) body [] X.env))
        (.ret (fun r => ((match r with | .ok f => (.pure f : Sem Flow) | .error e => .raise e).onRaise (cameBack X.env)).wrap K J gd lv) none (gd false) (lv []) c p [] :: fs) s := by
    intro m
    induction m using Nat.strongRecOn with
    | ind m ih =>
      intro n i ys s₀ s σ H hn w hI st fr
      have ee : ∀ (n : Nat) (s₀ : Shared) (x : Value) (s' : Shared), X.xe x s' → Seg (model X.prog X.w) A R (GY X S) n s₀ (.forLoop tg (.ref it) body [] X.env) (noted X.env x)
          (.ret (fun r => ((match r with | .ok f => (.pure f : Sem Flow) | .error e => .raise e).onRaise (cameBack X.env)).wrap K J gd lv) none (gd false) (lv []) c p [] :: fs) s' := fun n s₀ x s' hx => by
        refine seg_wrap ?_
        rw [(GL _).over]
        refine wpAny_bind (wpAny_mono (hp x s' hx) (fun _ s'' hcb => wpAny_theTreesLotGoes ?_) fun y s'' hcb => ?_)
        · exact seg_leaf (.error x) (seg_cameBack G k hcb)
        · exact seg_leaf (.error y) (seg_cameBack G k hcb)
      refine seg_forTurn ?_
      rw [(GL _).over]
      obtain ⟨acc, cc, r, I⟩ := hI
      rcases turn i m ys σ H w with ⟨stop, qn⟩ | ⟨go, N, hN, step⟩
      · refine wpAny_mono (T.done X rfl rfl rfl hc i _ s σ H X.xe I (stat fr) st stop) (fun r s4 ⟨hr, I4⟩ => ?_) fun x s' hx => ee n s₀ x s' hx
        subst hr
        refine seg_again rfl ?_
        show Seg _ _ _ _ n s₀ _ (((execs [] X.env).onRaise fun x => do noteFrame x X.env; theTreesLotGoes x) >>= fun f => (pure (.done f) : Sem PySem.Fin)) _ s4
        refine seg_bind (wpAny_onRaise (wpAny_execs_nil ?_))
        exact seg_leaf (.ok .next) (k.ok n ys s₀ s4 .next hn ⟨σ, H, ⟨acc, cc, r, I4⟩, qn⟩)
      · refine wpAny_mono (T.item X rfl rfl rfl hc i _ s σ H X.xe I (stat fr) st go) (fun rr s4 ⟨u, hr, h4⟩ => ?_) fun x s' hx => ee n s₀ x s' hx
        subst hr
        refine wpAny_mono h4 (fun _ s5 ⟨x, H5, I5, r5, y5, st5, fr5⟩ => ?_) fun x s' hx => ee n s₀ x s' hx
        have I5' := I5.pinned (stat fr5) (T.obj _ _ st5)
        refine wpAny_mono (hg.run _ s5 σ H5 x u _ I5' r5 (step x H5 y5)) (fun _ s6 ⟨σ6, H6, I6, q6⟩ => ?_) fun x s' hx => ee n s₀ x s' hx
        have ghip : ∀ q ∈ ip ++ pinsAt fp s5.heap, q.1 ≠ S := fun q hq => by
          rcases List.mem_append.mp hq with z | z
          · exact G.ip q z
          · exact nS q.1 (of_pinsAt z).1
        have GL' : ∀ kk : Result → Sem PySem.Fin, GC X S (ip ++ pinsAt fp s5.heap) A (.forLoop tg (.ref it) body [] X.env) (.ret kk none (gd false) (lv []) c p [] :: fs) id := fun kk => { GL kk with ip := ghip }
        have back : ∀ {ys7 : List V} {σ7 : L2.St} {H7 : Hp} {s7 : Shared}, GI X S (ip ++ pinsAt fp s5.heap) ys7 σ7 H7 s7 → GI X S ip ys7 σ7 H7 s7 ∧ tn (i + 1) s7.heap ∧ ∀ b ∈ fp, H7 b = none := fun {ys7 σ7 H7 s7} ⟨a7, c7, r7, I7⟩ => by
          refine ⟨⟨a7, c7, r7, Inv.unpinned (pl := pinsAt fp s5.heap) I7⟩, T.keep _ _ _ st5 fun b hb o e => (I7.pin (b, o) (List.mem_append_right _ (List.mem_cons_of_mem _ (List.mem_append_right _ (mem_pinsAt hb e))))).1, fun b hb => ?_⟩
          obtain ⟨o, e, d⟩ := T.obj _ _ st5 b hb
          exact (I7.pin (b, o) (List.mem_append_right _ (List.mem_cons_of_mem _ (List.mem_append_right _ (mem_pinsAt hb e))))).2.1
        refine hb.run A S (ip ++ pinsAt fp s5.heap) R n ys s₀ _ _ _ _ id id s6 σ6 H6 { D with nx := N, ct := N, bk := D.nx } (GL' _) hn ⟨fun n' ys' s₀' s7 f hn' hs => ?_, fun n' s₀' x s3 hx => ee n' s₀' x s3 hx⟩ ⟨acc, cc, r, I6⟩ q6
        cases f with
        | next =>
          obtain ⟨σ7, H7, I7, n7⟩ := hs
          obtain ⟨m', hm, w7⟩ := hN ys' σ7 H7 n7
          obtain ⟨b1, b2, b3⟩ := back I7
          exact seg_again rfl (ih m' hm n' (i + 1) ys' s₀' s7 σ7 H7 hn' w7 b1 b2 b3)
        | cont =>
          obtain ⟨σ7, H7, I7, n7⟩ := hs
          obtain ⟨m', hm, w7⟩ := hN ys' σ7 H7 n7
          obtain ⟨b1, b2, b3⟩ := back I7
          exact seg_again rfl (ih m' hm n' (i + 1) ys' s₀' s7 σ7 H7 hn' w7 b1 b2 b3)
        | brk =>
          obtain ⟨σ7, H7, I7, n7⟩ := hs
          exact seg_leaf (.ok .next) (k.ok n' ys' s₀' s7 .next hn' ⟨σ7, H7, (back I7).1, n7⟩)
        | ret v =>
          obtain ⟨x7, σ7, H7, I7, r7, n7⟩ := hs
          exact seg_leaf (.ok (.ret v)) (k.ok n' ys' s₀' s7 (.ret v) hn' ⟨x7, σ7, H7, (back I7).1, r7, n7⟩)
  exact loop m0 n 0 ys s₀ s2 σ H2 hn w0 ⟨acc, cc, r, I2⟩ st2 fun b hb => (f2 b hb).1
end
end SL
namespace SL
open PySem PySem.Spec PyProof.Rows L2
/-! ### names that take the parts of a list -/
def gLstW (n : Nat) (t : MGs) : MG := fun ρ w Cs Q => ∃ ws, LsV w ws Cs ∧ ws.length = n ∧ t ρ ws Cs Q
theorem qg_lst {X : Cx} {js : List Nat} {es : List Expr} {k : Nat} {pos : Pos} {n : Nat} {gs : MGs} (hc : X.calm = true) (h : QGs X js es gs) (hn : (assignEach es X.env).length = n := by rfl) (hst : (assignEach es X.env).findIdx? (·.1) = none := by rfl) : QG X js (.Tuple es k pos) (gLstW n gs) :=
  pg_imp (pg_lst hc h hn hst) fun v σ H Q' ⟨ρ, w, Cs, Q, R, C, rp, ⟨ws, hl0, hl, h⟩, kQ⟩ => by
    obtain ⟨a, xs, rfl, h1, h2⟩ := hl0.get C rp
    exact ⟨a, xs, rfl, .inl h1, by rw [← reps_len h2]; exact hl, ρ, ws, Cs, Q, R, C, h2, h, kQ⟩
end SL
namespace SL
open PySem PySem.Spec PyProof.Rows L2 GenW
/-! ### defs that hold wherever they are called: their calls need no word on what is shown around -/
section
variable {P : Program} {w : World} {K : PySem.W.Frag} {mg : Str → Option Value} {base : Heap} {k : Nat} {x : Str} {sp : SpW} {kb : List KSig}
theorem Fun.okN {x qual : Str} {st : Stmt} {f : Addr} {fd : FuncData} {N ps : List Str} {k : Nat} {sp : Sp} (F : Fun K x qual st f fd) (S : FnScope N ps (defScope st))
    (len : ∀ vs H Q E, sp vs H Q E → vs.length = ps.length)
    (hbody : ∀ (cdv : Value) (A : Around) (outer : List Env) (s : Shared) (H : Hp) (vs : List V) (Q : VK) (E : XK), Room k (A.deeper (envOfC qual (defScope st) s.heap.objs.size f cdv)) → sp vs H Q E →
      ∃ t, PSs (cxOf (L2.CX P w) P w K mg base N qual (defScope st) f cdv A outer s H E) (defBody st) t ∧ t { nx := fun _ H' => Q .non H', rt := Q } (start N vs) H) : FnOk P w K mg base (L2.CX P w) (k + 1) f fd ps sp := by
  obtain ⟨oc, od, kV, doc, pm, an, cdv, ct, osl, rfl, lk, hcd⟩ := F.ex
  exact fn_of lk hcd S len fun A outer s H vs Q E hr hsp => hbody cdv A outer s H vs Q E hr hsp
/-- as Cal, with no word on what is shown around -/
structure CalN (P : Program) (w : World) (K : PySem.W.Frag) (mg : Str → Option Value) (base : Heap) (k : Nat) (x : Str) (sp : SpW) (kb : List KSig) : Prop where
  ex : ∃ f fd ps, FnOk P w K mg base (L2.CX P w) k f fd ps (spOf K sp) ∧ mg x = some (.ref f) ∧ PySem.W.keepIn K (.ref f) = true ∧ Binds K fd ps [] ∧ ∀ t, t ∈ kb → KBd fd ps t.1 t.2.1 t.2.2.1 t.2.2.2
theorem CalN.mono {j : Nat} (C : CalN P w K mg base j x sp kb) (h : j ≤ k) : CalN P w K mg base k x sp kb := by
  obtain ⟨f, fd, ps, h1, h2⟩ := C.ex
  exact ⟨f, fd, ps, h1.mono h, h2⟩
theorem CalN.cal (C : CalN P w K mg base k x sp kb) : Cal P w K mg base k x sp kb := by
  obtain ⟨f, fd, ps, h1, h2⟩ := C.ex
  exact ⟨f, fd, ps, ⟨h1.len, fun A outer s H args us vs Q E hr _ => h1.run A outer s H args us vs Q E hr⟩, h2⟩
theorem okCN {st : Stmt} {N ps : List Str} {t : MS} (h : Has K mg x st) (S : FnScope N ps (defScope st))
    (bind : ∀ (kV doc pm : Value) (an : Option Addr) (cdv ct : Value) (us : List Value), us.length = ps.length → bindArgs (PySem.W.fnOf x x (defArgs st) (defBody st) (defScope st) .none kV doc pm an cdv ct) { pos := us } = pure (ps.zip us))
    (kbind : ∀ t, t ∈ kb → ∀ (kV doc pm : Value) (an : Option Addr) (cdv ct : Value), KBd (PySem.W.fnOf x x (defArgs st) (defBody st) (defScope st) .none kV doc pm an cdv ct) ps t.1 t.2.1 t.2.2.1 t.2.2.2)
    (len : ∀ ws Cs Q E, sp ws Cs Q E → ws.length = ps.length)
    (der : ∀ (f : Addr) (cdv : Value) (A : Around) (outer : List Env) (s : Shared) (H : Hp) (E : XK), Room k (A.deeper (envOfC x (defScope st) s.heap.objs.size f cdv)) →
      QSs (cxOf (L2.CX P w) P w K mg base N x (defScope st) f cdv A outer s H E) (defBody st) t)
    (pure : ∀ ws Cs Q E, sp ws Cs Q E → t (EndsD Q E) (rho0 ws) Cs) : CalN P w K mg base (k + 1) x sp kb := by
  obtain ⟨f, fd, hm, F⟩ := h.ex
  have lenV : ∀ vs H Q E, spOf K sp vs H Q E → vs.length = ps.length := fun vs H Q E ⟨ws, Cs, Q1, E1, r, rc, h, _⟩ => by rw [← reps_len r]; exact len ws Cs Q1 E1 h
  refine ⟨f, fd, ps, SL.Fun.okN F S lenV fun cdv A outer s H vs Q' E' hr h => ⟨_, der f cdv A outer s H E' hr (fun cls d _ H => E' cls d H) (takes_of rfl rfl rfl rfl), ?_⟩, hm, F.kp, F.binds bind, fun t ht => ?_⟩
  · have hl := lenV vs H Q' E' h
    obtain ⟨ws, Cs, Q, E, r, rc, h, kQ, kE⟩ := h
    have hps : ps.length ≤ N.length := by
      have e := congrArg List.length S.pre
      rw [List.length_take] at e
      omega
    refine ⟨rho0 ws, Cs, EndsD Q E, ⟨?_, fun i u e => ?_⟩, rc, pure ws Cs Q E h, ?_⟩
    · show (L2.start N vs).length = N.length
      unfold L2.start
      rw [List.length_append, List.length_map, List.length_replicate]
      omega
    · obtain ⟨v, h1, h2⟩ := reps_get r e
      exact ⟨v, start_get h1, h2⟩
    · refine ⟨fun ρ C σ H' q tr _ rc' => ?_, fun u C v H' q tr rc' rp => ?_, fun ρ C σ H' q => q.elim, fun ρ C σ H' q => q.elim, fun A u ρ C σ d v H' q tr _ rc' rp xv => ?_⟩
      · obtain ⟨C', hp, q⟩ := q
        exact kQ _ C' _ H' q tr (rc'.to hp) (rep_non.mpr rfl)
      · obtain ⟨C', hp, q⟩ := q
        exact kQ _ C' _ H' q tr (rc'.to hp) rp
      · obtain ⟨C', hp, q⟩ := q
        exact kE _ _ C' d v H' q tr (rc'.to hp) rp xv
  · obtain ⟨oc, od, kV, doc, pm, an, cdv, ct, osl, e, _⟩ := F.ex
    rw [e]
    exact kbind t ht kV doc pm an cdv ct
end
section
variable {X : Cx} {k : Nat} {f : Addr} {fd : FuncData} {ps : List Str} {sp : Sp} {W : WX} {x : Str} {p pos : Pos} {e : Expr} {es : List Expr} {t : TA}
theorem run_fnN {pins : List (Addr × Obj)} {σ : L2.St} {H : Hp} {s : Shared} {Q : VK} {us : List Value} {vs : List V} {args : Args} (F : FnOk X.prog X.w X.K X.mg X.base (L2.CX X.prog X.w) k f fd ps sp) (hr : Room k X.A) (tk : Takes X W)
    (I : Inv X pins σ H s) (hb : BindsTo s fd args (ps.zip us)) (r : Vals vs us) (h : sp vs H Q (fun c d H' => W c d σ H')) : codeAny (model X.prog X.w) X.A (.call (.ref f) args) (fun r s' => match r with
      | .ok (.ret u) => EP X pins σ Q u s'
      | .ok _ => False
      | .error e => X.xe e s') s := by
  refine codeAny_mono (F.run X.A X.stack s H args us vs Q _ hr I.env0 hb r h) fun r s' hq => ?_
  cases r with
  | error e => exact tk e s' (XE.of_call I (fun _ _ _ h => h) hq)
  | ok fl =>
    cases fl with
    | ret u => exact I.after hq
    | next => exact False.elim hq
    | brk => exact False.elim hq
    | cont => exact False.elim hq
theorem run_callN {pins : List (Addr × Obj)} {σ : L2.St} {H : Hp} {s : Shared} {Q : VK} {us : List Value} {vs : List V} (F : FnOk X.prog X.w X.K X.mg X.base (L2.CX X.prog X.w) k f fd ps sp) (hr : Room k X.A) (tk : Takes X W) (hb : Binds X.K fd ps [])
    (I : Inv X pins σ H s) (r : Vals vs us) (h : sp vs H Q (fun c d H' => W c d σ H')) : wpAny (model X.prog X.w) X.A (call (.ref f) us) (EP X pins σ Q) X.xe s := by
  have hl : us.length = ps.length := by rw [← r.length]; exact F.len _ _ _ _ h
  have hb' := hb s us I.kIn (by rw [List.append_nil]; exact hl)
  rw [List.append_nil] at hb'
  refine wpAny_call (codeAny_mono (run_fnN F hr tk I hb' r h) fun r s' hq => ?_)
  cases r with
  | error e => exact hq
  | ok fl =>
    cases fl with
    | ret u => exact hq
    | next => exact hq.elim
    | brk => exact hq.elim
    | cont => exact hq.elim
theorem pe_callN (F : FnOk X.prog X.w X.K X.mg X.base (L2.CX X.prog X.w) k f fd ps sp) (hr : Room k X.A) (hg : Gl X x) (hm : X.mg x = some (.ref f)) (hk : PySem.W.keepIn X.K (.ref f) = true) (hb : Binds X.K fd ps []) (tk : Takes X W)
    (ha : PA X (e :: es) t) (hdb : (x == ("__debug__" : Str)) = false := by decide) (he : starEach (e :: es) X.env = (false, eval e X.env) :: starEach es X.env := by rfl) (hpl : (backTo pos (starEach es X.env)).any (·.1) = false := by rfl) :
    PE X (.Call (.Name x p) (e :: es) [] pos) (SL.tCallG sp W t) := ⟨fun pins s σ H Q I h => wpAny_Call_Name_kw (ld_glob I hg hm (PySem.W.callWith_K (h₀ := X.base) I.ok.mod.kin hk (thn (ha.run pos pins s σ H _ I h) fun us s1 ⟨vs, H1, I1, r, q⟩ => ⟨I1.kIn, run_callN F hr tk hb I1 r q⟩) he hpl) hdb)⟩
end
section
variable {X : Cx} {a b c e : Expr} {es : List Expr} {ta tb tc : ME} {t u : MT} {pos p : Pos} {sp : SpW} {k j : Nat} {x : Str} {tr : MA} {kb : List KSig}
theorem qe_cn (C : CalN X.prog X.w X.K X.mg X.base j x sp kb) (hj : j ≤ k) (hr : Room k X.A) (ha : QA X (e :: es) tr) (hg : Gl X x := by rfl)
    (hdb : (x == ("__debug__" : Str)) = false := by decide) (he : starEach (e :: es) X.env = (false, eval e X.env) :: starEach es X.env := by rfl) (hpl : (backTo pos (starEach es X.env)).any (·.1) = false := by rfl) :
    QE X (.Call (.Name x p) (e :: es) [] pos) (mCall sp tr) := by
  obtain ⟨f, fd, ps, h1, h2, h3, h4, _⟩ := (C.mono hj).ex
  exact fun Wx tk => pe_imp (pe_callN h1 hr hg h2 h3 h4 tk (ha Wx tk) hdb he hpl) fun _ _ _ h => liftCall h
end
/-! ### generator defs: plain statements, then a loop that hands out what it walks -/
def sGen (te : ME) : MS := fun D ρ Cs => te (fun C w Cs => D.ex C w ρ Cs) ρ Cs fun w C => ∃ us, LsV w us C ∧ us.length ≤ 1000000 ∧ D.rt (.ls us) C
/-- what a generator hands out, as the items of a locked list -/
structure LnkGn (X : Cx) (Wx : WX) (H : Hp) (DW : EndsW) (D : GEnds) : Prop where
  rt : ∀ us C vs σ H', DW.rt (.ls us) C → Tr X.K H H' → RelC X.K H' C → reps X.K H' us vs → D.nx vs σ H'
  ex : ∀ C w ρ Cs σ d v H', DW.ex C w ρ Cs → Tr X.K H H' → RelS X.K X.N.length H' σ ρ → RelC X.K H' Cs → rep X.K H' w v → XVal H' d v → Wx (.ref C) d σ H'
theorem LnkGn.mono {X : Cx} {Wx : WX} {H H1 : Hp} {DW : EndsW} {D : GEnds} (L : LnkGn X Wx H DW D) (tr : Tr X.K H H1) : LnkGn X Wx H1 DW D :=
  ⟨fun us C vs σ H' e t2 => L.rt us C vs σ H' e (tr.trans t2), fun C w ρ Cs σ d v H' e t2 => L.ex C w ρ Cs σ d v H' e (tr.trans t2)⟩
def liftGn (X : Cx) (Wx : WX) (t : MS) : TGn := fun D ys σ H => ys = [] ∧ ∃ (ρ : Rho) (Cs : Cells) (DW : EndsW), RelS X.K X.N.length H σ ρ ∧ RelC X.K H Cs ∧ t DW ρ Cs ∧ (∀ w C, DW.rt w C → ∃ us, w = .ls us) ∧ (∀ ρ C, ¬ DW.nx ρ C) ∧ (∀ ρ C, ¬ DW.bk ρ C) ∧ (∀ ρ C, ¬ DW.ct ρ C) ∧ LnkGn X Wx H DW D
def QGn (X : Cx) (ss : List Stmt) (t : MS) : Prop := ∀ Wx, Takes X Wx → GSs X ss (liftGn X Wx t)
theorem gss_imp {X : Cx} {ss : List Stmt} {t t' : TGn} (h : GSs X ss t) (k : ∀ D ys σ H, t' D ys σ H → t D ys σ H) : GSs X ss t' :=
  ⟨fun A S ip R n ys s₀ c fs K J gd lv s σ H D G hn kk hI ht => h.run A S ip R n ys s₀ c fs K J gd lv s σ H D G hn kk hI (k _ _ _ _ ht)⟩
section
variable {X : Cx} {e : Expr} {te : ME} {pos yp p2 p3 p4 : Pos} {st : Stmt} {rest : List Stmt} {s1 s2 : MS}
/-- a plain statement of a generator that returns nothing -/
def noRet (t : MS) : Prop := ∀ D ρ Cs, t D ρ Cs → t { D with rt := fun _ _ => False } ρ Cs
theorem qgn_cons (h1 : QS X st s1) (n1 : noRet s1) (h2 : QGn X rest s2) : QGn X (st :: rest) (sSeq s1 s2) := fun Wx tk => gss_imp (gss_cons (gs_ps (h1 Wx tk)) (h2 Wx tk)) fun D ys σ H ⟨ey, ρ, Cs, DW, R, C, h, r0, x0, b0, c0, L⟩ => by
  subst ey
  refine ⟨ρ, Cs, { DW with nx := s2 DW, rt := fun _ _ => False }, R, C, n1 _ _ _ h, ⟨fun ρ' C' σ' H' q tr R' rc => ⟨rfl, ρ', C', DW, R', rc, q, r0, x0, b0, c0, L.mono tr⟩, fun w C v H' q => q.elim, fun ρ C σ H' q => absurd q (b0 _ _), fun ρ C σ H' q => absurd q (c0 _ _), fun C w ρ Cs σ d v H' q tr R' rc rp xv => L.ex C w ρ Cs σ d v H' q tr R' rc rp xv⟩⟩
/-- the loop at the end -/
theorem qgn_loop {x : Str} {i : Nat} (hp : PassesOwn (model X.prog X.w) X.A X.env X.xe) (hc : X.calm = true) (hN : X.N.Nodup) (he : QE X e te) (hi : X.N[i]? = some x := by rfl)
    (hx : Loc X.env.scope x := by first | exact Or.inl rfl | exact Or.inr rfl) (hf : X.fn x = true ∨ X.env.scope.names.lookup x = some .local := by first | exact .inl rfl | exact .inr rfl | assumption)
    (hv : Vis X.env.scope x := by first | exact Or.inl rfl | exact Or.inr (Or.inl rfl) | exact Or.inr (Or.inr rfl)) (hd : (x == ("__debug__" : Str)) = false := by decide) (hcd : (x == ("__classdict__" : Str)) = false := by decide)
    (hs : ∀ x, foldedSetIterable e X.env x = pure x := by intro _; rfl) (hco : X.env.scope.isCoroutine = false := by rfl) (hia : interactive X.env = false := by rfl) :
    QGn X [.For (.Name x p2) e [.Expr (.Yield (some (.Name x yp)) p3) p4] [] pos] (sGen te) := fun Wx tk =>
  gss_imp (gss_cons (gs_for (tg := .Name x p2) hp hc (pi_list (he Wx tk)) (qg_name i hN hi hx hf) (gss_cons (gs_yield (qe_var i hi hv hd hcd Wx tk) hco hia) gss_nil) hs) gss_nil) fun D ys σ H ⟨ey, ρ, Cs, DW, R, C, h, r0, x0, b0, c0, L⟩ => by
    subst ey
    refine ⟨ρ, Cs, _, _, R, C, h, fun w C1 v H1 q tr1 rc1 rp => ?_, ⟨fun C w Cs d v H' e tr rc rp xv => L.ex C w ρ Cs σ d v H' e tr (R.mono tr) rc rp xv⟩⟩
    obtain ⟨us, hl, hle, q⟩ := q
    obtain ⟨a, xs, rfl, hs0, hr0⟩ := hl.get rc1 rp
    have stays : ∀ {H' : Hp}, Tr X.K H1 H' → RelC X.K H' C1 → ∃ xs, SqL X.K H' a xs ∧ reps X.K H' us xs := fun {H'} tr rc => by
      obtain ⟨a', xs', e', s', r'⟩ := hl.get rc (rep_mono tr _ _ rp)
      cases e'
      exact ⟨xs', .inl s', r'⟩
    refine ⟨a, rfl, ?_, ?_⟩
    · obtain ⟨xs, q1, _⟩ := stays (Tr.refl _) rc1
      exact ⟨xs, q1⟩
    · refine ⟨fun i m ys σ' H' => m = us.length - i ∧ i ≤ us.length ∧ Tr X.K H1 H' ∧ RelC X.K H' C1 ∧ reps X.K H' (us.take i) ys ∧ ∃ ρ', RelS X.K X.N.length H' σ' ρ', ⟨us.length, by simp, Nat.zero_le _, Tr.refl _, rc1, by simpa using reps_nil.mpr rfl, ρ, R.mono tr1⟩, ?_⟩
      rintro i m ys σ' H' ⟨rfl, hi, tr2, rc2, ry, ρ', R'⟩
      obtain ⟨xs, q1, q2⟩ := stays tr2 rc2
      have hlx := reps_len q2
      by_cases hlt : i < us.length
      · have hx : i < xs.length := by omega
        refine .inr ⟨⟨xs, xs[i], q1, by simp [hx]⟩, fun ys' σ3 H3 => ∃ m', m' < us.length - i ∧ (m' = us.length - (i + 1) ∧ i + 1 ≤ us.length ∧ Tr X.K H1 H3 ∧ RelC X.K H3 C1 ∧ reps X.K H3 (us.take (i + 1)) ys' ∧ ∃ ρ', RelS X.K X.N.length H3 σ3 ρ'), fun ys' σ3 H3 z => z, fun x2 H3 y => ?_⟩
        obtain ⟨e3, y⟩ := y
        subst e3
        obtain ⟨w, ew, rw2⟩ := reps_get' q2 (y xs q1)
        refine ⟨ρ', w, C1, fun ρ2 C2 => ρ2 = ρ'.put _ w ∧ C2 = C1, R', rc2, rw2, ⟨rfl, rfl⟩, fun ρ2 C2 σ3 H3 ⟨e1, e2⟩ tr3 R3 rc3 _ => ?_⟩
        rw [e2] at rc3
        refine ⟨?_, _, _, _, fun u C3 => u = w ∧ C3 = C1, R3, rc3, ⟨w, by rw [e1]; simp [Rho.put], rfl, rfl⟩, fun u C3 v3 H4 ⟨e1, e2⟩ tr4 rc4 rp4 => ?_, ⟨fun C w Cs d v H' e tr rc rp xv => L.ex C w _ Cs _ d v H' e ((tr1.trans (tr2.trans tr3)).trans tr) (R3.mono tr) rc rp xv⟩⟩
        · have := reps_len ry
          rw [List.length_take] at this
          have : (1000000 : Nat) < sizeLine := by decide
          omega
        · subst e1
          rw [e2] at rc4
          have tr14 := tr2.trans (tr3.trans tr4)
          refine ⟨us.length - (i + 1), by omega, rfl, hlt, tr14, rc4, ?_, _, R3.mono tr4⟩
          have et : us.take (i + 1) = us.take i ++ [u] := by
            rw [List.take_add_one, ew]; rfl
          rw [et]
          exact reps_app (reps_mono (tr3.trans tr4) _ _ ry) (reps_cc.mpr ⟨rp4, reps_nil.mpr rfl⟩)
      · have e : i = us.length := by omega
        subst e
        rw [List.take_length] at ry
        exact .inl ⟨⟨xs, q1, by omega⟩, L.rt us C1 ys σ' H' q (tr1.trans tr2) rc2 ry⟩
end
end SL
namespace SL
open PySem PySem.Spec PyProof.Rows L2 GenW
/-- a generator def's promise: what it hands out, as the items of a locked list; nothing is raised -/
def spGn (K : PySem.W.Frag) (sp : SpW) : SpG := fun vs H cont _ => ∃ (ws : List W) (Cs : Cells) (Q : WK), reps K H ws vs ∧ RelC K H Cs ∧ sp ws Cs Q (fun _ _ _ => False) ∧
  (∀ w C, Q w C → ∃ us, w = .ls us) ∧ ∀ us C vs' H', Q (.ls us) C → Tr K H H' → RelC K H' C → reps K H' us vs' → cont vs' H'
structure CalG (P : Program) (w : World) (K : PySem.W.Frag) (mg : Str → Option Value) (base : Heap) (k : Nat) (x : Str) (sp : SpW) : Prop where
  ex : ∃ f fd ps, GFn P w K mg base k f fd ps (spGn K sp) ∧ mg x = some (.ref f) ∧ PySem.W.keepIn K (.ref f) = true ∧ Binds K fd ps []
theorem okCG {P : Program} {w : World} {K : PySem.W.Frag} {mg : Str → Option Value} {base : Heap} {k : Nat} {x : Str} {sp : SpW} {st : Stmt} {N ps : List Str} {t : MS} (h : Has K mg x st) (S : GScope N ps (defScope st))
    (bind : ∀ (kV doc pm : Value) (an : Option Addr) (cdv ct : Value) (us : List Value), us.length = ps.length → bindArgs (PySem.W.fnOf x x (defArgs st) (defBody st) (defScope st) .none kV doc pm an cdv ct) { pos := us } = pure (ps.zip us))
    (len : ∀ ws Cs Q E, sp ws Cs Q E → ws.length = ps.length)
    (der : ∀ (f : Addr) (cdv : Value) (A : Around) (outer : List Env) (s : Shared) (H : Hp) (E : XK) (pn : List (Addr × Obj)), Room k (A.deeper (envOfC x (defScope st) s.heap.objs.size f cdv)) →
      QGn (gcxOf P w K mg base N x (defScope st) f cdv A outer s H E pn) (defBody st) t)
    (pure : ∀ ws Cs Q E, sp ws Cs Q E → t (EndsD Q E) (rho0 ws) Cs) : CalG P w K mg base (k + 1) x sp := by
  obtain ⟨f, fd, hm, F⟩ := h.ex
  have hbi := F.binds bind
  have hkp := F.kp
  obtain ⟨oc, od, kV, doc, pm, an, cdv, ct, osl, rfl, lk, hcd⟩ := F.ex
  have lenV : ∀ vs H Q E, spGn K sp vs H Q E → vs.length = ps.length := fun vs H Q E ⟨ws, Cs, Q1, r, rc, h, _⟩ => by rw [← reps_len r]; exact len ws Cs Q1 _ h
  refine ⟨f, _, ps, gfn_of lk hcd S lenV fun A outer s H vs Q' E pn hr h => ⟨_, der f cdv A outer s H E pn hr (fun cls d _ H => E cls d H) takes_gcx, ?_⟩, hm, hkp, hbi⟩
  have hl := lenV vs H Q' E h
  obtain ⟨ws, Cs, Q, r, rc, h, hq, kQ⟩ := h
  have hps : ps.length ≤ N.length := by
    have e := congrArg List.length S.pre
    rw [List.length_take] at e
    omega
  refine ⟨rfl, rho0 ws, Cs, EndsD Q fun _ _ _ => False, ⟨?_, fun i u e => ?_⟩, rc, pure ws Cs Q _ h, fun w C ⟨C', _, q⟩ => hq w C' q, fun ρ C ⟨C', _, q⟩ => ?_, fun _ _ q => q, fun _ _ q => q, ⟨fun us C vs' σ H' ⟨C', hp, q⟩ tr rc' rp => kQ us C' vs' H' q tr (rc'.to hp) rp, fun A u ρ C σ d v H' ⟨C', _, q⟩ => q.elim⟩⟩
  · show (L2.start N vs).length = N.length
    unfold L2.start
    rw [List.length_append, List.length_map, List.length_replicate]
    omega
  · obtain ⟨v, h1, h2⟩ := reps_get r e
    exact ⟨v, start_get h1, h2⟩
  · obtain ⟨us, e⟩ := hq _ _ q
    cases e
def mListG (sp : SpW) (t : MA) : ME := fun E ρ Cs Q => t E ρ Cs fun ws C => sp ws C (fun w C' => ∃ us, w = .ls us ∧ ∀ p, Q (.ref p) ((p, .lst us) :: C')) fun _ _ _ => False
section
variable {X : Cx} {e : Expr} {es : List Expr} {pos p p2 pos2 : Pos} {sp : SpW} {k j : Nat} {x : Str} {tr : MA}
theorem qe_listG (C : CalG X.prog X.w X.K X.mg X.base j x sp) (hj : j + 3 ≤ k) (hr : Room k X.A) (hmg : X.mg "list" = none) (ha : QA X (e :: es) tr) (hl : Gl X "list" := by rfl) (hg : Gl X x := by rfl)
    (hdb : (x == ("__debug__" : Str)) = false := by decide) (he : starEach (e :: es) X.env = (false, eval e X.env) :: starEach es X.env := by rfl) (hpl : (backTo pos2 (starEach es X.env)).any (·.1) = false := by rfl) :
    QE X (.Call (.Name "list" p) [.Call (.Name x p2) (e :: es) [] pos2] [] pos) (mListG sp tr) := by
  obtain ⟨f, fd, ps, h1, h2, h3, h4⟩ := C.ex
  have hr3 := hr.mono hj
  refine fun Wx tk => pe_imp (pe_listG (E := fun _ _ _ => False) (pgen_call h1 (hr3.mono (Nat.le_add_right _ _)) hg h2 h3 h4 .nil (ha Wx tk) hdb he hpl) (passes_call tk fun _ _ _ _ h => h.elim) (fun _ _ _ h => h.elim) hr3 hl hmg bt_list) fun σ H Q' ⟨ρ, Cs, E, Q, R, C, h, kQ, kE⟩ => ?_
  refine ⟨ρ, Cs, E, _, R, C, h, fun ws C1 vs H1 q tr1 rc rp => ⟨ws, C1, _, by rw [List.append_nil]; exact rp, rc, q, fun w C2 ⟨us, e, _⟩ => ⟨us, e⟩, fun us C2 vs' H2 ⟨us', e, q⟩ tr2 rc2 r2 p hp => ?_⟩, kE⟩
  cases e
  exact kQ (.ref p) ((p, .lst us) :: C2) (.ref p) (upd H2 p (.lst vs')) (q p) ((tr1.trans tr2).trans (tr_new hp)) (rc2.new hp ⟨vs', upd_same, reps_mono (tr_new hp) _ _ r2⟩) (rep_ref.mpr rfl)
end
end SL
/-! ### the drawing source of the laws k25 to k29 -/
namespace SL
open PySem PySem.Spec PyProof.Rows L2
/-! d[y] op= v -/
def sDAugW (q : RW2) (td ty tv : ME) : MS := fun D ρ Cs => td (fun C w Cs => D.ex C w ρ Cs) ρ Cs fun x C1 => ty (fun C w Cs => D.ex C w ρ Cs) ρ C1 fun y C2 => ∃ a kvs k v, x = .ref a ∧ (a, MO.dic kvs) ∈ C2 ∧ y = kW k ∧ valW kvs k = some v ∧
  tv (fun C w Cs => D.ex C w ρ Cs) ρ C2 fun y2 C3 => q v y2 C3 fun z C4 => ∃ kvs' Ds, C4.Perm ((a, .dic kvs') :: Ds) ∧ kvs'.length < 100000 ∧ D.nx ρ ((a, .dic (putW kvs' k z)) :: Ds)
section
variable {X : Cx} {o i v : Expr} {pos tpos : Pos} {td ty tv : ME}
theorem qs_daug {op : Operator} {rd : V → V → Hp → VK → Prop} {q : RW2} (hu : X.A.units + 1 < cLine) (ho : QE X o td) (hi : QE X i ty) (hv : QE X v tv) (hop : InOp X op rd) (lk : Lk2 X.K rd q)
    (ha : ∀ ov iv new, augStore i ov iv new = (do holding [new, ov, iv] (setItem ov iv new); release [new, ov, iv] []; pure .next) := by intro _ _ _; rfl) : QS X (.AugAssign (.Subscript o i tpos) op v pos) (sDAugW q td ty tv) := fun Wx tk =>
  ps_imp (ps_daug hu (ho Wx tk) (hi Wx tk) (hv Wx tk) hop ha) fun D σ H ⟨ρ, Cs, DW, R, C, h, L⟩ => ⟨ρ, Cs, _, _, R, C, h, fun x C1 vx H1 q1 tr1 rc1 rx => ⟨ρ, C1, _, _, R.mono tr1, rc1, q1, fun y C2 vy H2 q2 tr2 rc2 ry => by
    obtain ⟨a, kvs, k, w, e1, hm, e2, e3, q3⟩ := q2
    subst e1 e2
    obtain ⟨kvs', f1, f2⟩ := rc2.mem hm
    obtain ⟨u, g1, g2⟩ := (val_rel k f2).1 w e3
    obtain rfl := kW_rep.mp ry
    have tr12 := tr1.trans tr2
    refine ⟨a, u, rep_ref.mp (rep_mono tr2 _ _ rx), by rw [← g1]; exact DGet.k f1, ρ, C2, _, _, R.mono tr12, rc2, q3, fun y2 C3 vy2 H3 q4 tr3 rc3 ry2 => ?_, (L.lnkX R).mono tr12⟩
    refine lk w y2 u vy2 H3 C3 _ _ q4 rc3 (rep_mono tr3 _ _ g2) ry2 fun z C4 vz H4 q5 tr4 rc4 rz => ?_
    obtain ⟨kvs2, Ds, hp, hz, q⟩ := q5
    have rc5 := rc4.perm hp
    obtain ⟨kvs3, f3, f4⟩ := rc5.mem List.mem_cons_self
    have trw : Tr X.K H4 (upd H4 a (.dK (putK kvs3 k vz))) := rc5.tr_write
    have tr := ((tr12.trans tr3).trans tr4).trans trw
    have hl := congrArg List.length f4.1
    rw [List.length_map, List.length_map] at hl
    exact ⟨_, DPut.k f3 (Nat.lt_of_lt_of_le (by rw [← hl]; exact hz) (by decide)), L.nx ρ _ σ _ q tr (R.mono tr) (rc5.write ⟨_, upd_same, repKV_mono trw (put_rel k rz f4)⟩)⟩, (L.lnkX R).mono tr1⟩, L.lnkX R⟩
theorem lk_radd {K : PySem.W.Frag} : Lk2 K rAdd qAdd := fun x y vx vy H Cs Q Q' ⟨i, j, e1, e2, q⟩ rc rx ry k => by
  subst e1 e2
  exact ⟨i, j, rep_int.mp rx, rep_int.mp ry, k.here q rc (rep_int.mpr rfl)⟩
theorem ip_mul : PIp X .Mult (fun x y H Q => ∃ i j, x = .int i ∧ y = .int j ∧ CMulA i j ∧ Q (.int (i * j)) H) := by
  intro pins s σ H x y v u Q I r1 r2 h
  obtain ⟨i, j, e1, e2, c, q⟩ := h
  subst e1; subst e2
  obtain ⟨t, rfl⟩ := r1
  obtain ⟨t', rfl⟩ := r2
  exact imul_int ⟨.int _, H, I.tok _, ⟨_, rfl⟩, q⟩ (by
    rcases c with c | c
    · exact c.ok
    · exact c.ok)
theorem lk_amul {K : PySem.W.Frag} : Lk2 K (fun x y H Q => ∃ i j, x = .int i ∧ y = .int j ∧ CMulA i j ∧ Q (.int (i * j)) H) qMul := fun x y vx vy H Cs Q Q' ⟨i, j, e1, e2, c, q⟩ rc rx ry k => by
  subst e1 e2
  exact ⟨i, j, rep_int.mp rx, rep_int.mp ry, c, k.here q rc (rep_int.mpr rfl)⟩
end
/-! ### the source -/
structure BagS where
  p : Addr
  gr : List Int
  left : Int
  turn : Int
  blend : Int
def bagD (p : Addr) (l t b : W) : List (Key × W) := [(.inr "great", .ref p), (.inr "left", l), (.inr "turn", t), (.inr "blend", b)]
def BagS.at_ (S : BagS) (q : Addr) : Cells := [(q, .dic (bagD S.p (.int S.left) (.int S.turn) (.int S.blend))), (S.p, .lst (S.gr.map W.int))]
structure BagS.ok (S : BagS) (N : Nat) : Prop where
  t0 : 0 ≤ S.turn
  t1 : S.turn ≤ N
  b0 : 0 ≤ S.blend
  b1 : S.blend < 2305843009213693951
  g1 : ∀ x, x ∈ S.gr → 0 ≤ x
  l0 : 0 ≤ S.left
theorem BagS.ok.up {S : BagS} {N M : Nat} (h : S.ok N) (k : N ≤ M) : S.ok M := ⟨h.t0, Int.le_trans h.t1 (by omega), h.b0, h.b1, h.g1, h.l0⟩
/-- the source in a world -/
class TakeB (q : Addr) (Cs : Cells) (S : outParam BagS) (Ds : outParam Cells) : Prop where
  perm : Cs.Perm (S.at_ q ++ Ds)
instance (priority := high) TakeB.here {q : Addr} {S : BagS} {Ds : Cells} : TakeB q (S.at_ q ++ Ds) S Ds := ⟨List.Perm.refl _⟩
instance TakeB.there {q : Addr} {S : BagS} {c : Addr × MO} {Cs Ds : Cells} [h : TakeB q Cs S Ds] : TakeB q (c :: Cs) S (c :: Ds) := ⟨(h.perm.cons c).trans List.perm_middle.symm⟩
instance Take.bag {a q : Addr} {S : BagS} {o : MO} {Cs Ds : Cells} [h : Take a Cs o Ds] : Take a (S.at_ q ++ Cs) o (S.at_ q ++ Ds) := ⟨(h.perm.append_left _).trans List.perm_middle⟩
instance At.bag {a q : Addr} {S : BagS} {o : MO} {Cs : Cells} [h : At a Cs o] : At a (S.at_ q ++ Cs) o := ⟨List.mem_append_right _ h.mem⟩
instance Part.bag {q : Addr} {S : BagS} {Cs Ds Es : Cells} [t : TakeB q Cs S Es] [h : Part Ds Es] : Part (S.at_ q ++ Ds) Cs := ⟨by
  obtain ⟨Fs, h1⟩ := h.part
  exact ⟨Fs, t.perm.trans (by rw [List.append_assoc]; exact h1.append_left _)⟩⟩
instance (priority := low) Part.skipB {q : Addr} {S : BagS} {Cs Ds : Cells} [h : Part Ds Cs] : Part Ds (S.at_ q ++ Cs) := ⟨by
  obtain ⟨Fs, h1⟩ := h.part
  exact ⟨S.at_ q ++ Fs, (h1.append_left _).trans (by rw [← List.append_assoc, ← List.append_assoc]; exact (List.perm_append_comm).append_right _)⟩⟩
section
variable {p : Addr} {l t b v : W}
theorem bag_great : valW (bagD p l t b) (.inr "great") = some (.ref p) := by kernel_rfl
theorem bag_left : valW (bagD p l t b) (.inr "left") = some l := by kernel_rfl
theorem bag_turn : valW (bagD p l t b) (.inr "turn") = some t := by kernel_rfl
theorem bag_blend : valW (bagD p l t b) (.inr "blend") = some b := by kernel_rfl
theorem bag_pleft : putW (bagD p l t b) (.inr "left") v = bagD p v t b := by kernel_rfl
theorem bag_pturn : putW (bagD p l t b) (.inr "turn") v = bagD p l v b := by kernel_rfl
theorem bag_new : mergeW [] (bagD p l t b) = bagD p l t b := by kernel_rfl
end
section
variable {a : Addr} {Cs Ds : Cells}
theorem dput_i {kvs kvs' : List (Key × W)} {k : Key} {y v : W} {Q : Cells → Prop} [t : Take a Cs (.dic kvs) Ds] (hy : y = kW k) (hz : kvs.length < 100000) (e : putW kvs k v = kvs') (q : Q ((a, .dic kvs') :: Ds)) : dputQ (.ref a) y v Cs Q := ⟨a, kvs, k, Ds, rfl, t.perm, hy, hz, by rw [e]; exact q⟩
/-- d[y] += an int -/
theorem daug_i {kvs kvs' : List (Key × W)} {k : Key} {y : W} {i j : Int} {D : EndsW} {ρ : Rho} {td ty tv : ME} [t : Take a Cs (.dic kvs) Ds] [h : At a Cs (.dic kvs)] (e1 : ∀ E Q, Q (.ref a) Cs → td E ρ Cs Q) (e2 : ∀ E Q, Q y Cs → ty E ρ Cs Q) (e3 : ∀ E Q, Q (.int j) Cs → tv E ρ Cs Q) (hy : y = kW k) (hv : valW kvs k = some (.int i))
    (hz : kvs.length < 100000) (e : putW kvs k (.int (i + j)) = kvs') (q : D.nx ρ ((a, .dic kvs') :: Ds)) : sDAugW qAdd td ty tv D ρ Cs :=
  e1 _ _ (e2 _ _ ⟨a, kvs, k, _, rfl, h.mem, hy, hv, e3 _ _ ⟨i, j, rfl, rfl, kvs, Ds, t.perm, hz, by rw [e]; exact q⟩⟩)
end
end SL
/-! ### origins (points 4 to 6, 9): plainly -/
namespace SL
open PySem PySem.Spec PyProof.Rows L2
section
variable {F : Go → Go} {lst : Int → Option Int}
/-- what one list does to goals -/
def Fkind (F : Go → Go) : Prop := (∀ g g', F g = F g') ∨ (∀ g, F g = g) ∨ ∃ a b c : Int, 0 ≤ a ∧ a ≤ b ∧ F none = some b ∧ ∀ x : Int, 0 ≤ x → F (some x) = some (max a (min b (x + c)))
theorem fkind {L : Int → Int} (hL : ∀ o, 0 ≤ L o) {cs : List Cmd} (hc : okM cs) : Fkind fun g => rnG L 0 g cs := by
  by_cases h : ∃ c, c ∈ cs ∧ c.isAl = true
  · exact .inl fun g g' => rnG_al cs 0 g g' h
  · have h2 : ∀ c, c ∈ cs → c.isAl = false := fun c hc => by
      cases e : c.isAl with
      | false => rfl
      | true => exact absurd ⟨c, hc, e⟩ h
    rcases rnG_clamp hL cs hc h2 with ⟨_, _, i⟩ | ⟨_, a, b, i1, i2, i3, i4⟩
    · exact .inr (.inl i)
    · exact .inr (.inr ⟨a, b, chg cs, i1, i2, i3, i4⟩)
/-- least starts -/
structure LstOk (F : Go → Go) (lst : Int → Option Int) : Prop where
  iff : ∀ (v : Int) (g : Go), 0 ≤ v → g0 g → (gge v (F g) ↔ ∃ s, lst v = some s ∧ gge s g)
  s0 : ∀ v s, 0 ≤ v → lst v = some s → 0 ≤ s
/-- what origins returns -/
def orO (F : Go → Go) (lst : Int → Option Int) : Go → Option (Go × Go)
  | none => if F (some 0) = none then some (some 0, none) else if F none = none then some (none, none) else none
  | some v => match lst v with
    | none => none
    | some s => if lst (v + 1) = some s then none else some (some s, (lst (v + 1)).map (· - 1))
def orA : Go → Option (Go × Go)
  | none => some (some 0, none)
  | some _ => none
def orB : Go → Option (Go × Go)
  | none => some (none, none)
  | some v => some (some v, some v)
theorem lst_at (h : LstOk F lst) {v s : Int} (hv : 0 ≤ v) (e : lst v = some s) : ∀ x : Int, 0 ≤ x → (gge v (F (some x)) ↔ s ≤ x) := fun x hx => by
  rw [h.iff v (some x) hv hx]
  exact ⟨fun ⟨t, e2, g⟩ => by rw [e] at e2; cases e2; exact g, fun g => ⟨s, e, g⟩⟩
theorem lst_no (h : LstOk F lst) {v : Int} (hv : 0 ≤ v) (e : lst v = none) : ∀ g, g0 g → ¬ gge v (F g) := fun g hg q => by
  obtain ⟨s, e2, _⟩ := (h.iff v g hv hg).mp q
  rw [e] at e2; cases e2
theorem lst_some (h : LstOk F lst) {v : Int} (hv : 0 ≤ v) {g : Go} (hg : g0 g) (q : gge v (F g)) : ∃ s, lst v = some s ∧ gge s g := (h.iff v g hv hg).mp q
theorem or_law (k : Fkind F) (h : LstOk F lst) (hF0 : ∀ g, g0 g → g0 (F g)) (aim : Go) (ha : g0 aim) :
    (F (some 0) = none → orO F lst aim = orA aim) ∧
    (F (some 0) ≠ none → F none = none → orO F lst aim = orB aim) ∧
    (∀ first last : Int, F (some 0) = some first → F none = some last → (aim = none → orO F lst aim = none) ∧ ∀ v, aim = some v →
      (¬ (first ≤ v ∧ v ≤ last) → orO F lst aim = none) ∧
      (first ≤ v → v ≤ last → ∃ (low : Int) (high : Go), orO F lst aim = some (some low, high) ∧ 0 ≤ low ∧ F (some low) = some v ∧ g0 high ∧ F high = some v ∧ (0 < low → F (some (low - 1)) ≠ some v) ∧ ∀ x, high = some x → F (some (x + 1)) ≠ some v)) := by
  have z0 : g0 (some 0) := Int.le_refl (0 : Int)
  refine ⟨fun e => ?_, fun e1 e2 => ?_, fun first last e1 e2 => ⟨fun e => ?_, fun v e => ⟨fun n => ?_, fun n1 n2 => ?_⟩⟩⟩
  · cases aim with
    | none => unfold orO; dsimp only; rw [if_pos e]; rfl
    | some v =>
      have ha : (0 : Int) ≤ v := ha
      obtain ⟨s, hs, g1⟩ := lst_some h ha z0 (by rw [e]; trivial)
      obtain ⟨t, ht, g2⟩ := lst_some h (show (0 : Int) ≤ v + 1 by omega) z0 (by rw [e]; trivial)
      have s1 := h.s0 _ _ ha hs
      have t1 := h.s0 _ _ (show (0 : Int) ≤ v + 1 by omega) ht
      have g1 : s ≤ 0 := g1
      have g2 : t ≤ 0 := g2
      unfold orO
      dsimp only
      rw [hs, ht]
      dsimp only
      rw [if_pos (by rw [show t = s by omega])]
      rfl
  · cases aim with
    | none => unfold orO; dsimp only; rw [if_neg e1, if_pos e2]; rfl
    | some v =>
      have ha : (0 : Int) ≤ v := ha
      have id : ∀ g, F g = g := by
        rcases k with k | k | ⟨a, b, c, _, _, k, _⟩
        · exact absurd ((k (some 0) none).trans e2) e1
        · exact k
        · rw [e2] at k; cases k
      have lv : ∀ u : Int, 0 ≤ u → lst u = some u := fun u hu => by
        obtain ⟨s, hs, g1⟩ := lst_some h hu (g := some u) hu (by rw [id]; exact Int.le_refl u)
        have s1 := h.s0 _ _ hu hs
        have := (lst_at h hu hs s s1).mpr (Int.le_refl s)
        rw [id] at this
        have this : u ≤ s := this
        have g1 : s ≤ u := g1
        rw [hs, show s = u by omega]
      unfold orO
      dsimp only
      rw [lv v ha, lv (v + 1) (by omega)]
      dsimp only
      rw [if_neg (by intro q; have := Option.some.inj q; omega)]
      show some (some v, some (v + 1 - 1)) = _
      rw [show v + 1 - 1 = v by omega]
      rfl
  · subst e
    unfold orO
    dsimp only
    rw [if_neg (by rw [e1]; exact fun q => nomatch q), if_neg (by rw [e2]; exact fun q => nomatch q)]
  · subst e
    have ha : (0 : Int) ≤ v := ha
    unfold orO
    dsimp only
    cases hs : lst v with
    | none => rfl
    | some s =>
      dsimp only
      by_cases hl : v ≤ last
      · have hf : v + 1 ≤ first := by omega
        obtain ⟨t, ht, g2⟩ := lst_some h (show (0 : Int) ≤ v + 1 by omega) z0 (by rw [e1]; exact hf)
        have t1 := h.s0 _ _ (show (0 : Int) ≤ v + 1 by omega) ht
        have s1 := h.s0 _ _ ha hs
        have g2 : t ≤ 0 := g2
        have g3 := (lst_at h ha hs 0 (Int.le_refl 0)).mp (by rw [e1]; show v ≤ first; omega)
        rw [if_pos (by rw [ht, show t = s by omega])]
      · exfalso
        have := (h.iff v none ha trivial).mpr ⟨s, hs, trivial⟩
        rw [e2] at this
        exact hl this
  · subst e
    have ha : (0 : Int) ≤ v := ha
    have ha1 : (0 : Int) ≤ v + 1 := by omega
    obtain ⟨s, hs, _⟩ := lst_some h ha (g := none) trivial (by rw [e2]; exact n2)
    have s1 := h.s0 _ _ ha hs
    have at1 := lst_at h ha hs
    -- the least start leads to the goal itself
    have step : ∀ x : Int, 0 ≤ x → ∀ y z, F (some x) = some y → F (some (x + 1)) = some z → z ≤ y + 1 := fun x hx y z q1 q2 => by
      rcases k with k | k | ⟨a, b, c, k1, k2, k3, k4⟩
      · rw [k (some (x + 1)) (some x), q1] at q2; cases q2; omega
      · rw [k] at q1 q2; cases q1; cases q2; omega
      · rw [k4 x hx] at q1; rw [k4 (x + 1) (by omega)] at q2; cases q1; cases q2; omega
    have val : ∀ x : Int, 0 ≤ x → ∃ y, F (some x) = some y := fun x hx => by
      rcases k with k | k | ⟨a, b, c, k1, k2, k3, k4⟩
      · exact ⟨first, by rw [k (some x) (some 0)]; exact e1⟩
      · exact ⟨x, k _⟩
      · exact ⟨_, k4 x hx⟩
    have hlow : F (some s) = some v := by
      obtain ⟨y, hy⟩ := val s s1
      have g1 := (at1 s s1).mpr (Int.le_refl s)
      rw [hy] at g1
      have g1 : v ≤ y := g1
      by_cases h0 : s = 0
      · rw [h0, e1] at hy
        cases hy
        rw [h0, e1]
        congr 1; omega
      · obtain ⟨z, hz⟩ := val (s - 1) (by omega)
        have g2 : ¬ v ≤ z := fun q => by
          have := (at1 (s - 1) (by omega)).mp (by rw [hz]; exact q)
          omega
        have := step (s - 1) (by omega) z y hz (by rw [show s - 1 + 1 = s by omega]; exact hy)
        rw [hy]
        congr 1; omega
    have hne : lst (v + 1) ≠ some s := fun q => by
      have := (lst_at h ha1 q s s1).mpr (Int.le_refl s)
      rw [hlow] at this
      have this : v + 1 ≤ v := this
      omega
    refine ⟨s, (lst (v + 1)).map (· - 1), ?_, s1, hlow, ?_, ?_, fun h0 q => ?_, fun x hx q => ?_⟩
    · unfold orO
      dsimp only
      rw [hs]
      dsimp only
      rw [if_neg hne]
    · cases ht : lst (v + 1) with
      | none => trivial
      | some t =>
        have t1 := h.s0 _ _ ha1 ht
        have g1 := (lst_at h ha1 ht t t1).mpr (Int.le_refl t)
        have : s ≤ t := (at1 t t1).mp (by
          obtain ⟨y, hy⟩ := val t t1
          rw [hy] at g1 ⊢
          have g1 : v + 1 ≤ y := g1
          show v ≤ y
          omega)
        have : s ≠ t := fun q => hne (by rw [ht, q])
        show (0 : Int) ≤ t - 1
        omega
    · cases ht : lst (v + 1) with
      | none =>
        have := lst_no h ha1 ht none trivial
        rw [e2] at this
        have this : ¬ v + 1 ≤ last := this
        show F none = some v
        rw [e2]
        congr 1; omega
      | some t =>
        have t1 := h.s0 _ _ ha1 ht
        have g1 := (lst_at h ha1 ht t t1).mpr (Int.le_refl t)
        have st : s ≤ t := (at1 t t1).mp (by
          obtain ⟨y, hy⟩ := val t t1
          rw [hy] at g1 ⊢
          have g1 : v + 1 ≤ y := g1
          show v ≤ y
          omega)
        have : s ≠ t := fun q => hne (by rw [ht, q])
        obtain ⟨y, hy⟩ := val (t - 1) (by omega)
        have b1 := (at1 (t - 1) (by omega)).mpr (by omega)
        rw [hy] at b1
        have b1 : v ≤ y := b1
        have b2 : ¬ v + 1 ≤ y := fun q => by
          have := (lst_at h ha1 ht (t - 1) (by omega)).mp (by rw [hy]; exact q)
          omega
        show F (some (t - 1)) = some v
        rw [hy]
        congr 1; omega
    · have := (at1 (s - 1) (by omega)).mp (by rw [q]; exact Int.le_refl v)
      omega
    · cases ht : lst (v + 1) with
      | none => rw [ht] at hx; cases hx
      | some t =>
        rw [ht] at hx
        cases hx
        have t1 := h.s0 _ _ ha1 ht
        have g1 := (lst_at h ha1 ht t t1).mpr (Int.le_refl t)
        have q : F (some (t - 1 + 1)) = some v := q
        rw [show t - 1 + 1 = t by omega] at q
        rw [q] at g1
        have g1 : v + 1 ≤ v := g1
        omega
end
/-- the least start, by the box -/
def lstB (L : Int → Int) (cs : List Cmd) (v : Int) : Option Int :=
  if v = 0 then some 0 else match boxO cs v with
  | none => none
  | some (s, ls) => if (ls.all fun q => decide (q.2 ≤ L q.1)) = true then some (s.getD 0) else none
theorem lstB_ok {L : Int → Int} (hL : ∀ o, 0 ≤ L o) {cs : List Cmd} (hc : okM cs) : LstOk (fun g => rnG L 0 g cs) (lstB L cs) := by
  refine ⟨fun v g hv hg => ?_, fun v s hv e => ?_⟩
  · unfold lstB
    by_cases h0 : v = 0
    · rw [if_pos h0]
      subst h0
      exact ⟨fun _ => ⟨0, rfl, hg⟩, fun _ => rnG_0 hL cs 0 g hg hc⟩
    · rw [if_neg h0]
      have hv1 : 1 ≤ v := by omega
      have hb := box_iff hL hv1 (o := 0) (g := g) hc hg
      have ok := boxO_ok hc hv1
      rw [hb]
      show hold L g (boxO cs v) ↔ _
      cases e : boxO cs v with
      | none => exact ⟨fun h => h.elim, fun ⟨s, q, _⟩ => nomatch q⟩
      | some q =>
        obtain ⟨s, ls⟩ := q
        rw [e] at ok
        have nd := ok.nd _ _ rfl
        have ge := ok.ge _ _ rfl
        have hall : (ls.all fun q => decide (q.2 ≤ L q.1)) = true ↔ ∀ p, lg0 ls p ≤ L p := by
          rw [List.all_eq_true]
          constructor
          · intro h p
            unfold lg0
            cases el : lgt ls p with
            | none => exact hL p
            | some x =>
              have := h _ ((lgt_mem nd).mp el)
              simpa using this
          · intro h q hq
            have := h q.1
            unfold lg0 at this
            rw [(lgt_mem nd).mpr hq] at this
            simpa using this
        dsimp only
        have sg : (∀ m, s = some m → gge m g) ↔ gge (s.getD 0) g := by
          cases s with
          | none => exact ⟨fun _ => hg, fun _ m e => nomatch e⟩
          | some m => exact ⟨fun h => h m rfl, fun h k e => by cases e; exact h⟩
        by_cases ha : (ls.all fun q => decide (q.2 ≤ L q.1)) = true
        · rw [if_pos ha]
          exact ⟨fun h => ⟨_, rfl, sg.mp h.1⟩, fun ⟨t, et, ht⟩ => by cases et; exact ⟨sg.mpr ht, hall.mp ha⟩⟩
        · rw [if_neg ha]
          exact ⟨fun h => absurd (hall.mpr h.2) ha, fun ⟨t, et, _⟩ => nomatch et⟩
  · unfold lstB at e
    by_cases h0 : v = 0
    · rw [if_pos h0] at e; cases e; exact Int.le_refl 0
    · rw [if_neg h0] at e
      have ok := boxO_ok hc (show 1 ≤ v by omega)
      cases e2 : boxO cs v with
      | none => rw [e2] at e; cases e
      | some q =>
        obtain ⟨t, ls⟩ := q
        rw [e2] at e ok
        dsimp only at e
        split at e
        · cases e
          cases t with
          | none => exact Int.le_refl 0
          | some m => have := ok.s _ _ rfl m rfl; show (0 : Int) ≤ m; omega
        · cases e
/-! ### range with a step -/
section
variable {K : PySem.W.Frag} {H : Hp}
theorem walk_c {lo c : Int} {n : Nat} : WalkW K H (Itc lo c n) ⟨n, fun _ => True, fun i w => w = .int (lo + (i : Nat) * c)⟩ := ⟨fun i H Cs _ hi _ _ => hi, fun _ _ _ _ _ => Nat.le_refl _, fun i H x H' Cs _ hi R h y => by
    obtain ⟨e, y⟩ := y
    subst e y
    exact ⟨Tr.refl _, fun _ q => q, _, rfl, rep_int.mpr rfl⟩⟩
end
def iRg3 (t : MA) : MI := fun E ρ Cs Q => t E ρ Cs fun xs C => ∃ (i j c : Int) (n : Nat), xs = [.int i, .int j, .int c] ∧ RgC i j c n ∧ Q ⟨n, fun _ => True, fun m w => w = .int (i + (m : Nat) * c)⟩ C
section
variable {X : Cx} {a b c : Expr} {p pos : Pos} {tg : Expr} {ta : MA}
theorem qi_range3 (hg : Gl X "range") (hm : X.mg "range" = none) (ha : QA X [a, b, c] ta) (hs : starEach [a, b, c] X.env = (false, eval a X.env) :: starEach [b, c] X.env := by rfl) (hpl : (backTo pos (starEach [b, c] X.env)).any (·.1) = false := by rfl) : QI X tg (.Call (.Name "range" p) [a, b, c] [] pos) (iRg3 ta) := fun Wx tk =>
  pi_imp (pi_range3 hg hm (ha Wx tk) hs hpl) fun σ H R' ⟨ρ, Cs, E, Q, R, C, h, kQ, kE⟩ => ⟨ρ, Cs, E, _, R, C, h, fun xs C1 vs H1 q tr rc rp => by
    obtain ⟨i, j, c, n, rfl, hr, q⟩ := q
    obtain ⟨x, r, rfl, r1, r2⟩ := reps_cons.mp rp
    obtain ⟨y, r', rfl, r3, r4⟩ := reps_cons.mp r2
    obtain ⟨z, r'', rfl, r5, r6⟩ := reps_cons.mp r4
    obtain rfl := reps_nil.mp r6
    obtain rfl := rep_int.mp r1
    obtain rfl := rep_int.mp r3
    obtain rfl := rep_int.mp r5
    exact ⟨i, j, c, n, rfl, hr, kQ _ C1 H1 _ q tr rc walk_c⟩, kE⟩
end
theorem rg20 (n : Nat) (h : n ≤ 100000) : RgC 0 n 20 ((n + 19) / 20) := by
  have hs : Builtin.Range.rangeSize 0 n 20 = (((n + 19) / 20 : Nat) : Int) := by
    unfold Builtin.Range.rangeSize
    rw [if_pos (by decide)]
    split
    · omega
    · omega
  have fit : ∀ x : Int, -1000000 ≤ x → x ≤ 1000000 → Builtin.Range.rangeFitsLong x = true := fun x h1 h2 => by
    unfold Builtin.Range.rangeFitsLong
    rw [Bool.and_eq_true]
    exact ⟨decide_eq_true (by omega), decide_eq_true (by omega)⟩
  refine ⟨by decide, by decide, ?_, hs⟩
  unfold Builtin.Range.small
  rw [hs, fit 0 (by decide) (by decide), fit n (by omega) (by omega), fit 20 (by decide) (by decide), fit _ (by omega) (by omega), if_pos (by decide), fit _ (by omega) (by omega)]
  simp
end SL
namespace SL
open PySem PySem.Spec PyProof.Rows L2
/-! ### a or b, where a is no bool -/
def truW : W → Option Bool
  | .non => some false
  | .bl b => some b
  | .int i => some (i != 0)
  | _ => none
def mOrT (t u : ME) : ME := fun E ρ Cs Q => t E ρ Cs fun w C => ∃ b, truW w = some b ∧ (b = true → Q w C) ∧ (b = false → u E ρ C Q)
section
variable {X : Cx} {a b : Expr} {rest : List Expr} {ta tb : ME} {pos : Pos}
theorem tru_rep {K : PySem.W.Frag} {H : Hp} {w : W} {v : V} {k : Bool} (h : truW w = some k) (r : rep K H w v) : TruV K v H k := by
  cases w with
  | non => cases h; obtain rfl := rep_non.mp r; exact rfl
  | bl c => cases h; obtain rfl := rep_bl.mp r; exact rfl
  | int i => cases h; obtain rfl := rep_int.mp r; exact rfl
  | _ => cases h
theorem qe_orT (ha : QE X a ta) (hb : QE X (.BoolOp .Or (b :: rest) pos) tb) : QE X (.BoolOp .Or (a :: b :: rest) pos) (mOrT ta tb) := fun Wx tk => pe_imp (pe_orT (ha Wx tk) (hb Wx tk)) fun σ H Q' ⟨ρ, Cs, E, Q, R, C, h, kQ, kE⟩ => ⟨ρ, Cs, E, _, R, C, h, fun w C1 v H1 hw tr rc rp => by
  obtain ⟨k, e, h1, h2⟩ := hw
  refine ⟨k, tru_rep e rp, ?_⟩
  cases k with
  | true =>
    rw [if_pos rfl]
    exact kQ _ C1 _ H1 (h1 rfl) tr rc rp
  | false =>
    rw [if_neg Bool.false_ne_true]
    exact ⟨ρ, C1, E, Q, R.mono tr, rc, h2 rfl, Fin.mono kQ tr, kE.mono tr⟩, kE⟩
end
end SL
/-! ### counting texts (points 4 to 7, 9): plainly -/
namespace SL
open PySem PySem.Spec PyProof.Rows L2
def prodI (ns : List Int) : Int := ns.foldl (· * ·) 1
theorem prodI_snoc (ns : List Int) (n : Int) : prodI (ns ++ [n]) = prodI ns * n := by
  unfold prodI
  rw [List.foldl_append]
  rfl
theorem prodI_bd (ns : List Int) (h : ∀ n, n ∈ ns → 0 ≤ n ∧ n < 2 ^ 104) : 0 ≤ prodI ns ∧ prodI ns < 2 ^ (104 * ns.length + 1) := by
  induction ns using snocInd with
  | nil => exact ⟨by decide, by decide⟩
  | snoc ns n ih =>
    obtain ⟨i1, i2⟩ := ih fun m hm => h m (List.mem_append_left _ hm)
    obtain ⟨h1, h2⟩ := h n (List.mem_append_right _ (List.mem_singleton.mpr rfl))
    rw [prodI_snoc]
    refine ⟨Int.mul_nonneg i1 h1, ?_⟩
    rw [List.length_append, List.length_singleton, show 104 * (ns.length + 1) + 1 = (104 * ns.length + 1) + 104 by omega, Int.pow_add]
    have p1 : (0 : Int) < 2 ^ (104 * ns.length + 1) := Int.pow_pos (by decide)
    by_cases hz : n = 0
    · subst hz
      rw [Int.mul_zero]
      exact Int.mul_pos p1 (by decide)
    · exact Int.lt_of_lt_of_le (Int.mul_lt_mul_of_pos_right i2 (by omega)) (Int.mul_le_mul_of_nonneg_left (by omega) (by omega))
/-- the lengths of a line that a box allows -/
def cLine (m : Int) (ls : Lns) (p : Int) : Int := max 0 (m + 1 - lg0 ls p)
/-- the number of texts on which a goal is reached -/
def cAt (lines : Nat) (m row : Int) (g : Go) (cs : List Cmd) (v : Int) : Int :=
  if v < 1 then prodI (List.replicate lines (m + 1)) else match boxO cs v with
  | none => 0
  | some (s, ls) => if gge (s.getD 0) g then prodI ((List.range lines).map fun i => cLine m ls ((i : Nat) - row)) else 0
theorem lg0_nil (p : Int) : lg0 [] p = 0 := rfl
theorem lgt_snoc {ls : Lns} {o b : Int} (h : lgt ls o = none) (p : Int) : lgt (ls ++ [(o, b)]) p = if p = o then some b else lgt ls p := by
  unfold lgt at h ⊢
  rw [List.find?_append]
  by_cases e : p = o
  · subst e
    rw [if_pos rfl]
    cases e2 : ls.find? (fun q => decide (q.1 = p)) with
    | none => simp
    | some q => rw [e2] at h; cases h
  · rw [if_neg e]
    cases e2 : ls.find? (fun q => decide (q.1 = p)) with
    | none => simp [Ne.symm e]
    | some q => rfl
theorem cLine_set {lines : Nat} {m row : Int} {ls : Lns} {o b : Int} (h : lgt ls o = none) (h0 : 0 ≤ row + o) (h1 : row + o < lines) :
    ((List.range lines).map fun i => cLine m ls ((i : Nat) - row)).set (row + o).toNat (max 0 (m + 1 - b)) = (List.range lines).map fun i => cLine m (ls ++ [(o, b)]) ((i : Nat) - row) := by
  refine List.ext_getElem (by simp) fun i h2 h3 => ?_
  rw [List.getElem_set, List.getElem_map, List.getElem_map, List.getElem_range]
  have hs := lgt_snoc (ls := ls) (b := b) h ((i : Int) - row)
  by_cases e : (row + o).toNat = i
  · rw [if_pos e]
    unfold cLine lg0
    rw [hs, if_pos (by omega)]
    rfl
  · rw [if_neg e]
    unfold cLine lg0
    rw [hs, if_neg (by omega)]
/-- how many texts lead to a goal -/
def cntO (lines : Nat) (m row : Int) (g : Go) (cs : List Cmd) (goal : Go) : Int :=
  if 0 ≤ row + lo cs ∧ row + hi cs < lines then
    (if rnG (fun _ => 0) 0 g cs = none then (if goal = none then cAt lines m row g cs 0 else 0)
    else match goal with
      | none => 0
      | some v => cAt lines m row g cs v - cAt lines m row g cs (v + 1))
  else 0
end SL
/-! ### repr of an int of up to 12900 bits -/
namespace SL
open PySem PySem.Spec PyProof.Rows L2
open Builtin Builtin.Str Builtin.Int
section
variable {M : Model} {A : Around} {E : Value → Shared → Prop} {s : Shared} {K : PySem.W.Frag}
theorem over_K {a : Int} {Q : Option Nat → Shared → Prop} (x : K.In s.heap) (e : PySem.W.nsIn K cStatics "sys.int_max_str_digits" = some none) (h : a.natAbs.log2 < 12900) (q : Q none s) : wpAny M A (Builtin.overDigitLimit? a) Q E s := by
  unfold Builtin.overDigitLimit?
  by_cases hs : a.natAbs.log2 < 1920
  · rw [if_pos hs]
    exact wpAny_pure q
  · rw [if_neg hs]
    unfold Builtin.intMaxStrDigits
    refine wpAny_bind (wpAny_bind (PySem.W.looks_nsIn x e A _ _ s (fun _ _ z => z) ?_))
    refine wpAny_pure ?_
    dsimp only
    rw [if_neg (by omega), if_pos (by have : a.natAbs.log2 < 3 * 4300 := by omega
                                      simp [this])]
    exact wpAny_pure q
end
section
variable {prog : Program} {w : World} {A : Around} {E : Value → Shared → Prop} {s : Shared} {K : PySem.W.Frag}
theorem repr_int_K {a : Int} {t : Tok} {Q : Value → Shared → Prop} (x : K.In s.heap) (e : PySem.W.nsIn K cStatics "sys.int_max_str_digits" = some none) (ha : a.natAbs.log2 < 12900) (h : Q (.str (toString a) s.toks) { s with toks := s.toks + 1 }) :
    wpAny (model prog w) A (call (.builtin "repr") [.int a t]) Q E s := by
  refine Calls.call_function_entry F.kind_repr F.plain_repr F.entry_repr (F.args_repr1 _) ?_
  unfold Builtin.«repr»
  refine wpAny_bind (m := oneArg "repr" _) (wpAny_pure ?_)
  simp only [cRoomFor, show [(Value.int a t)].any Value.onHeap = false from rfl, Bool.false_eq_true, if_false, pure_bind]
  refine wpAny_bind (wpAny_specialOf (name := Str.ofString "__repr__") (typeIs_int s a t) F.slot_int_repr.lookup ?_)
  refine wpAny_bind (m := callSpecialIfBound? (.int a t) (Str.ofString "__repr__")) (wpAny_callSpecialIfBound?_slot (name := Str.ofString "__repr__") (typeIs_int s a t) F.slot_int_repr ?_)
  refine call_givesAt (P := fun s => K.In s.heap) (m := .str (toString a)) F.slot_int_repr (typeIs_int s a t) F.entry_int_repr (F.args_int_repr_1 _) (fun prog w A R s hx hq => ?_) x ⟨?_, ?_⟩
  · unfold Builtin.«int.__repr__»
    show wpAny _ _ (do let r ← Builtin.overDigitLimit? a; _) _ _ s
    refine wpAny_bind (over_K hx e ha ?_)
    exact wpAny_bind (wpAny_mkStr (wpAny_pure hq.2) hq.1)
  · have e := int_text_length_le (k := 12900) (by decide) ha
    rw [PySem.ofString_length, sizeLine_eq]; omega
  · refine wpAny_bind (wpAny_isInstance (T := "str") (b := true) rfl isSubtype_str_str ?_)
    exact wpAny_pure ⟨_, rfl, h⟩
end
def rReprB (K : PySem.W.Frag) : List V → Hp → VK → Prop := fun vs H Q => rReprU K vs H Q ∨ ∃ i, vs = [.int i] ∧ i.natAbs.log2 < 12900 ∧ Q (.str (toString i)) H
def uReprB : RWL
  | [.int i], Cs, Q => i.natAbs.log2 < 12900 ∧ Q (.str (toString i)) Cs
  | xs, Cs, Q => uRepr xs Cs Q
section
variable {X : Cx} {K : PySem.W.Frag}
theorem call_reprB (e : PySem.W.nsIn X.K cStatics "sys.int_max_str_digits" = some none) (hg : X.A.guards = some []) (hu : X.A.units + 64 < PySem.cLine) : CallR X (.builtin "repr") (rReprB X.K) := by
  intro pins s σ H xs us Q I r h
  rcases h with h | ⟨i, rfl, hi, q⟩
  · exact call_reprU hg hu pins s σ H xs us Q I r h
  · obtain ⟨u, rfl, t, rfl⟩ := vals1 r
    exact repr_int_K I.kIn e hi ⟨.str _, H, I.tok _, ⟨_, rfl⟩, q⟩
theorem lk_reprB : LkL K (rReprB K) uReprB := fun xs vs H Cs Q Q' h rc rx k => by
  unfold uReprB at h
  split at h
  · obtain ⟨v, rfl, r⟩ := one_rep rx
    obtain rfl := rep_int.mp r
    exact .inr ⟨_, rfl, h.1, k.here h.2 rc (rep_str.mpr rfl)⟩
  · exact .inl (lk_reprU _ vs H Cs Q Q' h rc rx k)
theorem reprB_i {i : Int} {n : Nat} {C : Cells} {Q : WK} (h0 : -(2 ^ n) < i) (h1 : i < 2 ^ n) (hn : n ≤ 12900) (q : Q (.str (toString i)) C) : uReprB [.int i] C Q := by
  refine ⟨?_, q⟩
  have hp : (2 : Int) ^ n = ((2 ^ n : Nat) : Int) := by simp
  have hb : i.natAbs < 2 ^ n := by omega
  by_cases hz : i.natAbs = 0
  · rw [hz]; decide
  · exact Nat.lt_of_lt_of_le ((Nat.log2_lt hz).mpr hb) hn
end
/-! ### a, b, c = x, y, z -/
def sPar3 (i j l : Nat) (t : MA) : MS := fun D ρ Cs => t (fun C w Cs => D.ex C w ρ Cs) ρ Cs fun ws C => ∃ u v w, ws = [u, v, w] ∧ D.nx (((ρ.put i u).put j v).put l w) C
theorem qs_par3 {X : Cx} {a b c : Expr} {pos : Pos} (i j l : Nat) {x y z : Str} {px py pz pt : Pos} {kt k2 pt2} {t : MA} (hc : X.calm = true) (hN : X.N.Nodup) (ha : QA X [a, b, c] t) (hw : swappedStores [.Tuple [.Name x px, .Name y py, .Name z pz] kt pt] (.Tuple [a, b, c] k2 pt2) X.env = pure (some [x, y, z]) := by rfl)
    (hi : X.N[i]? = some x := by rfl) (hj : X.N[j]? = some y := by rfl) (hl : X.N[l]? = some z := by rfl) (hij : i ≠ j := by decide) (hil : i ≠ l := by decide) (hjl : j ≠ l := by decide) (hx : X.env.scope.names.lookup x = some .local := by rfl) (hy : X.env.scope.names.lookup y = some .local := by rfl) (hz : X.env.scope.names.lookup z = some .local := by rfl)
    (hs : swapsWithSole [.Tuple [.Name x px, .Name y py, .Name z pz] kt pt] (.Tuple [a, b, c] k2 pt2) pos.line X.env = pure false := by rfl) :
    QS X (.Assign [.Tuple [.Name x px, .Name y py, .Name z pz] kt pt] (.Tuple [a, b, c] k2 pt2) pos) (sPar3 i j l t) := fun Wx tk => ps_imp (ps_par3 hc hN hi hj hl hij hil hjl hx hy hz (ha Wx tk) hw hs) fun D σ H ⟨ρ, Cs, DW, R, C, h, L⟩ =>
  ⟨ρ, Cs, _, _, R, C, h, fun ws C1 vs H1 q tr rc rp => by
    obtain ⟨u, v, w, rfl, q⟩ := q
    obtain ⟨vx, r, rfl, r1, r2⟩ := reps_cons.mp rp
    obtain ⟨vy, r', rfl, r3, r4⟩ := reps_cons.mp r2
    obtain ⟨vz, r'', rfl, r5, r6⟩ := reps_cons.mp r4
    obtain rfl := reps_nil.mp r6
    exact ⟨vx, vy, vz, rfl, L.nx _ C1 _ H1 q tr ((((R.mono tr).set (List.getElem?_eq_some_iff.mp hi).1 r1).set (List.getElem?_eq_some_iff.mp hj).1 r3).set (List.getElem?_eq_some_iff.mp hl).1 r5) rc⟩, L.lnkX R⟩
end SL
namespace SL
open PySem PySem.Spec PyProof.Rows L2
section
variable {prog : Program} {w : World} {A : Around} {E : Value → Shared → Prop} {s : Shared} {K : PySem.W.Frag} {a C t0 : Addr} {oe : Obj} {vs : Array Value} {v : Value} {cd : ClassData}
theorem wp_ck {Q : Unit → Shared → Prop} (X : K.In s.heap) (h : s.heap.get? a = some oe) (hc : oe.cls = .ref C) (hcl : PySem.W.clsIn K C = some cd) (hq : PySem.W.subIn K (.ref C) (.type "ValueError") = some true) (q : Q () s) :
    wpAny (model prog w) A (checkBuiltinCall "ValueError.__init__" { pos := [.ref a, v] }) Q E s := by
  have T := excClass_ValueError
  unfold checkBuiltinCall
  rw [T.initKind, T.initSplit, T.initSig]
  dsimp only
  unfold isInstance
  refine wpAny_bind (wpAny_bind (wpAny_typeOf_ref h ?_))
  rw [hc]
  refine PySem.W.Looks.here (PySem.W.looks_subIn X hq) ?_
  rw [if_neg (by decide)]
  unfold Bind.checkArgs
  simp only [List.map_nil, List.head?_cons, List.isEmpty_nil]
  refine wpAny_bind ?_
  unfold Bind.printed
  rw [if_neg (by decide)]
  unfold Bind.receiverType
  rw [if_neg (by decide)]
  refine wpAny_bind (wpAny_typeOf_ref h ?_)
  rw [hc]
  unfold typeNameWhole
  refine wpAny_bind (wpAny_bind (PySem.W.Looks.here (PySem.W.looks_clsIn X hcl) (wpAny_pure (wpAny_pure ?_))))
  refine wpAny_bind ?_
  rw [if_pos (by decide)]
  refine wpAny_pure ?_
  have hck : ∀ full : String, Bind.check { machinery := Manifest.Machinery.positional, full := "*", short := "ValueError", receiver := Manifest.Receiver.self, params := [{ name := "args", kind := Manifest.ParamKind.varPos, required := false }] } full "ValueError" (if (Manifest.Receiver.self == Manifest.Receiver.none) = true then [Value.ref a, v].length else [Value.ref a, v].length - 1) [] = pure () := fun full => by rfl
  rw [hck]
  first | exact wpAny_pure q | (unfold Sem.onRaise; exact wpAny_pure q)
theorem wp_vei {Q : Value → Shared → Prop} (X : K.In s.heap) (h : s.heap.get? a = some oe) (hc : oe.cls = .ref C) (hd : oe.data = .fields vs) (h0 : vs[0]? = some (.ref t0)) (hcl : PySem.W.clsIn K C = some cd) (hq : PySem.W.subIn K (.ref C) (.type "ValueError") = some true)
    (q : Q .none { s with heap := (s.heap.push { cls := .type "tuple", data := .seq #[v] }).update a (Obj.mapFields fun x => x.setIfInBounds 0 (.ref s.heap.objs.size)) }) :
    wpAny (model prog w) A (call (.builtin "ValueError.__init__") [.ref a, v]) Q E s := by
  have T := excClass_ValueError
  refine wpAny_call (codeAny_call_builtin (b := Builtin.«BaseException.__init__») T.init.plain T.initEntry (wp_ck X h hc hcl hq ?_))
  unfold Builtin.«BaseException.__init__»
  simp only [List.isEmpty_nil]
  have lt := Heap.lt_size h
  have hp : (s.heap.push { cls := .type "tuple", data := .seq #[v] }).get? a = some oe := Heap.get?_push_of_some _ h
  have hs : 0 < vs.size := (Array.getElem?_eq_some_iff.mp h0).1
  refine wpAny_bind (wpAny_newTuple (wpAny_bind ?_) (by rw [sizeLine_eq]; simp))
  unfold Builtin.BaseException.bexcPut
  refine wpAny_bind (wpAny_field (vs := vs) hp hd h0 (wpAny_bind (wpAny_setField (vs := vs) hp hd hs ?_)))
  refine wpAny_letGo ?_
  exact wpAny_pure q
end
end SL
namespace SL
open PySem PySem.Spec PyProof.Rows L2
section
variable {X : Cx}
def rCinit (K : PySem.W.Frag) : List V → Hp → VK → Prop := fun vs H Q => ∃ (a C : Addr) (v : V) (cd : ClassData), vs = [.ref a, v] ∧ H a = some (exo a C none) ∧ PySem.W.clsIn K C = some cd ∧ PySem.W.subIn K (.ref C) (.type "ValueError") = some true ∧ Q .non H
theorem call_cinit : CallR X (.builtin "ValueError.__init__") (rCinit X.K) := by
  intro pins s σ H xs us Q I r h
  obtain ⟨a, C, v, cd, rfl, e, hcl, hq, q⟩ := h
  cases r with
  | @cons _ u _ us r1 r2 =>
  cases r2 with
  | @cons _ u2 _ us2 r3 r4 =>
  cases r4
  obtain rfl : u = Value.ref a := r1
  have ok := I.hok a _ e
  obtain ⟨⟨t1, g⟩, ob, st⟩ := ok
  refine wp_vei (vs := #[.ref t1, .none, .none, .none, .bool false, .none]) (t0 := t1) I.kIn g rfl rfl rfl hcl hq ?_
  have hE : upd H a (exo a C none) = H := by
    funext b
    by_cases hb : b = a
    · subst hb
      rw [upd_same, e]
    · rw [upd_ne hb]
  have lt := Heap.lt_size g
  have I2 : L2.Inv X pins σ (upd H a (exo a C none)) { s with heap := (s.heap.push { cls := .type "tuple", data := .seq #[u2] }).update a (Obj.mapFields fun x => x.setIfInBounds 0 (.ref s.heap.objs.size)) } := by
    have hp : (s.heap.push { cls := .type "tuple", data := .seq #[u2] }).get? a = some _ := Heap.get?_push_of_some _ g
    have hu := Heap.get?_update_self (Obj.mapFields fun x => x.setIfInBounds 0 (.ref s.heap.objs.size)) hp rfl
    refine Inv.write I (by rw [e]; trivial) (.inl rfl) (fun b u hb k => ?_) ⟨_, hu⟩ ?_
    · rw [Heap.get?_update_ne _ _ _ _ hb]
      exact Heap.get?_push_of_some _ k
    · exact ⟨⟨_, hu⟩, ⟨_, hu⟩, st⟩
  rw [hE] at I2
  exact ⟨.non, H, I2, rfl, q⟩
theorem pe_cinit {x : Str} {B : Addr} {e : Expr} {es : List Expr} {ta : TA} {p1 p2 pos : Pos} {pl : Sem Bool} (hg : Gl X x) (hm : X.mg x = some (.ref B)) (hga : PySem.W.specialIn X.K (.ref B) "__getattribute__" = some (some (.builtin "type.__getattribute__"))) (hri : PySem.W.readsIn X.K B (.type "type") = true)
    (hfc : PySem.W.findCls X.K (.ref B) (.type "type") "__init__" = some (.val (.builtin "ValueError.__init__"))) (ha : PA X (e :: es) ta) (hdb : (x == ("__debug__" : Str)) = false := by decide)
    (he : eval (.Call (.Attribute (.Name x p1) "__init__" p2) (e :: es) [] pos) X.env = (do
      let ov ← eval (.Name x p1) X.env
      standAt p2.atName
      let (f, first) ← holding [ov] (getMethod ov "__init__" pl)
      callWith pos f first (backTo pos (starEach (e :: es) X.env)) (backToKw pos (keywordEach [] X.env))) := by rfl)
    (hs : starEach (e :: es) X.env = (false, eval e X.env) :: starEach es X.env := by rfl) (hpl : (backTo pos (starEach es X.env)).any (·.1) = false := by rfl) :
    PE X (.Call (.Attribute (.Name x p1) "__init__" p2) (e :: es) [] pos) (tCB (rCinit X.K) ta) := ⟨fun pins s σ H Q I h => by
  rw [he]
  refine wpAny_bind (ld_glob I hg hm ?_ hdb)
  refine wpAny_bind (wpAny_standAt ?_)
  refine wpAny_bind (wpAny_holding (PySem.W.method_cls I.kIn hga (PySem.W.cls_value I.kIn hri hfc rfl ?_)))
  refine PyProof.Rows.callWith_method1 (thn (ha.run pos pins _ σ H _ (I.tok _) h) fun us s1 hq => ?_) hs hpl
  obtain ⟨vs, H1, I1, r, q⟩ := hq
  exact call_cinit pins s1 σ H1 vs us Q I1 r q⟩
end
end SL
namespace SL
open PySem PySem.Spec PyProof.Rows L2
/-! ### raise C(v) -/
/-- what an own exception's __init__ leaves: its dict holds the value -/
def spInit (C : Addr) : Sp := fun vs H Q _ => ∃ (a : Addr) (v : V), vs = [.ref a, v] ∧ H a = some (exo a C none) ∧ ∀ dx, H dx = none → dx ≠ a → Q .non (upd (upd H dx (exd dx [(("value" : Str), v)])) a (exo a C (some dx)))
def sRaise (C : Addr) (t : MA) : MS := fun D ρ Cs => t (fun A w Cs => D.ex A w ρ Cs) ρ Cs fun ws C1 => ∃ v, ws = [v] ∧ D.ex C v ρ C1
section
variable {X : Cx} {e : Expr} {es : List Expr} {p pos pos' : Pos} {x : Str} {C fI : Addr} {k : Nat} {fd : FuncData} {ps : List Str} {t : MA}
theorem qs_raise {CX : CXT} (T : OexC X.K C) (iC : PySem.W.findIn X.K (.ref C) "__init__" = some (some (.ref fI))) (tI : PySem.W.typeIn X.K (.ref fI) = some (.type "function")) (F1 : FnOk X.prog X.w X.K X.mg X.base CX k fI fd ps (spInit C))
    (hr : Room (k + 1) X.A) (hb : Binds X.K fd ps []) (hx : Passes CX X (fun _ _ _ => False)) (hc : X.calm = true) (hm : X.mg x = some (.ref C)) (ha : QA X (e :: es) t) (hg : Gl X x := by rfl)
    (hdb : (x == ("__debug__" : Str)) = false := by decide) (he : starEach (e :: es) X.env = (false, eval e X.env) :: starEach es X.env := by rfl) (hpl : (backTo pos (starEach es X.env)).any (·.1) = false := by rfl) :
    QS X (.Raise (some (.Call (.Name x p) (e :: es) [] pos)) none pos') (sRaise C t) := fun Wx tk => ps_imp (ps_raise hc tk (pmk_oex T iC tI F1 hr hb .nil hx hg hm (ha Wx tk) hdb he hpl)) fun D σ H ⟨ρ, Cs, DW, R, Cc, h, L⟩ =>
  ⟨ρ, Cs, _, _, R, Cc, h, fun ws C1 vs H1 ⟨v, e, q⟩ tr rc rp => by
    subst e
    obtain ⟨y, rfl, ry⟩ := one_rep rp
    refine ⟨Nat.le_of_ble_eq_true rfl, fun a na => ⟨a, y, rfl, upd_same, fun dx nd ne => ⟨rfl, dx, [(("value" : Str), y)], upd_same, ?_, ?_, ?_⟩⟩⟩
    · rw [upd_ne ne, upd_same]
    · rw [upd_ne ne] at nd
      exact nd
    · rw [upd_ne ne] at nd
      have e : upd (del (upd (upd (upd H1 a (exo a C none)) dx (exd dx [(("value" : Str), y)])) a (exo a C (some dx))) a) dx (.xd [(("value" : Str), y)]) = upd H1 dx (.xd [(("value" : Str), y)]) := by
        funext b
        by_cases h1 : b = dx
        · subst h1
          rw [upd_same, upd_same]
        · rw [upd_ne h1, upd_ne h1]
          by_cases h2 : b = a
          · subst h2
            rw [na]
            exact if_pos rfl
          · refine (if_neg h2).trans ?_
            rw [upd_ne h2, upd_ne h1, upd_ne h2]
      rw [e]
      have tr2 : Tr X.K H1 (upd H1 dx (.xd [(("value" : Str), y)])) := tr_new nd
      exact L.ex C v ρ C1 σ (some dx) y _ q (tr.trans tr2) (R.mono (tr.trans tr2)) (rc.hid nd) (rep_mono tr2 _ _ ry) ⟨dx, rfl, upd_same⟩, L.lnkX R⟩
end
end SL
namespace SL
open PySem PySem.Spec PyProof.Rows L2
/-! ### try: .. except C as n: .., the caught one a value like any other -/
section
variable {X : Cx} {pins : List (Addr × Obj)} {σ : L2.St} {H : Hp} {s : Shared}
theorem inv_track {a C dx : Addr} {oe : Obj} {vs : Array Value} (I : L2.Inv X pins σ H s) (na : H a = none) (he : s.heap.get? a = some oe) (hc : oe.cls = .ref C) (hd : oe.dict = some dx) (hv : oe.data = .fields vs)
    (n0 : X.s_0.heap.get? a = none) (np : ∀ p ∈ X.pn ++ pins, p.1 ≠ a) (nL : a ≠ X.env.locals) : L2.Inv X pins σ (upd H a (xob a C dx)) s := by
  have old : ∀ {b : Addr} {o : HO}, H b = some o → upd H a (xob a C dx) b = some o := fun {b o} e => by
    rw [upd_ne (fun z => by rw [z, na] at e; cases e)]
    exact e
  refine ⟨I.ok, I.os, I.bare, ⟨I.base.keep, I.base.slot, fun b o e n hx => ?_, I.base.there, fun t xs e => old (I.base.tups t xs e), fun t o g e => old (I.base.frzs t o g e), fun t g e => (I.base.tbls t g e).imp fun more e => old e⟩, I.loc, I.cell, ?_, fun x c e => ?_, fun p hp => ?_, fun b o e => ?_, I.len⟩
  · rw [upd_ne (fun z => by rw [z, n0] at e; cases e)]
    exact I.base.free b o e n hx
  · rw [upd_ne (Ne.symm nL)]
    exact I.free
  · have ne : c ≠ a := fun z => by
      obtain ⟨w, o, ho, hd2⟩ := I.cell x c e
      rw [z, he] at ho
      cases ho
      rw [hv] at hd2
      cases hd2
    rw [upd_ne ne]
    exact I.freeC x c e
  · obtain ⟨e1, e2, e3⟩ := I.pin p hp
    exact ⟨e1, by rw [upd_ne (np p hp)]; exact e2, e3⟩
  · by_cases z : b = a
    · subst z
      rw [upd_same] at e
      cases e
      exact ⟨⟨oe, vs, he, hc, hd, hv⟩, ⟨oe, he⟩, fun h1 h2 ⟨o, vs, g, c, d, f⟩ k => ⟨o, vs, k o g, c, d, f⟩⟩
    · rw [upd_ne z] at e
      exact (I.hok b o e).stay (fun _ _ _ q => q) (fun _ q => old q) fun _ _ q => old q
theorem inv_suite (I : L2.Inv X pins σ H s) (a : Addr) : L2.Inv (X.suite a (X.pn ++ pins)) [] σ H s :=
  ⟨I.ok.suite _ _, I.os, I.bare, I.base, I.loc, I.cell, I.free, I.freeC, fun p hp => I.pin p (by rw [List.append_nil] at hp; exact hp), I.hok, I.len⟩
theorem inv_unsuite {a : Addr} {pn' : List (Addr × Obj)} (I : L2.Inv (X.suite a (X.pn ++ pins)) pn' σ H s) (ok : X.Ok) : L2.Inv X pins σ H s :=
  ⟨ok, I.os, I.bare, I.base, I.loc, I.cell, I.free, I.freeC, fun p hp => I.pin p (List.mem_append_left _ hp), I.hok, I.len⟩
end
/-- what the clause wishes of an exception of the body: slot i is the name's -/
def wExn (K : PySem.W.Frag) (c : Value) (i : Nat) (ts : TS) (Wout : WX) (D : Ends) : WX := fun cls d σ H =>
  ∃ b, PySem.W.exmOne K cls c = some b ∧ (b = true → ∃ C dx, cls = .ref C ∧ d = some dx ∧ ∀ a, H a = none → ts { nx := fun σ' H' => D.nx (σ'.set i none) H', rt := D.rt, bk := fun σ' H' => D.bk (σ'.set i none) H', ct := fun σ' H' => D.ct (σ'.set i none) H' } (σ.set i (some (.ref a))) (upd H a (xob a C dx))) ∧
    (b = false → Wout cls d σ H)
section
variable {X : Cx} {x n : Str} {c : Value} {i : Nat} {body suite : List Stmt} {b₀ : Stmt} {np pos pos' : Pos} {tb : WX → TS} {ts : TS} {Wout : WX}
theorem ps_try_exn (hs : X.stack = X.env :: X.outer) (hf : X.env.frame = some X.env.locals) (hex : X.ex = []) (hN : X.N.Nodup) (hi : X.N[i]? = some n) (hln : X.env.kindOf n = some .local) (hc : Names X x c) (tk : Takes X Wout)
    (hb : ∀ (W : WX) (pn : List (Addr × Obj)) (xe : Value → Shared → Prop), Takes (X.tr pn xe) W → PassesOwn (model X.prog X.w) X.A X.env xe → PSs (X.tr pn xe) body (tb W))
    (hsu : ∀ (a : Addr) (pn : List (Addr × Obj)), PSs (X.suite a pn) (b₀ :: suite) ts) :
    L2.PS X (.Try body [.ExceptHandler (some (.Name x np)) (some n) (b₀ :: suite) pos'] [] [] pos) (fun D σ H => tb (wExn X.K c i ts Wout D) D σ H) := by
  refine ⟨fun pins s σ H D I h => ?_⟩
  have ok := I.ok
  have hfr : X.A.frames = some (X.env :: X.outer) := by rw [ok.frames, hs]
  have hloc : Loc X.env.scope n := .inl hln
  refine wpAny_Try_except ?_
  let xe : Value → Shared → Prop := fun e s₁ => wpAny (model X.prog X.w) X.A (noteFrame e X.env) (fun _ s₂ => wpAny (model X.prog X.w) X.A (setFlight e none) (fun _ s₃ => wpAny (model X.prog X.w) X.A (handleBy e X.env [.ExceptHandler (some (.Name x np)) (some n) (b₀ :: suite) pos']) (SP X pins D) X.xe s₃) X.xe s₂) X.xe s₁
  have tk2 : Takes (X.tr (X.pn ++ pins) xe) (wExn X.K c i ts Wout D) := by
    rintro u s' ⟨a, B, sI, pins', σ', H', cls, d, rfl, J', nb, up, sky, na, os, ag, b, hb1, hyes, hno⟩
    have J : L2.Inv X pins σ' H' sI := Inv.ofTry J' ok
    have sky' : Sky B (X.env :: X.outer) a (Zc cls d) X.env.locals s'.heap := by rw [← hs]; exact sky
    show wpAny (model X.prog X.w) X.A (noteFrame (.ref a) X.env) _ X.xe s'
    refine Sky.land Zc.steady hfr hf sky' fun h3 fl3 up3 => ?_
    have J3 : L2.Inv X pins σ' H' { s' with heap := h3 } := J.landed nb fl3.1 (up.trans up3) os ag
    obtain ⟨oe3, vs3, he3, hz3, hd3⟩ := fl3.there
    have nfr : a ∉ frs (X.env :: X.outer) := fun hm => by
      obtain ⟨_, o', e', hnf⟩ := fl3.2.2.1.mem hm
      rw [he3] at e'
      cases e'
      exact hnf _ hd3
    have nL : a ≠ X.env.locals := fun z => nfr (List.mem_filterMap.mpr ⟨X.env, List.mem_cons_self, by rw [hf, z]⟩)
    have notB : ∀ {o : Obj}, sI.heap.get? a = some o → False := fun {o} e => by
      have := nb a o e (by show a ∉ frs X.stack; rw [hs]; exact nfr)
      rw [fl3.2.1] at this
      cases this
    have n0 : X.s_0.heap.get? a = none := by
      cases e : X.s_0.heap.get? a with
      | none => rfl
      | some o =>
        obtain ⟨o', e2⟩ := J.base.there a o e (by rw [hex]; exact fun z => nomatch z)
        exact (notB e2).elim
    have npn : ∀ p ∈ X.pn ++ pins, p.1 ≠ a := fun p hp z => by
      have e := (J.pin p hp).1
      rw [z] at e
      exact notB e
    have S3 := inv_suite J3 a
    refine wpAny_handleBy_cons (codeAny_handlers_test ?_) (by intro q; cases q)
    have LT : PySem.W.Looks (model X.prog X.w) h3 (typeOf (.ref a)) cls := fun A Q E s k q => wpAny_typeOf_ref (k _ _ he3) (by rw [hz3.1]; exact q)
    have LM := PySem.W.exm_one (M := model X.prog X.w) (J3.kIn) LT hb1
    have test : ∀ {Q : Value → Shared → Prop} {E : Value → Shared → Prop}, Q c { s' with heap := h3 } → wpAny (model X.prog X.w) (X.A.mark (some (.ref a))) (eval (.Name x np) X.env) Q E { s' with heap := h3 } := fun {Q E} q => by
      obtain ⟨hg, hdbg, hm | ⟨hm, hv, hnn⟩⟩ := hc
      · exact ld_glob (X := X.suite a (X.pn ++ pins)) S3 hg hm q hdbg
      · exact ld_blt (X := X.suite a (X.pn ++ pins)) S3 hg hm hv q hnn hdbg
    refine test (LM.here ?_)
    cases b with
    | true =>
      refine codeAny_handlers_suite_as ?_
      refine HandSPX.lands_againZ fl3 fun h4 fl4 up4 => ?_
      have J4 : L2.Inv X pins σ' H' { s' with heap := h4 } := J.landed nb fl4.1 ((up.trans up3).trans up4) os ag
      obtain ⟨oe4, vs4, he4, hz4, hd4⟩ := fl4.there
      obtain ⟨C, dx, rfl, rfl, hy2⟩ := hyes rfl
      have S4 := inv_suite (inv_track J4 na he4 hz4.1 hz4.2 hd4 n0 npn nL) a
      refine store_ok (X := X.suite a (X.pn ++ pins)) (v := .ref a) S4 hN hi hloc rfl (fun s5 S5 => ?_) (.inr hln)
      refine wpAny_mono ((hsu a (X.pn ++ pins)).run [] s5 _ _ _ S5 (hy2 a na)) (fun f s6 hsp => ?_) (fun _ _ z => False.elim z)
      have end_ : ∀ {σ6 : L2.St} {H6 : Hp} {Q : Shared → Prop}, L2.Inv (X.suite a (X.pn ++ pins)) [] σ6 H6 s6 → (∀ s7, L2.Inv X pins (σ6.set i none) H6 s7 → Q s7) →
          wpAny (model X.prog X.w) X.A (do bindName X.env n .none; unbindBehindTheSuite X.env n pos') (fun _ s7 => Q s7) X.xe s6 := fun {σ6 H6 Q} S6 hq => gone_ok (inv_unsuite S6 ok) hN hi hln hq
      cases f with
      | next =>
        obtain ⟨σ6, H6, S6, q6⟩ := hsp
        exact end_ S6 fun s7 J7 => ⟨_, _, J7, q6⟩
      | brk =>
        obtain ⟨σ6, H6, S6, q6⟩ := hsp
        exact end_ S6 fun s7 J7 => ⟨_, _, J7, q6⟩
      | cont =>
        obtain ⟨σ6, H6, S6, q6⟩ := hsp
        exact end_ S6 fun s7 J7 => ⟨_, _, J7, q6⟩
      | ret u =>
        obtain ⟨v6, σ6, H6, S6, r6, q6⟩ := hsp
        exact end_ S6 fun s7 J7 => ⟨_, _, _, J7, r6, q6⟩
    | false =>
      show wpAny _ X.A (handleBy (.ref a) X.env []) _ _ _
      refine wpAny_handleBy_nil ?_
      obtain ⟨k1, k2, k3, oe, vs, T, oT, ts', he, hz, hd, h1, hr⟩ := id fl3
      unfold PySem.passOn
      refine wpAny_bind (wpAny_field he hd h1 ?_)
      rw [if_neg (show ¬ ((Value.ref T == Value.none) = true) from by simp)]
      have fin : wpAny (model X.prog X.w) X.A (setFlight (.ref a) X.env.frame) (fun _ s4 => wpAny (model X.prog X.w) X.A (throw (.ref a) : Sem Flow) (SP X pins D) X.xe s4) X.xe { s' with heap := h3 } := by
        rw [hf]
        refine HandSPX.setFlight_upZ fl3 fun h4 hh4 up4 => wpAny_throw (tk _ _ ?_)
        exact ⟨a, B, sI, pins, σ', H', cls, d, rfl, J, nb, (up.trans up3).trans up4, .inr (.inr (by rw [hs]; exact hh4)), na, os, ag, hno rfl⟩
      first
        | exact wpAny_bind (wpAny_pure (wpAny_bind fin))
        | exact wpAny_bind fin
  have run := (hb (wExn X.K c i ts Wout D) (X.pn ++ pins) xe tk2 PassesOwn.looking).run [] s σ H D (I.toTry xe) h
  refine wpAny_mono run (fun fl s1 hq => ?_) (fun e s1 he => he)
  cases fl with
  | next =>
    obtain ⟨σ1, H1, I1, q⟩ := hq
    exact wpAny_execs_nil ⟨σ1, H1, Inv.ofTry I1 I.ok, q⟩
  | ret u =>
    obtain ⟨v, σ1, H1, I1, rv, q⟩ := hq
    exact ⟨v, σ1, H1, Inv.ofTry I1 I.ok, rv, q⟩
  | brk =>
    obtain ⟨σ1, H1, I1, q⟩ := hq
    exact ⟨σ1, H1, Inv.ofTry I1 I.ok, q⟩
  | cont =>
    obtain ⟨σ1, H1, I1, q⟩ := hq
    exact ⟨σ1, H1, Inv.ofTry I1 I.ok, q⟩
end
end SL
namespace SL
open PySem PySem.Spec PyProof.Rows L2
/-! ### own exceptions as values: e.value, isinstance, try -/
/-- the own exception classes -/
inductive EK where
  | tx | cu | cm | im | nu | un | ur
  deriving DecidableEq
/-- where they lie -/
class Cls where
  ad : EK → Addr
  base : Addr
/-- what the written part says of such a class -/
structure ExcK (K : PySem.W.Frag) (C : Addr) : Prop where
  ga : PySem.W.findIn K (.ref C) "__getattribute__" = some (some (.builtin "BaseException.__getattribute__"))
  gg : PySem.W.findIn K (.ref C) "__getattr__" = some none
  exC : PySem.W.subIn K (.ref C) (.type "BaseException") = some true
  hd : PySem.W.hasDictIn K C = true
  ha : PySem.W.findIn K (.ref C) "__class__" = some (some (.builtin "object.__class__"))
  hn : PySem.W.specialIn K (.builtin "object.__class__") "__get__" = some (some (.builtin "getset_descriptor.__get__"))
  ht : PySem.W.takesIn K (.builtin "object.__class__") = some true
  hm : PySem.W.mroIn K C (.type "object") = some true
  hv : PySem.W.findIn K (.ref C) "value" = some none
theorem hasDict_cls {K : PySem.W.Frag} {C : Addr} (h : PySem.W.hasDictIn K C = true) : (PySem.W.clsIn K C).isSome = true := by
  obtain ⟨cd, hc, _⟩ := PySem.W.any_some h
  rw [hc]
  rfl
section
variable {X : Cx}
theorem inst_of {P : Program} {w : World} {H : Hp} {h : Heap} {a C dx : Addr} {fs : List (Str × V)} (hok : HOk P w H h) (ha : H a = some (xob a C dx)) (hd : H dx = some (.xd fs)) :
    ∃ (oe od : Obj) (mA : Str → Option Value), PySem.W.InstAt h a oe C (some od) ∧ (∀ n, PySem.W.lookIn n od = some (mA n)) ∧ ∀ f, RelO (fs.lookup f) (mA f) := by
  obtain ⟨⟨o, vs, g, c, d, f⟩, _⟩ := hok a _ ha
  obtain ⟨mA, hns, hr⟩ := (show ObjOk P w H h dx (.xd fs) from hok dx _ hd)
  obtain ⟨od, ho, hl⟩ := lookIn_ns hns
  exact ⟨o, od, mA, ⟨g, c, by unfold PySem.W.notCls; rw [f] <;> rfl, by rw [d]; exact ho⟩, hl, hr⟩
/-- e.f of an exception -/
def tXv (K : PySem.W.Frag) (f : Str) (te : TE) : TE := fun σ H Q => te σ H fun x H1 => ∃ (a C dx : Addr) (fs : List (Str × V)) (v : V), x = .ref a ∧ H1 a = some (xob a C dx) ∧ H1 dx = some (.xd fs) ∧ ExcK K C ∧ PySem.W.findIn K (.ref C) f = some none ∧ fs.lookup f = some v ∧ Q v H1
theorem pe_exv {e : Expr} {te : TE} {pos : Pos} {n : Str} (he : PE X e te) (hb : attributeBase e n X.env (eval e X.env) = eval e X.env := by rfl) : PE X (.Attribute e n pos) (tXv X.K n te) := by
  refine ⟨fun pins s σ H Q I h => ?_⟩
  refine attr_of hb (thn (he.run pins s σ H _ I h) fun u s1 hh => ?_)
  obtain ⟨x, H1, I1, rx, a, C, dx, fs, v, ex, ea, ed, T, hno, l, q⟩ := hh
  subst ex
  obtain rfl : u = Value.ref a := rx
  obtain ⟨oe, od, mA, J, hl, hr⟩ := inst_of I1.hok ea ed
  obtain ⟨u, hu, ru⟩ := RelO.some_of (v := v) (o := mA n) (by rw [← l]; exact hr n)
  exact PySem.HandSPX.exc_get I1.kIn J T.ga T.gg T.exC (PySem.W.findObj_own T.hd hno rfl (by rw [hl, hu])) (handed_of ru) ⟨v, H1, I1.tok _, ru, q⟩
/-- the value of an exception -/
def mXv [Cls] (rs : List EK) (te : ME) : ME := fun E ρ Cs Q => te E ρ Cs fun w C => ∃ (a : Addr) (k : EK) (x : W), w = .exn a (Cls.ad k) x ∧ k ∈ rs ∧ Q x C
theorem qe_xv [Cls] {rs : List EK} {e : Expr} {te : ME} {pos : Pos} (hr : ∀ k, k ∈ rs → ExcK X.K (Cls.ad k)) (he : QE X e te) (hb : attributeBase e "value" X.env (eval e X.env) = eval e X.env := by rfl) : QE X (.Attribute e "value" pos) (mXv rs te) := fun Wx tk =>
  pe_imp (pe_exv (he Wx tk) hb) fun σ H Q' ⟨ρ, Cs, E, Q, R, C, h, kQ, kE⟩ => ⟨ρ, Cs, E, _, R, C, h, fun w C1 v H1 q tr rc rp => by
    obtain ⟨a, k, x, rfl, hk, q⟩ := q
    obtain ⟨rfl, dx, y, h1, h2, h3⟩ := rep_exn.mp rp
    exact ⟨a, _, dx, _, y, rfl, h1, h2, hr k hk, (hr k hk).hv, rfl, kQ x C1 y H1 q tr rc h3⟩, kE⟩
/-- isinstance(e, c) -/
def rIsX (K : PySem.W.Frag) : List V → Hp → VK → Prop := fun xs H Q => ∃ (a C dx : Addr) (fs : List (Str × V)) (c : V) (cv : Value) (b : Bool), xs = [.ref a, c] ∧ H a = some (xob a C dx) ∧ H dx = some (.xd fs) ∧ ExcK K C ∧ ClsV c cv ∧ PySem.W.kitOne K (.ref C) cv = some b ∧ Q (.bl b) H
def rIsXT (K : PySem.W.Frag) : List V → Hp → VK → Prop := fun xs H Q => ∃ (a C dx tp : Addr) (fs : List (Str × V)) (cs : List V) (us : List Value) (b : Bool), xs = [.ref a, .ref tp] ∧ H a = some (xob a C dx) ∧ H dx = some (.xd fs) ∧ ExcK K C ∧ SqT K H tp cs ∧ Paired ClsV cs us ∧ PySem.W.kitAny K (.ref C) us = some b ∧ Q (.bl b) H
theorem call_isX : CallR X (.builtin "isinstance") (rIsX X.K) := by
  intro pins s σ H xs us Q I r h
  obtain ⟨a, C, dx, fs, c, cv, b, rfl, ea, ed, T, k, e, q⟩ := h
  obtain ⟨u1, u2, rfl, r1, r2⟩ := vals2 r
  obtain rfl := k.eq r2
  obtain rfl : u1 = Value.ref a := r1
  obtain ⟨oe, od, mA, J, _⟩ := inst_of I.hok ea ed
  exact PySem.W.kia_one (PySem.W.kitx_exc (hasDict_cls T.hd) T.ga T.gg T.exC T.ha T.hn T.ht T.hm) I.kIn J e (fun z => nomatch z) fun tk => ⟨.bl b, H, I.tok tk, rfl, q⟩
theorem call_isXT : CallR X (.builtin "isinstance") (rIsXT X.K) := by
  intro pins s σ H xs us Q I r h
  obtain ⟨a, C, dx, tp, fs, cs, ws, b, rfl, ea, ed, T, hT, k, e, q⟩ := h
  obtain ⟨u1, u2, rfl, r1, r2⟩ := vals2 r
  obtain rfl : u1 = Value.ref a := r1
  cases (show u2 = Value.ref tp from r2)
  obtain ⟨oe, od, mA, J, _⟩ := inst_of I.hok ea ed
  obtain ⟨its, rv, ⟨o, h1, h2, n, h3⟩, _⟩ := I.tuple hT
  have e3 := ClsV.all k rv
  subst e3
  obtain ⟨oc, od, dt, sl⟩ := o
  simp only at h2 h3
  subst h2 h3
  exact PySem.W.kia_tup (PySem.W.kitx_exc (hasDict_cls T.hd) T.ga T.gg T.exC T.ha T.hn T.ht T.hm) I.kIn J h1 e (fun z => nomatch z) fun tk => ⟨.bl b, H, I.tok tk, rfl, q⟩
/-- a class, as a tree and as a value -/
inductive ClsW : W → Value → Prop where
  | ty (n : String) : ClsW (.ty n) (.type n)
  | own (C : Addr) : ClsW (.ref C) (.ref C)
theorem ClsW.v {K : PySem.W.Frag} {H : Hp} {w : W} {u : Value} {v : V} (h : ClsW w u) (r : rep K H w v) : ClsV v u := by
  cases h with
  | ty n => obtain rfl := rep_ty.mp r; exact .ty n
  | own C => obtain rfl := rep_ref.mp r; exact .own C
def uIsC [Cls] (rs : List EK) (d : W) (f : EK → Bool) : RWL
  | [.exn _ C _, d'], Cs, Q => d' = d ∧ ∃ k, C = Cls.ad k ∧ k ∈ rs ∧ Q (.bl (f k)) Cs
  | _, _, _ => False
theorem lk_isC [Cls] {K : PySem.W.Frag} {rs : List EK} {d : W} {u : Value} {f : EK → Bool} (hr : ∀ k, k ∈ rs → ExcK K (Cls.ad k)) (hd : ClsW d u) (hk : ∀ k, k ∈ rs → PySem.W.kitOne K (.ref (Cls.ad k)) u = some (f k)) : LkL K (rIsX K) (uIsC rs d f) := fun xs vs H Cs Q Q' h rc rx k => by
  unfold uIsC at h
  split at h
  · obtain ⟨rfl, j, rfl, hj, h⟩ := h
    obtain ⟨x, y, rfl, r1, r2⟩ := two_rep rx
    obtain ⟨rfl, dx, z, h1, h2, h3⟩ := rep_exn.mp r1
    exact ⟨_, _, dx, _, y, u, f j, rfl, h1, h2, hr j hj, hd.v r2, hk j hj, k.here h rc (rep_bl.mpr rfl)⟩
  · exact h.elim
theorem ClsW.all {K : PySem.W.Frag} {H : Hp} : ∀ {ds : List W} {us : List Value} {vs : List V}, Paired ClsW ds us → reps K H ds vs → Paired ClsV vs us
  | _, _, _, .nil, r => by obtain rfl := reps_nil.mp r; exact .nil
  | _, _, _, .cons h t, r => by
    obtain ⟨x, r', rfl, r1, r2⟩ := reps_cons.mp r
    exact .cons (h.v r1) (ClsW.all t r2)
theorem lk_isCT [Cls] {K : PySem.W.Frag} {rs : List EK} {ds : List W} {us : List Value} {f : EK → Bool} (hr : ∀ k, k ∈ rs → ExcK K (Cls.ad k)) (hd : Paired ClsW ds us) (hk : ∀ k, k ∈ rs → PySem.W.kitAny K (.ref (Cls.ad k)) us = some (f k)) : LkL K (rIsXT K) (uIsC rs (.tup ds) f) := fun xs vs H Cs Q Q' h rc rx k => by
  unfold uIsC at h
  split at h
  · obtain ⟨rfl, j, rfl, hj, h⟩ := h
    obtain ⟨x, y, rfl, r1, r2⟩ := two_rep rx
    obtain ⟨rfl, dx, z, h1, h2, h3⟩ := rep_exn.mp r1
    obtain ⟨tp, ys, rfl, h4, h5⟩ := rep_tup.mp r2
    exact ⟨_, _, dx, tp, _, ys, us, f j, rfl, h1, h2, hr j hj, h4, ClsW.all hd h5, hk j hj, k.here h rc (rep_bl.mpr rfl)⟩
  · exact h.elim
end
/-! ### try -/
/-- m: which classes the clause takes; slot i is the name's -/
def sTry [Cls] (rs : List EK) (m : EK → Bool) (i : Nat) (tb ts : MS) : MS := fun D ρ Cs => tb { D with ex := fun C w ρ' C' => ∃ k, C = Cls.ad k ∧ k ∈ rs ∧
  (m k = true → ∀ a, ts { nx := fun ρ2 C2 => D.nx (ρ2.del i) C2, rt := D.rt, bk := fun ρ2 C2 => D.bk (ρ2.del i) C2, ct := fun ρ2 C2 => D.ct (ρ2.del i) C2, ex := fun _ _ _ _ => False } (ρ'.put i (.exn a (Cls.ad k) w)) C') ∧ (m k = false → D.ex (Cls.ad k) w ρ' C') } ρ Cs
section
variable {X : Cx} {x n : Str} {c : Value} {i : Nat} {body suite : List Stmt} {b₀ : Stmt} {np pos pos' : Pos} {tb ts : MS}
theorem qs_try [Cls] {rs : List EK} {m : EK → Bool} (hs : X.stack = X.env :: X.outer) (hf : X.env.frame = some X.env.locals) (hex : X.ex = []) (hN : X.N.Nodup) (hi : X.N[i]? = some n) (hln : X.env.kindOf n = some .local) (hc : Names X x c)
    (hm : ∀ k, k ∈ rs → PySem.W.exmOne X.K (.ref (Cls.ad k)) c = some (m k))
    (hb : ∀ (pn : List (Addr × Obj)) (xe : Value → Shared → Prop), PassesOwn (model X.prog X.w) X.A X.env xe → QSs (X.tr pn xe) body tb)
    (hsu : ∀ (a : Addr) (pn : List (Addr × Obj)), QSs (X.suite a pn) (b₀ :: suite) ts) :
    QS X (.Try body [.ExceptHandler (some (.Name x np)) (some n) (b₀ :: suite) pos'] [] [] pos) (sTry rs m i tb ts) := fun Wx tk =>
  ps_imp (ps_try_exn (tb := fun W => liftS X W tb) (ts := liftS X (fun _ _ _ _ => False) ts) hs hf hex hN hi hln hc tk (fun W pn xe tk2 po => pss_imp (hb pn xe po W tk2) fun D σ H ⟨ρ, Cs, DW, R, C, h, L⟩ => ⟨ρ, Cs, DW, R, C, h, ⟨L.nx, L.rt, L.bk, L.ct, L.ex⟩⟩) (fun a pn => pss_imp (hsu a pn (fun _ _ _ _ => False) fun u s' ⟨_, _, _, _, _, _, _, _, _, _, _, _, _, _, _, _, z⟩ => z.elim) fun D σ H ⟨ρ, Cs, DW, R, C, h, L⟩ => ⟨ρ, Cs, DW, R, C, h, ⟨L.nx, L.rt, L.bk, L.ct, L.ex⟩⟩)) fun D σ H ⟨ρ, Cs, DW, R, C, h, L⟩ => by
    have hlt : i < X.N.length := (List.getElem?_eq_some_iff.mp hi).1
    refine ⟨ρ, Cs, _, R, C, h, ?_⟩
    refine ⟨L.nx, L.rt, L.bk, L.ct, fun C w ρ' C' σ' d v H' q tr R' rc rp xv => ?_⟩
    obtain ⟨k, rfl, hk, q1, q2⟩ := q
    obtain ⟨dx, ed, hdx⟩ := xv
    refine ⟨m k, hm k hk, fun e => ⟨Cls.ad k, dx, rfl, ed, fun a na => ?_⟩, fun e => L.ex _ w ρ' C' σ' d v H' (q2 e) tr R' rc rp ⟨dx, ed, hdx⟩⟩
    have ne : dx ≠ a := fun z => by rw [z, na] at hdx; cases hdx
    have tr2 : Tr X.K H' (upd H' a (xob a (Cls.ad k) dx)) := tr_new na
    have tr3 := tr.trans tr2
    refine ⟨_, C', _, (R'.mono tr2).set hlt (rep_exn.mpr ⟨rfl, dx, v, upd_same, by rw [upd_ne ne]; exact hdx, rep_mono tr2 _ _ rp⟩), rc.hid na, q1 e a, ?_⟩
    exact ⟨fun ρ2 C2 σ2 H2 q t2 R2 rc2 => L.nx _ _ _ _ q (tr3.trans t2) (R2.del i) rc2, fun w2 C2 v2 H2 q t2 rc2 rp2 => L.rt _ _ _ _ q (tr3.trans t2) rc2 rp2, fun ρ2 C2 σ2 H2 q t2 R2 rc2 => L.bk _ _ _ _ q (tr3.trans t2) (R2.del i) rc2, fun ρ2 C2 σ2 H2 q t2 R2 rc2 => L.ct _ _ _ _ q (tr3.trans t2) (R2.del i) rc2, fun _ _ _ _ _ _ _ _ z => z.elim⟩
end
end SL
namespace SL
open PySem PySem.Spec PyProof.Rows L2
/-! ### own exceptions: their __init__, raise, isinstance of them -/
/-- what the written part says of a class that is raised -/
structure RaisK (K : PySem.W.Frag) (C : Addr) : Prop where
  ex : ExcK K C
  oe : OexC K C
  sv : PySem.W.subIn K (.ref C) (.type "ValueError") = some true
/-- .. of the base class of them all -/
structure BaseK (K : PySem.W.Frag) (B : Addr) : Prop where
  ga : PySem.W.specialIn K (.ref B) "__getattribute__" = some (some (.builtin "type.__getattribute__"))
  ri : PySem.W.readsIn K B (.type "type") = true
  fc : PySem.W.findCls K (.ref B) (.type "type") "__init__" = some (.val (.builtin "ValueError.__init__"))
  be : PySem.W.subIn K (.ref B) (.type "BaseException") = some true
  hd : PySem.W.hasDictIn K B = true
  ty : PySem.W.typeIn K (.ref B) = some (.type "type")
/-- .. of a class that is asked for -/
structure AskK (K : PySem.W.Frag) (D : Addr) : Prop where
  hd : PySem.W.hasDictIn K D = true
  ty : PySem.W.typeIn K (.ref D) = some (.type "type")
theorem qe_gcls {X : Cx} {x : Str} {A : Addr} {pos : Pos} (hm : X.mg x = some (.ref A)) (hg : Gl X x := by rfl) (hd : (x == ("__debug__" : Str)) = false := by decide) : QE X (.Name x pos) (mC (.ref A)) := qe_glob (v := .ref A) hg hm rfl (fun _ => rep_ref.mpr rfl) hd
theorem len_init {C : Addr} : ∀ vs H Q E, spInit C vs H Q E → vs.length = 2 := fun vs H Q E ⟨a, v, e, _⟩ => by rw [e]; rfl
def tInit (K : PySem.W.Frag) (m : Str) : TS := tSeq (tDrop (tCB (rCinit K) (tCons (tVar 0) (tCons (tC (.str m)) tNil)))) (tOst K "value" (tVar 0) (tVar 1))
theorem init_pure {K : PySem.W.Frag} {C : Addr} {m : Str} (T : RaisK K C) {vs : List V} {H : Hp} {Q : VK} {E : XK} (h : spInit C vs H Q E) :
    tInit K m { nx := fun _ H' => Q .non H', rt := Q } (start ["self", "value"] vs) H := by
  obtain ⟨a, v, rfl, e, q⟩ := h
  obtain ⟨cd, hcd⟩ := Option.isSome_iff_exists.mp (hasDict_cls T.ex.hd)
  refine ⟨_, rfl, ⟨a, C, .str m, cd, rfl, e, hcd, T.sv, ?_⟩⟩
  exact ⟨_, rfl, _, rfl, a, C, rfl, T.oe, T.ex.hv, .inl ⟨e, fun dx n ne => q dx n ne⟩⟩
/-- the facts about a class's __init__ -/
structure InitK (K : PySem.W.Frag) (P : Program) (w : World) (mg : Str → Option Value) (base : Heap) (C : Addr) : Prop where
  ex : ∃ fI fd, PySem.W.findIn K (.ref C) "__init__" = some (some (.ref fI)) ∧ PySem.W.typeIn K (.ref fI) = some (.type "function") ∧ FnOk P w K mg base (L2.CX P w) 1 fI fd ["self", "value"] (spInit C) ∧ Binds K fd ["self", "value"] []
section
variable {X : Cx} {e : Expr} {es : List Expr} {p pos pos' : Pos} {x : Str} {C : Addr} {j : Nat} {t : MA}
/-- raise C(v) -/
theorem qs_rais (T : RaisK X.K C) (I : InitK X.K X.prog X.w X.mg X.base C) (hj : 2 ≤ j) (hr : Room j X.A) (hc : X.calm = true) (hm : X.mg x = some (.ref C)) (ha : QA X (e :: es) t) (hg : Gl X x := by rfl)
    (hdb : (x == ("__debug__" : Str)) = false := by decide) (he : starEach (e :: es) X.env = (false, eval e X.env) :: starEach es X.env := by rfl) (hpl : (backTo pos (starEach es X.env)).any (·.1) = false := by rfl) :
    QS X (.Raise (some (.Call (.Name x p) (e :: es) [] pos)) none pos') (sRaise C t) := fun Wx tk => by
  obtain ⟨fI, fd, iC, tI, F1, hb⟩ := I.ex
  exact qs_raise T.oe iC tI F1 (hr.mono hj) hb (passes_call tk fun _ _ _ _ h => h.elim) hc hm ha hg hdb he hpl Wx tk
end
theorem kit_self {K : PySem.W.Frag} {C : Addr} : PySem.W.kitOne K (.ref C) (.ref C) = some true := by
  unfold PySem.W.kitOne
  rw [if_pos (beq_self_eq_true _)]
theorem kit_other {K : PySem.W.Frag} {C D : Addr} {b : Bool} (hne : (C == D) = false) (hd : PySem.W.hasDictIn K D = true) (ht : PySem.W.typeIn K (.ref D) = some (.type "type")) (hs : PySem.W.subIn K (.ref C) (.ref D) = some b) : PySem.W.kitOne K (.ref C) (.ref D) = some b := by
  unfold PySem.W.kitOne
  rw [if_neg (by intro z; rw [Value.ref.inj (beq_iff_eq.mp z)] at hne; rw [beq_self_eq_true] at hne; cases hne)]
  unfold PySem.W.kitCls
  dsimp only
  rw [if_pos (by rw [hasDict_cls hd, ht]; rfl)]
  exact hs
theorem kit_ve {K : PySem.W.Frag} {C : Addr} (hs : PySem.W.subIn K (.ref C) (.type "ValueError") = some true) : PySem.W.kitOne K (.ref C) (.type "ValueError") = some true := by
  unfold PySem.W.kitOne
  rw [if_neg (by intro z; have := beq_iff_eq.mp z; cases this)]
  unfold PySem.W.kitCls
  dsimp only
  rw [if_pos (by decide +kernel)]
  exact hs
theorem kit_any {K : PySem.W.Frag} {t c : Value} {cs : List Value} {b d : Bool} (h : PySem.W.kitOne K t c = some b) (hs : PySem.W.kitAny K t cs = some d) : PySem.W.kitAny K t (c :: cs) = some (b || d) := by
  unfold PySem.W.kitAny
  rw [h]
  cases b with
  | true => rfl
  | false => exact hs
/-- a clause that names the class at D -/
theorem exm_cls {K : PySem.W.Frag} {C D : Addr} {b : Bool} (h1 : PySem.W.subIn K (.ref D) (.type "BaseException") = some true) (hd : PySem.W.hasDictIn K D = true) (ht : PySem.W.typeIn K (.ref D) = some (.type "type")) (hs : PySem.W.subIn K (.ref C) (.ref D) = some b) : PySem.W.exmOne K (.ref C) (.ref D) = some b :=
  PySem.W.exm_ref h1 hd ht hs
theorem one_k {P : EK → Prop} {a : EK} (h : P a) : ∀ k, k ∈ [a] → P k := fun k hk => by rw [List.mem_singleton.mp hk]; exact h
theorem cons_k {P : EK → Prop} {a : EK} {r : List EK} (h : P a) (t : ∀ k, k ∈ r → P k) : ∀ k, k ∈ a :: r → P k := fun k hk => by
  rcases List.mem_cons.mp hk with rfl | hk
  · exact h
  · exact t k hk
theorem nil_k {P : EK → Prop} : ∀ k, k ∈ ([] : List EK) → P k := fun k hk => nomatch hk
end SL
/-! ### the drawing source of the laws k15 to k24 -/
namespace SL
open PySem PySem.Spec PyProof.Rows L2
structure PoolOk (S : RngS) (N : Nat) : Prop where
  d0 : 0 ≤ S.d
  s0 : 0 ≤ S.s
  s1 : S.s < 2400000000000000000
  c0 : 0 ≤ S.c
  c1 : S.c ≤ N
theorem PoolOk.up {S : RngS} {N M : Nat} (h : PoolOk S N) (k : N ≤ M) : PoolOk S M := ⟨h.d0, h.s0, h.s1, h.c0, Int.le_trans h.c1 (by omega)⟩
/-- what a law passes on: a source, and the draws so far -/
def spP1 (c : Nat) (R : W → Prop) : SpW := sp1 fun x Cs Q _ => ∃ (q : Addr) (S : RngS) (Ds : Cells) (N : Nat), x = .ref q ∧ Cs = (q, rM S) :: Ds ∧ PoolOk S N ∧ N + c ≤ 1000000000 ∧ ∀ (w : W) (S' : RngS), R w → PoolOk S' (N + c) → Q w ((q, rM S') :: Ds)
section
variable {K : PySem.W.Frag}
def qUpper : RWM := fun x xs Cs Q => ∃ a, x = .str a ∧ xs = [] ∧ a.length ≤ 5592405 ∧ Q (.str (Txt.upper a)) Cs
theorem lk_upper : LkM K (fun x xs H Q => ∃ a, x = .str a ∧ xs = [] ∧ a.length ≤ 5592405 ∧ Q (.str (Txt.upper a)) H) qUpper := fun x xs vx vs H Cs Q Q' ⟨a, e1, e2, h1, q⟩ rc rx rxs k => by
  subst e1 e2
  exact ⟨a, rep_str.mp rx, reps_nil.mp rxs, h1, k.here q rc (rep_str.mpr rfl)⟩
end
end SL
/-! ### lists of commands that may leave the text; repetitions of them -/
namespace SL
open PySem PySem.Spec PyProof.Rows L2
/-- a command within a text -/
def fits (ln : List Int) (row : Int) : Prop := 0 ≤ row ∧ row < ln.length
instance {ln : List Int} {row : Int} : Decidable (fits ln row) := by unfold fits; infer_instance
/-- the cursor behind all commands, or the index of the first one that leaves the text -/
def ranO (ln : List Int) : Int → Go → List Cmd → Nat → (Int × Go) ⊕ Nat
  | row, g, [], _ => .inl (row, g)
  | row, g, c :: cs, i => if fits ln (row + c.mv) then ranO ln (row + c.mv) (stp (lnAt ln row) g c) cs (i + 1) else .inr i
theorem ranO_c {ln : List Int} {row : Int} {g : Go} {c : Cmd} {cs : List Cmd} {i : Nat} : ranO ln row g (c :: cs) i = if fits ln (row + c.mv) then ranO ln (row + c.mv) (stp (lnAt ln row) g c) cs (i + 1) else .inr i := rfl
theorem ranO_app (ln : List Int) : ∀ (a b : List Cmd) (row : Int) (g : Go) (i : Nat), ranO ln row g (a ++ b) i = match ranO ln row g a i with
    | .inl (r, x) => ranO ln r x b (i + a.length)
    | .inr j => .inr j
  | [], b, row, g, i => rfl
  | c :: a, b, row, g, i => by
    rw [List.cons_append, ranO_c, ranO_c]
    split
    · rw [ranO_app ln a b, List.length_cons, show i + 1 + a.length = i + (a.length + 1) by omega]
    · rfl
theorem ranO_in (ln : List Int) : ∀ (cs : List Cmd) (row o : Int) (g : Go) (i : Nat), 0 ≤ row + o + lo cs → row + o + hi cs < ln.length → ranO ln (row + o) g cs i = .inl (row + o + off cs, rnG (fun o => lnAt ln (row + o)) o g cs)
  | [], row, o, g, i, _, _ => by simp [ranO, off, rnG]
  | c :: cs, row, o, g, i, h0, h1 => by
    have a0 := lo_le cs
    have a1 := hi_ge cs
    rw [lo] at h0
    rw [hi] at h1
    unfold ranO
    rw [if_pos (by constructor <;> omega), Int.add_assoc, ranO_in ln cs row (o + c.mv) _ _ (by omega) (by omega), off, rnG]
    simp only [Int.add_assoc]
theorem ranO_out (ln : List Int) : ∀ (cs : List Cmd) (row : Int) (g : Go) (i : Nat), fits ln row → ¬ (0 ≤ row + lo cs ∧ row + hi cs < ln.length) → ∃ j, i ≤ j ∧ j < i + cs.length ∧ ranO ln row g cs i = .inr j
  | [], row, g, i, hf, h => by
    obtain ⟨h0, h1⟩ := hf
    simp only [lo, hi, Int.add_zero] at h
    exact absurd ⟨h0, h1⟩ h
  | c :: cs, row, g, i, hf, h => by
    unfold ranO
    by_cases hc : fits ln (row + c.mv)
    · rw [if_pos hc]
      obtain ⟨f0, f1⟩ := hf
      obtain ⟨j, j0, j1, e⟩ := ranO_out ln cs (row + c.mv) (stp (lnAt ln row) g c) (i + 1) hc fun z => h (by
        rw [lo, hi]
        omega)
      exact ⟨j, by omega, by rw [List.length_cons]; omega, e⟩
    · rw [if_neg hc]
      exact ⟨i, Nat.le_refl _, by rw [List.length_cons]; omega, rfl⟩
/-- a possible list ends within the text -/
theorem ranO_fits (ln : List Int) : ∀ {cs : List Cmd} {row : Int} {g : Go} {i : Nat} {r : Int} {x : Go}, fits ln row → ranO ln row g cs i = .inl (r, x) → fits ln r
  | [], row, g, i, r, x, hf, e => by cases e; exact hf
  | c :: cs, row, g, i, r, x, hf, e => by
    unfold ranO at e
    split at e
    · rename_i hc
      exact ranO_fits ln hc e
    · cases e
theorem ranO_g0 {ln : List Int} (hl : ∀ x, x ∈ ln → 0 ≤ x) : ∀ {cs : List Cmd} {row : Int} {g : Go} {i : Nat} {r : Int} {x : Go}, okM cs → g0 g → ranO ln row g cs i = .inl (r, x) → g0 x
  | [], row, g, i, r, x, _, hg, e => by cases e; exact hg
  | c :: cs, row, g, i, r, x, hc, hg, e => by
    unfold ranO at e
    split at e
    · exact ranO_g0 hl (hc.sub fun d hd => List.mem_cons_of_mem _ hd) (stp_0 (lnAt_0 hl _) hg c (hc c List.mem_cons_self)) e
    · cases e
/-- so many repetitions -/
def repO (ln : List Int) (cs : List Cmd) : Nat → Int → Go → (Int × Go) ⊕ Nat
  | 0, r, g => .inl (r, g)
  | n + 1, r, g => match ranO ln r g cs 0 with
    | .inl (r', g') => repO ln cs n r' g'
    | .inr j => .inr j
theorem repO_s {ln : List Int} {cs : List Cmd} {n : Nat} {r : Int} {g : Go} : repO ln cs (n + 1) r g = match ranO ln r g cs 0 with
    | .inl (r', g') => repO ln cs n r' g'
    | .inr j => .inr j := rfl
/-- .. from the other end -/
theorem repO_snoc {ln : List Int} {cs : List Cmd} : ∀ (n : Nat) (r : Int) (g : Go), repO ln cs (n + 1) r g = match repO ln cs n r g with
    | .inl (r', g') => ranO ln r' g' cs 0
    | .inr j => .inr j
  | 0, r, g => by
    rw [repO_s]
    show _ = ranO ln r g cs 0
    cases ranO ln r g cs 0 with
    | inl q => rfl
    | inr j => rfl
  | n + 1, r, g => by
    rw [repO_s]
    show _ = match (match ranO ln r g cs 0 with | .inl (r', g') => repO ln cs n r' g' | .inr j => .inr j : (Int × Go) ⊕ Nat) with
      | .inl (r', g') => ranO ln r' g' cs 0
      | .inr j => .inr j
    cases ranO ln r g cs 0 with
    | inl q => exact repO_snoc n q.1 q.2
    | inr j => rfl
theorem repO_stop {ln : List Int} {cs : List Cmd} {j : Nat} : ∀ {n m : Nat} {r : Int} {g : Go}, n ≤ m → repO ln cs n r g = .inr j → repO ln cs m r g = .inr j
  | n, m, r, g, h, e => by
    induction h with
    | refl => exact e
    | step _ ih => rw [repO_snoc, ih]
/-- rounds back to the row of the start -/
theorem repO_round {ln : List Int} {cs : List Cmd} {row : Int} (h0 : 0 ≤ row + lo cs) (h1 : row + hi cs < ln.length) (ho : off cs = 0) : ∀ (n : Nat) (g : Go), repO ln cs n row g = .inl (row, itr (fun g => rnG (fun o => lnAt ln (row + o)) 0 g cs) n g)
  | 0, g => rfl
  | n + 1, g => by
    have e := ranO_in ln cs row 0 g 0 (by omega) (by omega)
    rw [Int.add_zero, ho, Int.add_zero] at e
    rw [repO_s, e, itr_add n 1 g]
    exact repO_round h0 h1 ho n _
/-- what is told of it -/
def toldW : (Int × Go) ⊕ Nat → W
  | .inl (r, g) => .tup [.int r, gW g]
  | .inr j => .ls [.int (j : Nat)]
end SL
/-! ### list.count of plain values; repr of a list of two lists under way -/
namespace SL
open PySem PySem.Spec PyProof.Rows L2
theorem bt_ValueError : bootBuiltins "ValueError" = some (.type "ValueError") := by rfl
section
variable {X : Cx}
def rCntF (K : PySem.W.Frag) : V → List V → Hp → VK → Prop := fun x xs H Q => ∃ (a : Addr) (ys : List V) (y : V), x = V.ref a ∧ xs = [y] ∧ SqL K H a ys ∧ flatV y = true ∧ ys.all flatV = true ∧ Q (.int (ys.countP (fun z => eqV z y) : Nat)) H
theorem countP_vals {y : V} : ∀ {ys : List V} {us : List Value}, Vals ys us → ys.all flatV = true → us.countP (eqU y) = ys.countP (fun z => eqV z y)
  | _, _, .nil, _ => rfl
  | z :: ys, u :: us, .cons r t, f => by
    rw [List.all_cons, Bool.and_eq_true] at f
    rw [List.countP_cons, List.countP_cons, countP_vals t f.2, eqU_of r f.1]
theorem mt_countF : MtR X "list.count" (rCntF X.K) := by
  intro pins s σ H x xs v us Q I rx rxs h
  obtain ⟨a, ys, y, rfl, rfl, hs, fy, fys, q⟩ := h
  cases rx
  obtain ⟨uy, rfl, ry⟩ := rxs.one
  obtain ⟨its, rv, ⟨⟨cls, dd, data, sl⟩, n, ho, hc, hdn, hd⟩, hlen⟩ := I.list hs
  simp only at hc hd
  subst hc hd
  refine call_meets PySem.F.slot_list_count ⟨_, ho, rfl⟩ PySem.F.entry_list_count (PySem.F.args_list_count_2 _ _)
    (SeqAt.list_countAt a its.toArray n dd sl uy (eqU y)) ⟨ho, fun u' hu' => mem_eqAt ry fy rv fys u' (by simpa using hu'), ?_⟩
  have ec : its.toArray.toList.countP (eqU y) = ys.countP (fun z => eqV z y) := countP_vals rv fys
  refine ⟨.int (ys.countP (fun z => eqV z y) : Nat), H, I.tok _, ⟨s.toks, ?_⟩, q⟩
  show Value.int ((its.toArray.toList.countP (eqU y) : Nat) : Int) s.toks = Value.int _ s.toks
  rw [ec]
end
section
variable {K : PySem.W.Frag}
def uCount : RWM := fun x xs Cs Q => ∃ (ws : List W) (y : W), xs = [y] ∧ LsV x ws Cs ∧ flatW y = true ∧ ws.all flatW = true ∧ Q (.int (ws.countP (fun z => weq z y) : Nat)) Cs
theorem countP_reps {H : Hp} {y : W} {v : V} (fy : flatW y = true) (r : rep K H y v) : ∀ {ws : List W} {us : List V}, reps K H ws us → ws.all flatW = true → us.countP (fun z => eqV z v) = ws.countP (fun z => weq z y)
  | [], us, h, _ => by rw [reps_nil.mp h]; rfl
  | w :: ws, us, h, f => by
    obtain ⟨u, r', rfl, h1, h2⟩ := reps_cons.mp h
    rw [List.all_cons, Bool.and_eq_true] at f
    rw [List.countP_cons, List.countP_cons, countP_reps fy r h2 f.2, weq_ok fy f.1 r h1]
theorem lk_count : LkM K (rCntF K) uCount := fun x xs vx vs H Cs Q Q' ⟨ws, y, e1, hl, fy, fw, q⟩ rc rx rxs k => by
  subst e1
  obtain ⟨v, rfl, r⟩ := one_rep rxs
  obtain ⟨a, us, rfl, f1, r1⟩ := hl.get rc rx
  obtain ⟨fus, _⟩ := win_ok fy r fw r1
  refine ⟨a, us, v, rfl, rfl, .inl f1, flat_ok fy r, fus, ?_⟩
  rw [countP_reps fy r r1 fw]
  exact k.here q rc (rep_int.mpr rfl)
end
theorem norefs_mem {w : W} : ∀ {ws : List W}, norefs ws = true → w ∈ ws → noref w = true
  | [], _, h => nomatch h
  | u :: ws, f, h => by
    rw [norefs.eq_def] at f
    simp only [Bool.and_eq_true] at f
    rcases List.mem_cons.mp h with rfl | h
    · exact f.1
    · exact norefs_mem f.2 h
/-- a list of lists that are read -/
theorem repr_ll {n : Nat} {p : Addr} {xs : List W} {yss : List (List W)} {C : Cells} {Q : WK} (hp : LsAt p xs C) (hl : xs.length = yss.length) (h : ∀ (i : Nat) (x : W) (ys : List W), xs[i]? = some x → yss[i]? = some ys → LsV x ys C) (hs : Shd 61 n (.ls (yss.map W.ls))) (hn : n ≤ 16777216) (q : Q (.str (rpr (.ls (yss.map W.ls)))) C) : uRepr [.ref p] C Q := by
  refine ⟨_, dW (.ls (yss.map W.ls)), rfl, fun K H v r => ⟨p, rep_ref.mp r⟩, ?_, hs.sh, hs.nd, hs.dep, Nat.le_trans hs.len (by rw [sizeLine_eq]; exact hn), q⟩
  have hrf := hs.rf
  rw [noref.eq_def] at hrf
  rw [dW, dWs_map, List.map_map]
  refine .lst hp (by rw [hl, List.length_map]) fun i w d e1 e2 => ?_
  rw [List.getElem?_map] at e2
  cases e3 : yss[i]? with
  | none => rw [e3] at e2; cases e2
  | some ys =>
    rw [e3] at e2
    cases e2
    refine (h i w ys e1 e3).dw ?_
    have hm : W.ls ys ∈ yss.map W.ls := List.mem_map.mpr ⟨ys, List.mem_of_getElem? e3, rfl⟩
    have := norefs_mem hrf hm
    rw [noref.eq_def] at this
    exact this
end SL
/-! ### generator defs that may raise ahead of what they hand out -/
namespace SL
open PySem PySem.Spec PyProof.Rows L2 GenW
def NS (K : PySem.W.Frag) (c : Value) : Prop := PySem.W.subIn K c (.type "StopIteration") = some false
section
variable {X : Cx} {k : Nat} {f : Addr} {fd : FuncData} {ps : List Str} {sp : SpG} {W : WX} {x nm : Str} {e : Expr} {es : List Expr} {t : TA} {p p2 pos pos2 : Pos}
/-- list(..) over a generator that was just made -/
theorem list_made {W : WX} {pins : List (Addr × Obj)} {σ : L2.St} {H : Hp} {s : Shared} {Q : VK} {inner : Expr} {cont : List V → Hp → Prop} (hr : Room (k + 3) X.A) (tk : Takes X W) (hgn : Gl X nm) (hmg : X.mg nm = none) (hv : bootBuiltins nm = some (.type "list")) (hnm : nm ≠ "__name__") (hdn : (nm == ("__debug__" : Str)) = false)
    (he2 : starEach [inner] X.env = (false, eval inner X.env) :: starEach [] X.env) (I : L2.Inv X pins σ H s) (hcont : ∀ ys H', cont ys H' → ∀ p, H' p = none → Q (.ref p) (upd H' p (.lst ys)))
    (h : ∀ s, L2.Inv X pins σ H s → wpAny (model X.prog X.w) X.A (eval inner X.env) (fun u s' => ∃ H1 sc ex, L2.Inv X pins σ H1 sc ∧ ExOk X pins ex ∧ GMade X.prog X.w k X.stack H1 sc ex cont (fun c d H' => NS X.K c ∧ W c d σ H') u s') X.xe s) :
    wpAny (model X.prog X.w) X.A (eval (.Call (.Name nm p) [inner] [] pos) X.env) (EP X pins σ Q) X.xe s := by
  have hns : NoStop X.K (fun c d H' => NS X.K c ∧ W c d σ H') := fun _ _ _ h => h.1
  refine wpAny_Call_Name_kw (ld_blt I hgn hmg hv ?_ hnm hdn)
  refine PyProof.Rows.callWith_type1 ?_ he2 rfl
  rw [he2]
  show wpAny _ _ (spliced ((false, eval _ X.env) :: backTo pos (starEach [] X.env))) _ _ s
  refine Calls.spliced_cons (thn (h s I) fun u s1 ⟨H1, sc, ex, I1, hex, hM⟩ => ?_)
  refine Calls.spliced_nil ?_
  have hsz : sc.heap.objs.size ≤ s1.heap.objs.size := by
    obtain ⟨a, g, c, _, h1, h2, _⟩ := hM
    exact Nat.le_trans h1 (Nat.le_of_lt h2)
  refine call_list_new hr I1.ok.frames hM (fun S s' acc c H' ys q0 q1 q2 hl q3 q4 q5 q6 q7 q8 => ?_) fun e s' g hc => ?_
  · exact ⟨.ref S, upd H' S (.lst ys), I1.drained (Nat.le_trans hsz q0) hl q1 q2 hex q3 q4 q5 q6 q7, rfl, hcont ys H' q8 S q7⟩
  · have kin : X.K.In s'.heap := by
      obtain ⟨a, B, H', cls, d, _, fl, _, ub, _⟩ := id hc
      refine I1.ok.mod.kin.keeps fun b o eb => fl.1 b o (ub.keep b o (I1.bs b o eb).1 (I1.bs b o eb).2 fun hm => ?_)
      rcases List.mem_cons.mp (I1.stkSub b hm) with z | z
      · have h1 := Heap.lt_size eb
        have h2 := Nat.le_trans I1.ok.bsz I1.ok.above
        rw [z] at h1
        exact absurd (Nat.lt_of_lt_of_le h1 h2) (Nat.lt_irrefl _)
      · exact I1.ok.nofr eb z
    refine ⟨notStop_of hns kin hc, tk e _ (XE.of_call I1 (E := fun c d H' => NS X.K c ∧ W c d σ H') (fun _ _ _ z => z.2) ?_)⟩
    obtain ⟨a, B, H', cls, d, z1, fl, z2, ub, z3, z4, z5, z6⟩ := hc
    exact ⟨a, B, H', cls, d, z1, fl, z2, ub, z3, z4, allBare_setGen z5 rfl, z6⟩
theorem pe_listGE (F : GFn X.prog X.w X.K X.mg X.base k f fd ps sp) (hr : Room (k + 3) X.A) (hg : Gl X x) (hm : X.mg x = some (.ref f)) (hk : PySem.W.keepIn X.K (.ref f) = true) (hb : Binds X.K fd ps []) (tk : Takes X W) (ha : PA X (e :: es) t)
    (hgn : Gl X nm) (hmg : X.mg nm = none) (hv : bootBuiltins nm = some (.type "list")) (hnm : nm ≠ "__name__" := by decide) (hdn : (nm == ("__debug__" : Str)) = false := by decide) (hdb : (x == ("__debug__" : Str)) = false := by decide)
    (he : starEach (e :: es) X.env = (false, eval e X.env) :: starEach es X.env := by rfl) (hpl : (backTo pos2 (starEach es X.env)).any (·.1) = false := by rfl)
    (he2 : starEach [.Call (.Name x p2) (e :: es) [] pos2] X.env = (false, eval (.Call (.Name x p2) (e :: es) [] pos2) X.env) :: starEach [] X.env := by rfl) :
    PE X (.Call (.Name nm p) [.Call (.Name x p2) (e :: es) [] pos2] [] pos) (fun σ H Q => t σ H fun vs H1 => sp (vs ++ []) H1 (fun out H2 => ∀ p, H2 p = none → Q (.ref p) (upd H2 p (.lst out))) (fun c d H' => NS X.K c ∧ W c d σ H')) := by
  exact ⟨fun pins s σ H Q I hq => list_made hr tk hgn hmg hv hnm hdn he2 I (fun _ _ z => z) fun s I => (pgen_call (dvs := []) (E := fun c d H' => NS X.K c ∧ W c d σ H') (p := p2) (pos' := pos2) F (hr.mono (Nat.le_add_right _ _)) hg hm hk hb .nil ha hdb he hpl).run pins s σ H _ I hq⟩
theorem run_gfnK {ks : List Str} {m : Nat} {o : List Nat} {pins : List (Addr × Obj)} {σ : L2.St} {H : Hp} {s : Shared} {ws : List Value} {zs : List V} {cont : List V → Hp → Prop} {E : XK} {E1 : Value → Shared → Prop} (F : GFn X.prog X.w X.K X.mg X.base k f fd ps sp) (hr : Room k X.A) (hb : KBd fd ps ks 0 m o)
    (I : L2.Inv X pins σ H s) (r : Vals zs ws) (hz : zs.length = m) (h : sp (reord o ([] ++ zs)) H cont E) :
    wpAny (model X.prog X.w) X.A (call (.ref f) [] (ks.zip ws)) (fun u s' => ∃ H1 sc ex, L2.Inv X pins σ H1 sc ∧ ExOk X pins ex ∧ GMade X.prog X.w k X.stack H1 sc ex cont E u s') E1 s := by
  refine wpAny_call (codeAny_mono (F.run X.A X.stack s H ⟨[], ks.zip ws⟩ (reord o ([] ++ ws)) (reord o ([] ++ zs)) cont E hr I.env0 (hb s [] ws rfl (by rw [← r.length]; exact hz)) (reord_vals o (show Vals ([] ++ zs) ([] ++ ws) from r)) h) fun r s' hq => ?_)
  cases r with
  | error e => exact False.elim hq
  | ok fl =>
    cases fl with
    | ret u => exact ⟨H, s, [], I, .nil, hq⟩
    | next => exact False.elim hq
    | brk => exact False.elim hq
    | cont => exact False.elim hq
theorem pe_listGEK {ks : List Str} {m : Nat} {o : List Nat} {kws : List Keyword} {t2 : TA} (F : GFn X.prog X.w X.K X.mg X.base k f fd ps sp) (hr : Room (k + 3) X.A) (hg : Gl X x) (hm : X.mg x = some (.ref f)) (hk : PySem.W.keepIn X.K (.ref f) = true) (hb : KBd fd ps ks 0 m o) (tk : Takes X W) (hkw : PK X kws t2)
    (hgn : Gl X nm) (hmg : X.mg nm = none) (hv : bootBuiltins nm = some (.type "list")) (hnm : nm ≠ "__name__" := by decide) (hdn : (nm == ("__debug__" : Str)) = false := by decide) (hdb : (x == ("__debug__" : Str)) = false := by decide)
    (hall : (backToKw pos2 (keywordEach kws X.env)).all (·.1.isSome) = true := by rfl) (hks : (backToKw pos2 (keywordEach kws X.env)).filterMap (·.1) = ks := by rfl)
    (hpl : ((backTo pos2 (starEach [] X.env)).any (·.1) || (backToKw pos2 (keywordEach kws X.env)).any (·.1.isNone)) = false := by rfl)
    (he2 : starEach [.Call (.Name x p2) [] kws pos2] X.env = (false, eval (.Call (.Name x p2) [] kws pos2) X.env) :: starEach [] X.env := by rfl) :
    PE X (.Call (.Name nm p) [.Call (.Name x p2) [] kws pos2] [] pos) (fun σ H Q => t2 σ H fun zs H1 => zs.length = m ∧ sp (reord o ([] ++ zs)) H1 (fun out H2 => ∀ p, H2 p = none → Q (.ref p) (upd H2 p (.lst out))) (fun c d H' => NS X.K c ∧ W c d σ H')) :=
  ⟨fun pins s σ H Q I hq => list_made hr tk hgn hmg hv hnm hdn he2 I (fun _ _ z => z) fun s I => wpAny_Call_Name_kw (ld_glob I hg hm (PySem.W.callWith_KW0 (h₀ := X.base) I.ok.mod.kin hk hall (thn (hkw.run pos2 pins s σ H _ I hq) fun ws s2 ⟨zs, H2, I2, rz, hz, q2⟩ => ⟨I2.kIn, by
    rw [hks]
    exact run_gfnK F (hr.mono (Nat.le_add_right _ _)) hb I2 rz hz q2⟩) hpl) hdb)⟩
end
/-- a generator def's promise: what it hands out, as the items of a locked list, or an exception ahead of it -/
def spGnE (K : PySem.W.Frag) (sp : SpW) : SpG := fun vs H cont EX => ∃ (ws : List W) (Cs : Cells) (Q : WK) (E : XW), reps K H ws vs ∧ RelC K H Cs ∧ sp ws Cs Q E ∧
  (∀ w C, Q w C → ∃ us, w = .ls us) ∧ (∀ us C vs' H', Q (.ls us) C → Tr K H H' → RelC K H' C → reps K H' us vs' → cont vs' H') ∧
  ∀ C w Cs' d v H', E C w Cs' → Tr K H H' → RelC K H' Cs' → rep K H' w v → XVal H' d v → EX (.ref C) d H'
structure CalGE (P : Program) (w : World) (K : PySem.W.Frag) (mg : Str → Option Value) (base : Heap) (k : Nat) (x : Str) (sp : SpW) (kb : List KSig) : Prop where
  ex : ∃ f fd ps, GFn P w K mg base k f fd ps (spGnE K sp) ∧ mg x = some (.ref f) ∧ PySem.W.keepIn K (.ref f) = true ∧ Binds K fd ps [] ∧ ∀ t, t ∈ kb → KBd fd ps t.1 t.2.1 t.2.2.1 t.2.2.2
theorem okCGE {P : Program} {w : World} {K : PySem.W.Frag} {mg : Str → Option Value} {base : Heap} {k : Nat} {x : Str} {sp : SpW} {st : Stmt} {N ps : List Str} {t : MS} {kb : List KSig} (h : Has K mg x st) (S : GScope N ps (defScope st))
    (bind : ∀ (kV doc pm : Value) (an : Option Addr) (cdv ct : Value) (us : List Value), us.length = ps.length → bindArgs (PySem.W.fnOf x x (defArgs st) (defBody st) (defScope st) .none kV doc pm an cdv ct) { pos := us } = pure (ps.zip us))
    (kbind : ∀ t, t ∈ kb → ∀ (kV doc pm : Value) (an : Option Addr) (cdv ct : Value), KBd (PySem.W.fnOf x x (defArgs st) (defBody st) (defScope st) .none kV doc pm an cdv ct) ps t.1 t.2.1 t.2.2.1 t.2.2.2)
    (len : ∀ ws Cs Q E, sp ws Cs Q E → ws.length = ps.length)
    (der : ∀ (f : Addr) (cdv : Value) (A : Around) (outer : List Env) (s : Shared) (H : Hp) (E : XK) (pn : List (Addr × Obj)), Room k (A.deeper (envOfC x (defScope st) s.heap.objs.size f cdv)) →
      QGn (gcxOf P w K mg base N x (defScope st) f cdv A outer s H E pn) (defBody st) t)
    (pure : ∀ ws Cs Q E, sp ws Cs Q E → t (EndsD Q E) (rho0 ws) Cs) : CalGE P w K mg base (k + 1) x sp kb := by
  obtain ⟨f, fd, hm, F⟩ := h.ex
  have hbi := F.binds bind
  have hkp := F.kp
  obtain ⟨oc, od, kV, doc, pm, an, cdv, ct, osl, rfl, lk, hcd⟩ := F.ex
  have lenV : ∀ vs H Q E, spGnE K sp vs H Q E → vs.length = ps.length := fun vs H Q E ⟨ws, Cs, Q1, E1, r, rc, h, _⟩ => by rw [← reps_len r]; exact len ws Cs Q1 _ h
  refine ⟨f, _, ps, gfn_of lk hcd S lenV fun A outer s H vs Q' E' pn hr h => ⟨_, der f cdv A outer s H E' pn hr (fun cls d _ H => E' cls d H) takes_gcx, ?_⟩, hm, hkp, hbi, fun t ht => kbind t ht kV doc pm an cdv ct⟩
  have hl := lenV vs H Q' E' h
  obtain ⟨ws, Cs, Q, E, r, rc, h, hq, kQ, kE⟩ := h
  have hps : ps.length ≤ N.length := by
    have e := congrArg List.length S.pre
    rw [List.length_take] at e
    omega
  refine ⟨rfl, rho0 ws, Cs, EndsD Q E, ⟨?_, fun i u e => ?_⟩, rc, pure ws Cs Q _ h, fun w C ⟨C', _, q⟩ => hq w C' q, fun ρ C ⟨C', _, q⟩ => ?_, fun _ _ q => q, fun _ _ q => q, ⟨fun us C vs' σ H' ⟨C', hp, q⟩ tr rc' rp => kQ us C' vs' H' q tr (rc'.to hp) rp, fun A u ρ C σ d v H' ⟨C', hp, q⟩ tr _ rc' rp xv => kE A u C' d v H' q tr (rc'.to hp) rp xv⟩⟩
  · show (L2.start N vs).length = N.length
    unfold L2.start
    rw [List.length_append, List.length_map, List.length_replicate]
    omega
  · obtain ⟨v, h1, h2⟩ := reps_get r e
    exact ⟨v, start_get h1, h2⟩
  · obtain ⟨us, e⟩ := hq _ _ q
    cases e
def mListGE [Cls] (rs : List EK) (sp : SpW) (t : MA) : ME := fun E ρ Cs Q => t E ρ Cs fun ws C => sp ws C (fun w C' => ∃ us, w = .ls us ∧ ∀ p, Q (.ref p) ((p, .lst us) :: C')) fun A w C' => (∃ k, A = Cls.ad k ∧ k ∈ rs) ∧ E A w C'
section
variable {X : Cx} {e : Expr} {es : List Expr} {pos p p2 pos2 : Pos} {sp : SpW} {k j : Nat} {x : Str} {tr : MA} {kb : List KSig}
theorem qe_listGE [Cls] {rs : List EK} (C : CalGE X.prog X.w X.K X.mg X.base j x sp kb) (hj : j + 3 ≤ k) (hr : Room k X.A) (hns : ∀ k, k ∈ rs → NS X.K (.ref (Cls.ad k))) (hmg : X.mg "list" = none) (ha : QA X (e :: es) tr) (hl : Gl X "list" := by rfl) (hg : Gl X x := by rfl)
    (hdb : (x == ("__debug__" : Str)) = false := by decide) (he : starEach (e :: es) X.env = (false, eval e X.env) :: starEach es X.env := by rfl) (hpl : (backTo pos2 (starEach es X.env)).any (·.1) = false := by rfl)
    (he2 : starEach [.Call (.Name x p2) (e :: es) [] pos2] X.env = (false, eval (.Call (.Name x p2) (e :: es) [] pos2) X.env) :: starEach [] X.env := by rfl) :
    QE X (.Call (.Name "list" p) [.Call (.Name x p2) (e :: es) [] pos2] [] pos) (mListGE rs sp tr) := by
  obtain ⟨f, fd, ps, h1, h2, h3, h4, _⟩ := C.ex
  refine fun Wx tk => pe_imp (pe_listGE h1 (hr.mono hj) hg h2 h3 h4 tk (ha Wx tk) hl hmg bt_list (by decide) (by decide) hdb he hpl he2) fun σ H Q' ⟨ρ, Cs, E, Q, R, C, h, kQ, kE⟩ => ?_
  refine ⟨ρ, Cs, E, _, R, C, h, fun ws C1 vs H1 q tr1 rc rp => ⟨ws, C1, _, _, by rw [List.append_nil]; exact rp, rc, q, fun w C2 ⟨us, e, _⟩ => ⟨us, e⟩, fun us C2 vs' H2 ⟨us', e, q⟩ tr2 rc2 r2 p hp => ?_, fun A w C2 d v H2 ⟨⟨k, e, hk⟩, q⟩ tr2 rc2 r2 xv => ⟨by rw [e]; exact hns k hk, kE.ex A w C2 d v H2 q (tr1.trans tr2) rc2 r2 xv⟩⟩, kE⟩
  cases e
  exact kQ (.ref p) ((p, .lst us) :: C2) (.ref p) (upd H2 p (.lst vs')) (q p) ((tr1.trans tr2).trans (tr_new hp)) (rc2.new hp ⟨vs', upd_same, reps_mono (tr_new hp) _ _ r2⟩) (rep_ref.mpr rfl)
def mListGEK [Cls] (rs : List EK) (sp : SpW) (m : Nat) (o : List Nat) (t : MA) : ME := fun E ρ Cs Q => t E ρ Cs fun ws C => ws.length = m ∧ sp (reord o ([] ++ ws)) C (fun w C' => ∃ us, w = .ls us ∧ ∀ p, Q (.ref p) ((p, .lst us) :: C')) fun A w C' => (∃ k, A = Cls.ad k ∧ k ∈ rs) ∧ E A w C'
theorem qe_listGEK [Cls] {rs : List EK} {ks : List Str} {m : Nat} {o : List Nat} {kws : List Keyword} {t2 : MA} (C : CalGE X.prog X.w X.K X.mg X.base j x sp kb) (hj : j + 3 ≤ k) (hr : Room k X.A) (hk : (ks, 0, m, o) ∈ kb) (hns : ∀ k, k ∈ rs → NS X.K (.ref (Cls.ad k))) (hmg : X.mg "list" = none) (hkw : QK X kws t2) (hl : Gl X "list" := by rfl) (hg : Gl X x := by rfl)
    (hdb : (x == ("__debug__" : Str)) = false := by decide) (hall : (backToKw pos2 (keywordEach kws X.env)).all (·.1.isSome) = true := by rfl) (hks : (backToKw pos2 (keywordEach kws X.env)).filterMap (·.1) = ks := by rfl)
    (hpl : ((backTo pos2 (starEach [] X.env)).any (·.1) || (backToKw pos2 (keywordEach kws X.env)).any (·.1.isNone)) = false := by rfl)
    (he2 : starEach [.Call (.Name x p2) [] kws pos2] X.env = (false, eval (.Call (.Name x p2) [] kws pos2) X.env) :: starEach [] X.env := by rfl) :
    QE X (.Call (.Name "list" p) [.Call (.Name x p2) [] kws pos2] [] pos) (mListGEK rs sp m o t2) := by
  obtain ⟨f, fd, ps, h1, h2, h3, _, h5⟩ := C.ex
  refine fun Wx tk => pe_imp (pe_listGEK h1 (hr.mono hj) hg h2 h3 (h5 _ hk) tk (hkw Wx tk) hl hmg bt_list (by decide) (by decide) hdb hall hks hpl he2) fun σ H Q' ⟨ρ, Cs, E, Q, R, C, h, kQ, kE⟩ => ?_
  refine ⟨ρ, Cs, E, _, R, C, h, fun ws C1 vs H1 q tr1 rc rp => ⟨by rw [← reps_len rp]; exact q.1, _, C1, _, _, reord_reps o (reps_app (reps_nil.mpr rfl) rp), rc, q.2, fun w C2 ⟨us, e, _⟩ => ⟨us, e⟩, fun us C2 vs' H2 ⟨us', e, q⟩ tr2 rc2 r2 p hp => ?_, fun A w C2 d v H2 ⟨⟨k, e, hk⟩, q⟩ tr2 rc2 r2 xv => ⟨by rw [e]; exact hns k hk, kE.ex A w C2 d v H2 q (tr1.trans tr2) rc2 r2 xv⟩⟩, kE⟩
  cases e
  exact kQ (.ref p) ((p, .lst us) :: C2) (.ref p) (upd H2 p (.lst vs')) (q p) ((tr1.trans tr2).trans (tr_new hp)) (rc2.new hp ⟨vs', upd_same, reps_mono (tr_new hp) _ _ r2⟩) (rep_ref.mpr rfl)
end
end SL
/-! ### what a value shows: a tree without addresses -/
namespace SL
open PySem PySem.Spec PyProof.Rows L2
mutual
inductive Vw (Cs : Cells) : W → W → Prop
  | flat {w : W} (h : noref w = true) : Vw Cs w w
  | ref {a : Addr} {ws ts : List W} (h : LsAt a ws Cs) (hd : Vws Cs ws ts) : Vw Cs (.ref a) (.ls ts)
inductive Vws (Cs : Cells) : List W → List W → Prop
  | nil : Vws Cs [] []
  | cons {w t : W} {ws ts : List W} (h : Vw Cs w t) (hd : Vws Cs ws ts) : Vws Cs (w :: ws) (t :: ts)
end
theorem Vws.flat {Cs : Cells} : ∀ {ws : List W}, norefs ws = true → Vws Cs ws ws
  | [], _ => .nil
  | w :: ws, h => by
    rw [norefs, Bool.and_eq_true] at h
    exact .cons (.flat h.1) (Vws.flat h.2)
theorem Vws.len {Cs : Cells} : ∀ {ws ts : List W}, Vws Cs ws ts → ws.length = ts.length
  | _, _, .nil => rfl
  | _, _, .cons _ hd => by rw [List.length_cons, List.length_cons, Vws.len hd]
theorem Vws.at {Cs : Cells} : ∀ {ws ts : List W} {i : Nat} {t : W}, Vws Cs ws ts → ts[i]? = some t → ∃ w, ws[i]? = some w ∧ Vw Cs w t
  | _, _, _, _, .nil, e => by simp at e
  | _, _, 0, _, .cons h _, e => by
    simp at e
    subst e
    exact ⟨_, rfl, h⟩
  | _, _, i + 1, _, .cons _ hd, e => by
    obtain ⟨w, h1, h2⟩ := Vws.at (i := i) hd (by simpa using e)
    exact ⟨w, by simpa using h1, h2⟩
mutual
theorem Vw.mono {Cs Ds : Cells} (h : ∀ a ws, LsAt a ws Cs → LsAt a ws Ds) : ∀ {w t : W}, Vw Cs w t → Vw Ds w t
  | _, _, .flat f => .flat f
  | _, _, .ref l hd => .ref (h _ _ l) (Vws.mono h hd)
theorem Vws.mono {Cs Ds : Cells} (h : ∀ a ws, LsAt a ws Cs → LsAt a ws Ds) : ∀ {ws ts : List W}, Vws Cs ws ts → Vws Ds ws ts
  | _, _, .nil => .nil
  | _, _, .cons a b => .cons (Vw.mono h a) (Vws.mono h b)
end
theorem Vw.skip {Cs : Cells} {c : Addr × MO} {w t : W} (h : Vw Cs w t) : Vw (c :: Cs) w t := h.mono fun _ _ l => List.mem_cons_of_mem _ l
theorem Vw.lv {Cs : Cells} {x : W} {ts : List W} (h : Vw Cs x (.ls ts)) : ∃ us, LsV x us Cs ∧ Vws Cs us ts := by
  cases h with
  | flat f => rw [noref.eq_def] at f; exact ⟨ts, rfl, .flat f⟩
  | ref l hd => exact ⟨_, l, hd⟩
/-- a list that is read shows itself -/
theorem LsV.vw {Cs : Cells} {x : W} {ws : List W} (h : LsV x ws Cs) (f : norefs ws = true) : Vw Cs x (.ls ws) := by
  cases x with
  | ref a => exact .ref h (.flat f)
  | ls us =>
    obtain rfl : us = ws := h
    exact .flat (by rw [noref.eq_def]; exact f)
  | _ => exact False.elim h
mutual
theorem Vw.dw {Cs : Cells} : ∀ {w t : W}, Vw Cs w t → Dw Cs w (dW t)
  | _, _, .flat f => .flat f
  | _, _, .ref (ts := ts) l hd => by
    rw [dW, dWs_map]
    exact .lst l (by rw [hd.len, List.length_map]) fun i w d e1 e2 => by
      rw [List.getElem?_map] at e2
      cases e3 : ts[i]? with
      | none => rw [e3] at e2; cases e2
      | some t =>
        rw [e3] at e2
        cases e2
        exact Vws.dws hd i w t e1 e3
theorem Vws.dws {Cs : Cells} : ∀ {ws ts : List W}, Vws Cs ws ts → ∀ (i : Nat) (w t : W), ws[i]? = some w → ts[i]? = some t → Dw Cs w (dW t)
  | _, _, .nil, _, _, _, e, _ => by simp at e
  | _, _, .cons h _, 0, _, _, e1, e2 => by
    simp at e1 e2
    subst e1 e2
    exact Vw.dw h
  | _, _, .cons _ hd, i + 1, w, t, e1, e2 => Vws.dws hd i w t (by simpa using e1) (by simpa using e2)
end
/-- repr of what shows a tree -/
theorem repr_r {n : Nat} {p : Addr} {t : W} {C : Cells} {Q : WK} (l : Vw C (.ref p) t) (h : Shd 61 n t) (hn : n ≤ 16777216) (q : Q (.str (rpr t)) C) : uRepr [.ref p] C Q :=
  ⟨.ref p, dW t, rfl, fun K H v r => ⟨p, rep_ref.mp r⟩, l.dw, h.sh, h.nd, h.dep, Nat.le_trans h.len (by rw [sizeLine_eq]; exact hn), q⟩
/-! ### the laws' own comparison by kinds -/
/-- of depth at most n, of lists that are not too long -/
def SzW : Nat → W → Prop
  | _, .non => True
  | _, .bl _ => True
  | _, .int _ => True
  | _, .str _ => True
  | n + 1, .ls xs => xs.length ≤ 90000 ∧ ∀ x, x ∈ xs → SzW n x
  | n + 1, .tup xs => xs.length ≤ 90000 ∧ ∀ x, x ∈ xs → SzW n x
  | _, _ => False
theorem SzW.ls {n : Nat} {xs : List W} : SzW (n + 1) (.ls xs) ↔ xs.length ≤ 90000 ∧ ∀ x, x ∈ xs → SzW n x := by rw [SzW]
theorem SzW.tup {n : Nat} {xs : List W} : SzW (n + 1) (.tup xs) ↔ xs.length ≤ 90000 ∧ ∀ x, x ∈ xs → SzW n x := by rw [SzW]
theorem SzW.rf : ∀ {n : Nat} {w : W}, SzW n w → noref w = true
  | n, .non, _ => by rw [noref.eq_def]
  | n, .bl _, _ => by rw [noref.eq_def]
  | n, .int _, _ => by rw [noref.eq_def]
  | n, .str _, _ => by rw [noref.eq_def]
  | n + 1, .ls xs, h => by
    rw [noref.eq_def]; dsimp only; rw [norefs_all]
    exact List.all_eq_true.mpr fun x hx => SzW.rf ((SzW.ls.mp h).2 x hx)
  | n + 1, .tup xs, h => by
    rw [noref.eq_def]; dsimp only; rw [norefs_all]
    exact List.all_eq_true.mpr fun x hx => SzW.rf ((SzW.tup.mp h).2 x hx)
  | 0, .ls xs, h => by simp [SzW] at h
  | 0, .tup xs, h => by simp [SzW] at h
  | n, .ref _, h => by cases n <;> simp [SzW] at h
  | n, .ty _, h => by cases n <;> simp [SzW] at h
  | n, .cst _ _, h => by cases n <;> simp [SzW] at h
  | n, .exn _ _ _, h => by cases n <;> simp [SzW] at h
theorem SzW.int {n : Nat} {i : Int} : SzW n (.int i) := by cases n <;> trivial
theorem SzW.str {n : Nat} {i : Str} : SzW n (.str i) := by cases n <;> trivial
theorem SzW.bl {n : Nat} {i : Bool} : SzW n (.bl i) := by cases n <;> trivial
theorem SzW.non {n : Nat} : SzW n .non := by cases n <;> trivial
theorem SzW.gW {n : Nat} : ∀ {g : Go}, SzW n (gW g)
  | none => .non
  | some _ => .int
theorem SzW.all {n : Nat} {ws : List W} (h : ∀ w, w ∈ ws → SzW n w) : norefs ws = true := by
  rw [norefs_all]
  exact List.all_eq_true.mpr fun x hx => SzW.rf (h x hx)
/-- both show one tree -/
def spSameV : Nat → SpW
  | 0 => fun _ _ _ _ => False
  | n + 1 => sp2 fun x y Cs Q _ => ∃ t, Vw Cs x t ∧ Vw Cs y t ∧ SzW n t ∧ Q (.bl true) Cs
theorem lenSameV : ∀ n ws Cs Q E, spSameV n ws Cs Q E → ws.length = 2
  | 0, _, _, _, _, h => h.elim
  | n + 1, ws, Cs, Q, E, ⟨_, _, e, _⟩ => by rw [e]; rfl
theorem same_v {n : Nat} {x y t : W} {Cs : Cells} {Q : WK} {E : XW} (h1 : Vw Cs x t) (h2 : Vw Cs y t) (h3 : SzW n t) (k : Q (.bl true) Cs) : spSameV (n + 1) [x, y] Cs Q E := ⟨_, _, rfl, t, h1, h2, h3, k⟩
theorem same_c {n : Nat} {x y t : W} {Cs : Cells} {Q : WK} {E : XW} (h1 : Vw Cs x t) (h2 : Vw Cs y t) (h3 : SzW n t) (k : Q (.bl true) Cs) : cl (spSameV (n + 1)) [x, y] Cs Q E := cl_h (same_v h1 h2 h3 k)
theorem same_t {n : Nat} {t : W} {Cs : Cells} {Q : WK} {E : XW} (h3 : SzW n t) (k : Q (.bl true) Cs) : spSameV (n + 1) [t, t] Cs Q E := same_v (.flat h3.rf) (.flat h3.rf) h3 k
theorem same_r {n : Nat} {p : Addr} {ts us : List W} {Cs : Cells} {Q : WK} {E : XW} (h : LsAt p us Cs) (e : us = ts) (h3 : SzW n (.ls ts)) (k : Q (.bl true) Cs) : spSameV (n + 1) [.ref p, .ls ts] Cs Q E := by
  subst e
  exact same_v (.ref h (.flat (by have := h3.rf; rw [noref.eq_def] at this; exact this))) (.flat h3.rf) h3 k
theorem sz_spot {n : Nat} {r : Int} {g : Go} : SzW (n + 1) (.tup [.int r, gW g]) := SzW.tup.mpr ⟨by simp, fun w hw => by
  simp only [List.mem_cons, List.not_mem_nil, or_false] at hw
  rcases hw with rfl | rfl
  · exact .int
  · exact .gW⟩
theorem sz_l1 {n : Nat} {a : W} (h : SzW n a) : SzW (n + 1) (.ls [a]) := SzW.ls.mpr ⟨by simp, fun w hw => by rw [List.mem_singleton.mp hw]; exact h⟩
theorem sz_l2 {n : Nat} {a b : W} (h : SzW n a) (h2 : SzW n b) : SzW (n + 1) (.ls [a, b]) := SzW.ls.mpr ⟨by simp, fun w hw => by
  simp only [List.mem_cons, List.not_mem_nil, or_false] at hw
  rcases hw with rfl | rfl <;> assumption⟩
theorem sz_l3 {n : Nat} {a b c : W} (h : SzW n a) (h2 : SzW n b) (h3 : SzW n c) : SzW (n + 1) (.ls [a, b, c]) := SzW.ls.mpr ⟨by simp, fun w hw => by
  simp only [List.mem_cons, List.not_mem_nil, or_false] at hw
  rcases hw with rfl | rfl | rfl <;> assumption⟩
theorem sz_t3 {n : Nat} {a b c : W} (h : SzW n a) (h2 : SzW n b) (h3 : SzW n c) : SzW (n + 1) (.tup [a, b, c]) := SzW.tup.mpr ⟨by simp, fun w hw => by
  simp only [List.mem_cons, List.not_mem_nil, or_false] at hw
  rcases hw with rfl | rfl | rfl <;> assumption⟩
end SL
/-! ### try .. except without a name -/
namespace SL
open PySem PySem.Spec PyProof.Rows L2
/-- what the clause wishes of an exception of the body: no name -/
def wExn0 (K : PySem.W.Frag) (c : Value) (ts : TS) (Wout : WX) (D : Ends) : WX := fun cls d σ H =>
  ∃ b, PySem.W.exmOne K cls c = some b ∧ (b = true → ts D σ H) ∧
    (b = false → Wout cls d σ H)
section
variable {X : Cx} {x : Str} {c : Value} {body suite : List Stmt} {b₀ : Stmt} {np pos pos' : Pos} {tb : WX → TS} {ts : TS} {Wout : WX}
theorem ps_try_exn0 (hs : X.stack = X.env :: X.outer) (hf : X.env.frame = some X.env.locals) (hex : X.ex = []) (hc : Names X x c) (tk : Takes X Wout)
    (hb : ∀ (W : WX) (pn : List (Addr × Obj)) (xe : Value → Shared → Prop), Takes (X.tr pn xe) W → PassesOwn (model X.prog X.w) X.A X.env xe → PSs (X.tr pn xe) body (tb W))
    (hsu : ∀ (a : Addr) (pn : List (Addr × Obj)), PSs (X.suite a pn) (b₀ :: suite) ts) :
    L2.PS X (.Try body [.ExceptHandler (some (.Name x np)) none (b₀ :: suite) pos'] [] [] pos) (fun D σ H => tb (wExn0 X.K c ts Wout D) D σ H) := by
  refine ⟨fun pins s σ H D I h => ?_⟩
  have ok := I.ok
  have hfr : X.A.frames = some (X.env :: X.outer) := by rw [ok.frames, hs]
  refine wpAny_Try_except ?_
  let xe : Value → Shared → Prop := fun e s₁ => wpAny (model X.prog X.w) X.A (noteFrame e X.env) (fun _ s₂ => wpAny (model X.prog X.w) X.A (setFlight e none) (fun _ s₃ => wpAny (model X.prog X.w) X.A (handleBy e X.env [.ExceptHandler (some (.Name x np)) none (b₀ :: suite) pos']) (SP X pins D) X.xe s₃) X.xe s₂) X.xe s₁
  have tk2 : Takes (X.tr (X.pn ++ pins) xe) (wExn0 X.K c ts Wout D) := by
    rintro u s' ⟨a, B, sI, pins', σ', H', cls, d, rfl, J', nb, up, sky, na, os, ag, b, hb1, hyes, hno⟩
    have J : L2.Inv X pins σ' H' sI := Inv.ofTry J' ok
    have sky' : Sky B (X.env :: X.outer) a (Zc cls d) X.env.locals s'.heap := by rw [← hs]; exact sky
    show wpAny (model X.prog X.w) X.A (noteFrame (.ref a) X.env) _ X.xe s'
    refine Sky.land Zc.steady hfr hf sky' fun h3 fl3 up3 => ?_
    have J3 : L2.Inv X pins σ' H' { s' with heap := h3 } := J.landed nb fl3.1 (up.trans up3) os ag
    obtain ⟨oe3, vs3, he3, hz3, hd3⟩ := fl3.there
    have nfr : a ∉ frs (X.env :: X.outer) := fun hm => by
      obtain ⟨_, o', e', hnf⟩ := fl3.2.2.1.mem hm
      rw [he3] at e'
      cases e'
      exact hnf _ hd3
    have nL : a ≠ X.env.locals := fun z => nfr (List.mem_filterMap.mpr ⟨X.env, List.mem_cons_self, by rw [hf, z]⟩)
    have notB : ∀ {o : Obj}, sI.heap.get? a = some o → False := fun {o} e => by
      have := nb a o e (by show a ∉ frs X.stack; rw [hs]; exact nfr)
      rw [fl3.2.1] at this
      cases this
    have n0 : X.s_0.heap.get? a = none := by
      cases e : X.s_0.heap.get? a with
      | none => rfl
      | some o =>
        obtain ⟨o', e2⟩ := J.base.there a o e (by rw [hex]; exact fun z => nomatch z)
        exact (notB e2).elim
    have npn : ∀ p ∈ X.pn ++ pins, p.1 ≠ a := fun p hp z => by
      have e := (J.pin p hp).1
      rw [z] at e
      exact notB e
    have S3 := inv_suite J3 a
    refine wpAny_handleBy_cons (codeAny_handlers_test ?_) (by intro q; cases q)
    have LT : PySem.W.Looks (model X.prog X.w) h3 (typeOf (.ref a)) cls := fun A Q E s k q => wpAny_typeOf_ref (k _ _ he3) (by rw [hz3.1]; exact q)
    have LM := PySem.W.exm_one (M := model X.prog X.w) (J3.kIn) LT hb1
    have test : ∀ {Q : Value → Shared → Prop} {E : Value → Shared → Prop}, Q c { s' with heap := h3 } → wpAny (model X.prog X.w) (X.A.mark (some (.ref a))) (eval (.Name x np) X.env) Q E { s' with heap := h3 } := fun {Q E} q => by
      obtain ⟨hg, hdbg, hm | ⟨hm, hv, hnn⟩⟩ := hc
      · exact ld_glob (X := X.suite a (X.pn ++ pins)) S3 hg hm q hdbg
      · exact ld_blt (X := X.suite a (X.pn ++ pins)) S3 hg hm hv q hnn hdbg
    refine test (LM.here ?_)
    cases b with
    | true =>
      refine codeAny_handlers_suite ?_
      refine HandSPX.lands_againZ fl3 fun h4 fl4 up4 => ?_
      have J4 : L2.Inv X pins σ' H' { s' with heap := h4 } := J.landed nb fl4.1 ((up.trans up3).trans up4) os ag
      have S4 := inv_suite J4 a
      refine wpAny_mono ((hsu a (X.pn ++ pins)).run [] _ _ _ _ S4 (hyes rfl)) (fun f s6 hsp => ?_) (fun _ _ z => False.elim z)
      cases f with
      | next =>
        obtain ⟨σ6, H6, S6, q6⟩ := hsp
        exact ⟨_, _, inv_unsuite S6 ok, q6⟩
      | brk =>
        obtain ⟨σ6, H6, S6, q6⟩ := hsp
        exact ⟨_, _, inv_unsuite S6 ok, q6⟩
      | cont =>
        obtain ⟨σ6, H6, S6, q6⟩ := hsp
        exact ⟨_, _, inv_unsuite S6 ok, q6⟩
      | ret u =>
        obtain ⟨v6, σ6, H6, S6, r6, q6⟩ := hsp
        exact ⟨_, _, _, inv_unsuite S6 ok, r6, q6⟩
    | false =>
      show wpAny _ X.A (handleBy (.ref a) X.env []) _ _ _
      refine wpAny_handleBy_nil ?_
      obtain ⟨k1, k2, k3, oe, vs, T, oT, ts', he, hz, hd, h1, hr⟩ := id fl3
      unfold PySem.passOn
      refine wpAny_bind (wpAny_field he hd h1 ?_)
      rw [if_neg (show ¬ ((Value.ref T == Value.none) = true) from by simp)]
      have fin : wpAny (model X.prog X.w) X.A (setFlight (.ref a) X.env.frame) (fun _ s4 => wpAny (model X.prog X.w) X.A (throw (.ref a) : Sem Flow) (SP X pins D) X.xe s4) X.xe { s' with heap := h3 } := by
        rw [hf]
        refine HandSPX.setFlight_upZ fl3 fun h4 hh4 up4 => wpAny_throw (tk _ _ ?_)
        exact ⟨a, B, sI, pins, σ', H', cls, d, rfl, J, nb, (up.trans up3).trans up4, .inr (.inr (by rw [hs]; exact hh4)), na, os, ag, hno rfl⟩
      first
        | exact wpAny_bind (wpAny_pure (wpAny_bind fin))
        | exact wpAny_bind fin
  have run := (hb (wExn0 X.K c ts Wout D) (X.pn ++ pins) xe tk2 PassesOwn.looking).run [] s σ H D (I.toTry xe) h
  refine wpAny_mono run (fun fl s1 hq => ?_) (fun e s1 he => he)
  cases fl with
  | next =>
    obtain ⟨σ1, H1, I1, q⟩ := hq
    exact wpAny_execs_nil ⟨σ1, H1, Inv.ofTry I1 I.ok, q⟩
  | ret u =>
    obtain ⟨v, σ1, H1, I1, rv, q⟩ := hq
    exact ⟨v, σ1, H1, Inv.ofTry I1 I.ok, rv, q⟩
  | brk =>
    obtain ⟨σ1, H1, I1, q⟩ := hq
    exact ⟨σ1, H1, Inv.ofTry I1 I.ok, q⟩
  | cont =>
    obtain ⟨σ1, H1, I1, q⟩ := hq
    exact ⟨σ1, H1, Inv.ofTry I1 I.ok, q⟩
end
def sTry0 [Cls] (rs : List EK) (m : EK → Bool) (tb ts : MS) : MS := fun D ρ Cs => tb { D with ex := fun C w ρ' C' => ∃ k, C = Cls.ad k ∧ k ∈ rs ∧
  (m k = true → ts { D with ex := fun _ _ _ _ => False } ρ' C') ∧ (m k = false → D.ex (Cls.ad k) w ρ' C') } ρ Cs
section
variable {X : Cx} {x : Str} {c : Value} {body suite : List Stmt} {b₀ : Stmt} {np pos pos' : Pos} {tb ts : MS}
theorem qs_try0 [Cls] {rs : List EK} {m : EK → Bool} (hs : X.stack = X.env :: X.outer) (hf : X.env.frame = some X.env.locals) (hex : X.ex = []) (hc : Names X x c)
    (hm : ∀ k, k ∈ rs → PySem.W.exmOne X.K (.ref (Cls.ad k)) c = some (m k))
    (hb : ∀ (pn : List (Addr × Obj)) (xe : Value → Shared → Prop), PassesOwn (model X.prog X.w) X.A X.env xe → QSs (X.tr pn xe) body tb)
    (hsu : ∀ (a : Addr) (pn : List (Addr × Obj)), QSs (X.suite a pn) (b₀ :: suite) ts) :
    QS X (.Try body [.ExceptHandler (some (.Name x np)) none (b₀ :: suite) pos'] [] [] pos) (sTry0 rs m tb ts) := fun Wx tk =>
  ps_imp (ps_try_exn0 (tb := fun W => liftS X W tb) (ts := liftS X (fun _ _ _ _ => False) ts) hs hf hex hc tk (fun W pn xe tk2 po => pss_imp (hb pn xe po W tk2) fun D σ H ⟨ρ, Cs, DW, R, C, h, L⟩ => ⟨ρ, Cs, DW, R, C, h, ⟨L.nx, L.rt, L.bk, L.ct, L.ex⟩⟩) (fun a pn => pss_imp (hsu a pn (fun _ _ _ _ => False) fun u s' ⟨_, _, _, _, _, _, _, _, _, _, _, _, _, _, _, _, z⟩ => z.elim) fun D σ H ⟨ρ, Cs, DW, R, C, h, L⟩ => ⟨ρ, Cs, DW, R, C, h, ⟨L.nx, L.rt, L.bk, L.ct, L.ex⟩⟩)) fun D σ H ⟨ρ, Cs, DW, R, C, h, L⟩ => by
    refine ⟨ρ, Cs, _, R, C, h, ?_⟩
    refine ⟨L.nx, L.rt, L.bk, L.ct, fun C w ρ' C' σ' d v H' q tr R' rc rp xv => ?_⟩
    obtain ⟨k, rfl, hk, q1, q2⟩ := q
    obtain ⟨dx, ed, hdx⟩ := xv
    refine ⟨m k, hm k hk, fun e => ⟨ρ', C', _, R', rc, q1 e, ?_⟩, fun e => L.ex _ w ρ' C' σ' d v H' (q2 e) tr R' rc rp ⟨dx, ed, hdx⟩⟩
    exact ⟨fun ρ2 C2 σ2 H2 q t2 R2 rc2 => L.nx _ _ _ _ q (tr.trans t2) R2 rc2, fun w2 C2 v2 H2 q t2 rc2 rp2 => L.rt _ _ _ _ q (tr.trans t2) rc2 rp2, fun ρ2 C2 σ2 H2 q t2 R2 rc2 => L.bk _ _ _ _ q (tr.trans t2) R2 rc2, fun ρ2 C2 σ2 H2 q t2 R2 rc2 => L.ct _ _ _ _ q (tr.trans t2) R2 rc2, fun _ _ _ _ _ _ _ _ z => z.elim⟩
end
end SL
/-! ### arguments that may be wrong (points 4 to 6) -/
namespace SL
open PySem PySem.Spec PyProof.Rows L2
/-- the first one of some kind -/
def fbad {α : Type} (p : α → Bool) : List α → Nat → Option Nat
  | [], _ => none
  | a :: l, i => if p a = true then some i else fbad p l (i + 1)
theorem fbad_app {α : Type} {p : α → Bool} : ∀ (a b : List α) (i : Nat), (∀ x, x ∈ a → p x = false) → fbad p (a ++ b) i = fbad p b (i + a.length)
  | [], b, i, _ => rfl
  | x :: a, b, i, h => by
    rw [List.cons_append, fbad, if_neg (by rw [h x List.mem_cons_self]; simp), fbad_app a b (i + 1) fun y hy => h y (List.mem_cons_of_mem _ hy), List.length_cons]
    congr 1
    omega
theorem fbad_none {α : Type} {p : α → Bool} : ∀ (a : List α) (i : Nat), fbad p a i = none ↔ ∀ x, x ∈ a → p x = false
  | [], i => ⟨fun _ x h => (nomatch h), fun _ => rfl⟩
  | x :: a, i => by
    rw [fbad]
    by_cases h : p x = true
    · rw [if_pos h]
      refine ⟨fun e => (nomatch e), fun e => ?_⟩
      rw [e x List.mem_cons_self] at h
      cases h
    · rw [if_neg h, fbad_none a]
      refine ⟨fun e y hy => ?_, fun e y hy => e y (List.mem_cons_of_mem _ hy)⟩
      rcases List.mem_cons.mp hy with rfl | hy
      · exact Bool.eq_false_iff.mpr h
      · exact e y hy
theorem fbad_at {α : Type} {p : α → Bool} {l pre post : List α} {c : α} (e : l = pre ++ c :: post) (h : ∀ x, x ∈ pre → p x = false) (hc : p c = true) : fbad p l 0 = some pre.length := by
  rw [e, fbad_app _ _ _ h, fbad, if_pos hc, Nat.zero_add]
theorem items_ew {ws : List W} {kp : Cells → Prop} : Items ⟨ws.length, kp, fun i w => ∃ u, ws[i]? = some u ∧ w = .tup [.int (i : Nat), u]⟩ ws.zipIdx (fun p => .tup [.int (p.2 : Nat), p.1]) := by
  have h := items_e (xs := ws) (enc := id) (kp := kp) (n := ws.length) (by simp)
  rw [List.map_id] at h
  exact h
/-- the value of a text's error -/
def dueT (ln : List Int) : Option W := if ln = [] then some .non else (fbad (fun x => decide (x < 0)) ln 0).map fun i => .int (i : Nat)
theorem dueT_none {ln : List Int} : dueT ln = none ↔ ln ≠ [] ∧ ∀ x, x ∈ ln → 0 ≤ x := by
  unfold dueT
  by_cases h : ln = []
  · rw [if_pos h]
    exact ⟨fun e => (nomatch e), fun e => absurd h e.1⟩
  · rw [if_neg h, Option.map_eq_none_iff, fbad_none]
    refine ⟨fun e => ⟨h, fun x hx => ?_⟩, fun e x hx => ?_⟩
    · have := e x hx
      rw [decide_eq_false_iff_not] at this
      omega
    · rw [decide_eq_false_iff_not]
      have := e.2 x hx
      omega
/-- a cursor within a text -/
def spotOk (n : Int) (row : Int) (g : Go) : Prop := (0 ≤ row ∧ row < n) ∧ g0 g
instance {g : Go} : Decidable (g0 g) := by unfold g0; infer_instance
instance {n row : Int} {g : Go} : Decidable (spotOk n row g) := by unfold spotOk g0; infer_instance
/-- a tuple that may be a command: its name, its numbers -/
structure RawB (w : W) : Prop where
  form : w = .tup [] ∨ ∃ (nm : Str) (ns : List Int), w = .tup (.str nm :: ns.map W.int) ∧ ∀ n, n ∈ ns → n ≤ BIG
  shd : Shd 1 300 w
  dk : Dk true 1 w
def dirN (nm : Str) : Option Dir := if nm = "down" then some .down else if nm = "up" then some .up else if nm = "right" then some .right else if nm = "left" then some .left else none
def rcO : W → Option Cmd
  | .tup [.str nm] => if nm = "home" then some .home else if nm = "end" then some .fin else none
  | .tup [.str nm, .int n] => if 1 ≤ n then (dirN nm).map fun d => .go d n else none
  | _ => none
theorem dirN_nm (d : Dir) : dirN d.nm = some d := by cases d <;> decide +kernel
theorem dirN_back {nm : Str} {d : Dir} (h : dirN nm = some d) : nm = d.nm := by
  unfold dirN at h
  split at h
  · next e => cases h; exact e
  split at h
  · next e => cases h; exact e
  split at h
  · next e => cases h; exact e
  split at h
  · next e => cases h; exact e
  cases h
theorem rcO_w {c : Cmd} (h : c.ok BIG) : rcO c.w = some c := by
  cases c with
  | go d n =>
    show (if 1 ≤ n then (dirN d.nm).map fun d => Cmd.go d n else none) = _
    rw [if_pos h.1, dirN_nm]
    rfl
  | home => decide +kernel
  | fin => decide +kernel
theorem rcO_back {w : W} {c : Cmd} (hw : RawB w) (h : rcO w = some c) : w = c.w ∧ c.ok BIG := by
  rcases hw.form with rfl | ⟨nm, ns, rfl, hn⟩
  · cases h
  · match ns, hn with
    | [], _ =>
      have h : (if nm = "home" then some Cmd.home else if nm = "end" then some .fin else none) = some c := h
      split at h
      · next e => cases h; rw [e]; exact ⟨rfl, trivial⟩
      split at h
      · next e => cases h; rw [e]; exact ⟨rfl, trivial⟩
      cases h
    | [n], hn =>
      have h : (if 1 ≤ n then (dirN nm).map fun d => Cmd.go d n else none) = some c := h
      split at h
      · next e =>
        cases e2 : dirN nm with
        | none => rw [e2] at h; cases h
        | some d =>
          rw [e2] at h
          cases h
          rw [dirN_back e2]
          exact ⟨rfl, e, hn n List.mem_cons_self⟩
      · cases h
    | n :: m :: r, _ => cases h
/-- the first tuple that is no command -/
def badC (rs : List W) : Option Nat := fbad (fun w => (rcO w).isNone) rs 0
theorem badC_none : ∀ {rs : List W}, (∀ r, r ∈ rs → RawB r) → badC rs = none → ∃ cs, rs = cs.map Cmd.w ∧ okM cs := by
  intro rs
  induction rs with
  | nil => exact fun _ _ => ⟨[], rfl, fun c hc => nomatch hc⟩
  | cons r rs ih =>
    intro hr h
    have h := (fbad_none _ _).mp h
    obtain ⟨cs, e, hc⟩ := ih (fun x hx => hr x (List.mem_cons_of_mem _ hx)) ((fbad_none _ _).mpr fun x hx => h x (List.mem_cons_of_mem _ hx))
    have hn := h r List.mem_cons_self
    cases e2 : rcO r with
    | none => rw [e2] at hn; cases hn
    | some c =>
      obtain ⟨h1, h2⟩ := rcO_back (hr r List.mem_cons_self) e2
      exact ⟨c :: cs, by rw [h1, e]; rfl, fun d hd => by
        rcases List.mem_cons.mp hd with rfl | hd
        · exact h2
        · exact hc d hd⟩
theorem badC_w {cs : List Cmd} (h : okM cs) : badC (cs.map Cmd.w) = none := by
  refine (fbad_none _ _).mpr fun w hw => ?_
  obtain ⟨c, hc, rfl⟩ := List.mem_map.mp hw
  rw [rcO_w (h c hc)]
  rfl
theorem shd_str {x : Str} {n : Nat} (h : (reprText x).length ≤ n) : Shd 0 n (.str x) := ⟨by rw [noref.eq_def], by rw [dW, PyData.showable.eq_def], by rw [dW, PyData.hasDict.eq_def], by rw [dW, PyData.depth.eq_def]; exact Nat.le_refl _, by rw [dW, PyData.shown.eq_def]; exact h⟩
theorem raw_cmd {c : Cmd} (h : c.ok BIG) : RawB c.w := ⟨by
  cases c with
  | go d n => exact .inr ⟨d.nm, [n], rfl, fun m hm => by rw [List.mem_singleton.mp hm]; exact h.2⟩
  | home => exact .inr ⟨"home", [], rfl, fun m hm => (nomatch hm)⟩
  | fin => exact .inr ⟨"end", [], rfl, fun m hm => (nomatch hm)⟩, (shd_cmd h).up (by decide) (by decide), by
  cases c with
  | go d n =>
    refine dk_tup (n := 0) fun w hw => ?_
    simp only [List.mem_cons, List.not_mem_nil, or_false] at hw
    rcases hw with rfl | rfl
    · rw [dk_str]; cases d <;> decide +kernel
    · exact of_eq_true dk_int
  | home =>
    refine dk_tup (n := 0) fun w hw => ?_
    rw [List.mem_singleton.mp hw, dk_str]; decide +kernel
  | fin =>
    refine dk_tup (n := 0) fun w hw => ?_
    rw [List.mem_singleton.mp hw, dk_str]; decide +kernel⟩
theorem raw_0 : RawB (.tup []) := ⟨.inl rfl, (shd_tup (ws := []) (k := 0) (n := 1) (m := 0) (fun w hw => (nomatch hw)) (by simp)).up (by decide) (by decide), dk_tup (n := 0) fun w hw => (nomatch hw)⟩
theorem raw_n {nm : Str} {ns : List Int} (h0 : PyData.strOk nm = true) (h1 : (reprText nm).length ≤ 61) (h2 : ∀ n, n ∈ ns → n.natAbs < 10 ^ 45) (h3 : ns.length ≤ 3) : RawB (.tup (.str nm :: ns.map W.int)) := ⟨.inr ⟨nm, ns, rfl, fun n hn => by
  have := h2 n hn
  have B2 : BIG = 1000000000000000000000000000000000000000000000 := rfl
  have e : (10 : Nat) ^ 45 = 1000000000000000000000000000000000000000000000 := by decide
  omega⟩, (shd_tup (k := 0) (n := 61) (m := 4) (fun w hw => by
    rcases List.mem_cons.mp hw with rfl | hw
    · exact shd_str h1
    · obtain ⟨n, hn, rfl⟩ := List.mem_map.mp hw
      have := h2 n hn
      exact shd_int (Nat.lt_of_lt_of_le this (by decide))) (by rw [List.length_cons, List.length_map]; omega)).up (by decide) (by decide), dk_tup (n := 0) fun w hw => by
    rcases List.mem_cons.mp hw with rfl | hw
    · rw [dk_str]; exact h0
    · obtain ⟨n, hn, rfl⟩ := List.mem_map.mp hw
      exact of_eq_true dk_int⟩
theorem shd_raws {rs : List W} {m : Nat} (h : ∀ r, r ∈ rs → RawB r) (hm : rs.length ≤ m) : Shd 2 (2 + m * 302) (.ls rs) := shd_ls (fun w hw => (h w hw).shd) hm
end SL
/-! ### defs without loops that raise nothing: called where an exception is handled, too -/
namespace SL
open PySem PySem.Spec PyProof.Rows L2
structure RoomQ (k : Nat) (A : Around) : Prop where
  dp : A.depth + 3 * k + 5 < recursionLimit
  un : A.units + 16 * k + 200 < PySem.cLine
theorem RoomQ.mono {j k : Nat} {A : Around} (r : RoomQ k A) (h : j ≤ k) : RoomQ j A := ⟨by have := r.dp; omega, by have := r.un; omega⟩
theorem RoomQ.deeper {k : Nat} {A : Around} (r : RoomQ (k + 1) A) (env : Env) : RoomQ k (A.deeper env) :=
  ⟨by have := r.dp; show A.depth + 1 + 3 * k + 5 < _; omega, by have := r.un; show A.units + 3 + 16 * k + 200 < _; omega⟩
theorem RoomQ.units {k : Nat} {A : Around} (r : RoomQ k A) : A.units + 64 < PySem.cLine := by have := r.un; omega
theorem roomQ_suite {k : Nat} {X : Cx} {a : Addr} {pn : List (Addr × Obj)} (r : Room k X.A) : RoomQ k (X.suite a pn).A := ⟨r.dp, r.un⟩
theorem roomQ_of {k : Nat} {A : Around} (r : Room k A) : RoomQ k A := ⟨r.dp, r.un⟩
def noX : XK := fun _ _ _ => False
structure FnQ (P : Program) (w : World) (K : PySem.W.Frag) (mg : Str → Option Value) (base : Heap) (k : Nat) (f : Addr) (fd : FuncData) (ps : List Str) (sp : Sp) : Prop where
  len : ∀ vs H Q E, sp vs H Q E → vs.length = ps.length
  run : ∀ (A : Around) (outer : List Env) (s : Shared) (H : Hp) (args : Args) (us : List Value) (vs : List V) (Q : VK), RoomQ k A → Env0 P w K mg base A outer s H → BindsTo s fd args (ps.zip us) → Vals vs us → sp vs H Q noX →
    codeAny (model P w) A (.call (.ref f) args) (CR (L2.CX P w) outer P w H s Q noX) s
theorem FnQ.mono {P : Program} {w : World} {K : PySem.W.Frag} {mg : Str → Option Value} {base : Heap} {j k : Nat} {f : Addr} {fd : FuncData} {ps : List Str} {sp : Sp} (F : FnQ P w K mg base j f fd ps sp) (h : j ≤ k) :
    FnQ P w K mg base k f fd ps sp := ⟨F.len, fun A outer s H args us vs Q hr => F.run A outer s H args us vs Q (hr.mono h)⟩
def cxQ (P : Program) (w : World) (K : PySem.W.Frag) (mg : Str → Option Value) (base : Heap) (N : List Str) (qual : Str) (scope : Scope) (f : Addr) (cd : Value) (A : Around) (outer : List Env) (s : Shared) (H : Hp) : Cx :=
  { cxOf (L2.CX P w) P w K mg base N qual scope f cd A outer s H noX with calm := false }
theorem inv_startQ {P : Program} {w : World} {K : PySem.W.Frag} {mg : Str → Option Value} {base : Heap} {N ps : List Str} {qual : Str} {scope : Scope} {f : Addr} {cd : Value} {A : Around} {outer : List Env} {s s1 : Shared} {H : Hp} {us : List Value} {vs : List V}
    (S : FnScope N ps scope) (e0 : Env0 P w K mg base A outer s H) (hl : vs.length = ps.length) (r : Vals vs us)
    (x : InCallC s s.heap.objs.size (bindL (envOfC qual scope s.heap.objs.size f cd).kindOf (ps.zip us) fun _ => none) (cellsFrom (s.heap.objs.size + 1) scope.names []) (bindC (envOfC qual scope s.heap.objs.size f cd).kindOf (ps.zip us) fun _ => none) s1) :
    L2.Inv (cxQ P w K mg base N qual scope f cd A outer s H) [] (L2.start N vs) H s1 := by
  have hpl : ps.length ≤ N.length := by have := congrArg List.length S.pre; rw [List.length_take] at this; omega
  obtain ⟨h1, tk, rfl, hk⟩ := x.done
  have noA : ∀ b : Addr, b ∉ (cxQ P w K mg base N qual scope f cd A outer s H).ex := fun b z => absurd (show b ∈ ([] : List Addr) from z) (by simp)
  refine ⟨⟨e0.mod, S.kind, rfl, rfl, Nat.le_refl _, fun y z c h1 h2 => ?_, fun y hy => ?_, fun y c _ h => ?_, (fun z => Bool.noConfusion (show false = true from z)), Around.frames_deeper e0.frames, .inr ⟨rfl, rfl⟩, fun b z => absurd z (noA b), e0.bs, e0.bsz, fun b _ _ => noA b, fun b z => absurd z (noA b), e0.funs, e0.frf⟩,
    rfl, e0.bare, Un.kept hk, ⟨_, x.toInCall.ns, fun i y v h1 h2 h3 => ?_⟩, fun y c h => ⟨_, x.cell y c h⟩, e0.hok.fresh (Nat.le_refl _), fun y c h => ?_, fun p hp => absurd (show p ∈ ([] : List (Addr × Obj)) from hp) (by simp), e0.hok.kept hk, ?_⟩
  · exact name_of_addr x.apart (PySem.mem_of_lookup h1) (PySem.mem_of_lookup h2)
  · have hy : scope.names.lookup y = some .cell ∨ scope.names.lookup y = some .free := hy
    rcases hy with hy | hy
    · exact cell_has hy
    · exact absurd rfl (S.nofree _ (PySem.mem_of_lookup hy))
  · exact Nat.le_of_lt (x.above y c (PySem.mem_of_lookup h))
  · have hi : i < vs.length := by
      unfold L2.start at h2
      by_cases hi : i < vs.length
      · exact hi
      · rw [List.getElem?_append_right (by simpa using hi)] at h2
        rw [List.getElem?_replicate] at h2
        split at h2 <;> cases h2
    have ha : vs[i]? = some v := by
      unfold L2.start at h2
      rw [List.getElem?_append_left (by simpa using hi), List.getElem?_map] at h2
      cases e : vs[i]? with
      | none => rw [e] at h2; cases h2
      | some a => rw [e] at h2; cases h2; rfl
    obtain ⟨u, hu, rv⟩ := r.get ha
    have hp : ps[i]? = some y := by
      rw [← S.pre, List.getElem?_take_of_lt (by omega)]; exact h1
    have ndP : ps.Nodup := by rw [← S.pre]; exact S.nd.sublist (List.take_sublist _ _)
    refine ⟨u, rv, ?_⟩
    rcases S.par y (List.mem_of_getElem? hp) with k | k
    · exact .inl ⟨k, bindL_get ndP hp hu k⟩
    · obtain ⟨c, e⟩ := cell_has (n := s.heap.objs.size + 1) k
      refine .inr ⟨.inl k, c, e, ?_⟩
      have q := x.cell y c e
      rw [bindC_get ndP hp hu (by show scope.names.lookup y ≠ _; rw [k]; decide)] at q
      exact q
  · exact e0.hok.fresh (Nat.le_of_lt (x.above y c (PySem.mem_of_lookup h)))
  · unfold L2.start
    show _ = N.length
    rw [List.length_append, List.length_map, List.length_replicate]
    omega
theorem Fun.okQ {P : Program} {w : World} {K : PySem.W.Frag} {mg : Str → Option Value} {base : Heap} {x qual : Str} {st : Stmt} {f : Addr} {fd : FuncData} {N ps : List Str} {k : Nat} {sp : Sp} (F : Fun K x qual st f fd) (S : FnScope N ps (defScope st))
    (len : ∀ vs H Q E, sp vs H Q E → vs.length = ps.length)
    (hbody : ∀ (cdv : Value) (A : Around) (outer : List Env) (s : Shared) (H : Hp) (vs : List V) (Q : VK), RoomQ k (A.deeper (envOfC qual (defScope st) s.heap.objs.size f cdv)) → sp vs H Q noX →
      ∃ t, PSs (cxQ P w K mg base N qual (defScope st) f cdv A outer s H) (defBody st) t ∧ t { nx := fun _ H' => Q .non H', rt := Q } (L2.start N vs) H) : FnQ P w K mg base (k + 1) f fd ps sp := by
  obtain ⟨oc, od, kV, doc, pm, an, cdv, ct, osl, rfl, lk, hcd⟩ := F.ex
  refine ⟨len, fun A outer s H args us vs Q hr e0 hb r hsp => ?_⟩
  have kh : ∀ b o, base.get? b = some o → s.heap.get? b = some o := fun b o e => (e0.bs b o e).1
  have KX := e0.mod.kin.keeps kh
  have lim := e0.mod.nolimit.keeps kh
  have kinds : ∀ y ∈ ps.zip us, (defScope st).names.lookup y.1 = some .local ∨ ((defScope st).names.lookup y.1 = some .cell ∧ ((cellsFrom (s.heap.objs.size + 1) (defScope st).names []).lookup y.1).isSome = true) := by
    rintro ⟨n, v⟩ hy
    cases S.par n (List.of_mem_zip hy).1 with
    | inl q => exact Or.inl q
    | inr q => exact Or.inr ⟨q, PySem.W.cellsFrom_some _ _ _ (Or.inl q)⟩
  have dp : A.depth < recursionLimit := by have := hr.dp; omega
  refine codeAny_call_function dp (KX _ _ lk) rfl S.co S.gen rfl (PySem.W.codeRec_of KX hcd) (hb _ _ _ _ (wpAny_newFunctionEnv_cells S.kind kinds fun env he s1 x => ?_))
  subst he
  refine ⟨lim.keeps x.toInCall.keep, codeAny_func ?_⟩
  obtain ⟨t, ht, hq⟩ := hbody cdv A outer s H vs Q (hr.deeper _) hsp
  refine wpAny_mono (ht.run [] s1 (L2.start N vs) H _ (inv_startQ S e0 (len _ _ _ _ hsp) r x) hq) (fun fl s' hs => ?_) fun _ _ hs => hs
  cases fl with
  | ret u =>
    obtain ⟨v, σ', H', J, rv, q⟩ := hs
    exact ⟨v, H', J.os, J.bare, J.base, J.hok, rv, q⟩
  | next =>
    obtain ⟨σ', H', J, q⟩ := hs
    exact ⟨V.non, H', J.os, J.bare, J.base, J.hok, rfl, q⟩
  | brk => exact hs.elim fun _ h => h.elim fun _ h => h.2.elim
  | cont => exact hs.elim fun _ h => h.elim fun _ h => h.2.elim
def noE : XW := fun _ _ _ => False
def spQ (K : PySem.W.Frag) (sp : SpW) : Sp := fun vs H Q' _ => ∃ (ws : List W) (Cs : Cells) (Q : WK), reps K H ws vs ∧ RelC K H Cs ∧ sp ws Cs Q noE ∧ Fin K H Q Q'
structure CalQ (P : Program) (w : World) (K : PySem.W.Frag) (mg : Str → Option Value) (base : Heap) (k : Nat) (x : Str) (sp : SpW) : Prop where
  ex : ∃ f fd ps, FnQ P w K mg base k f fd ps (spQ K sp) ∧ mg x = some (.ref f) ∧ PySem.W.keepIn K (.ref f) = true ∧ Binds K fd ps []
theorem CalQ.mono {P : Program} {w : World} {K : PySem.W.Frag} {mg : Str → Option Value} {base : Heap} {j k : Nat} {x : Str} {sp : SpW} (C : CalQ P w K mg base j x sp) (h : j ≤ k) : CalQ P w K mg base k x sp := by
  obtain ⟨f, fd, ps, h1, h2⟩ := C.ex
  exact ⟨f, fd, ps, h1.mono h, h2⟩
theorem okCQ {P : Program} {w : World} {K : PySem.W.Frag} {mg : Str → Option Value} {base : Heap} {k : Nat} {x : Str} {sp : SpW} {st : Stmt} {N ps : List Str} {t : MS} (h : Has K mg x st) (S : FnScope N ps (defScope st))
    (bind : ∀ (kV doc pm : Value) (an : Option Addr) (cdv ct : Value) (us : List Value), us.length = ps.length → bindArgs (PySem.W.fnOf x x (defArgs st) (defBody st) (defScope st) .none kV doc pm an cdv ct) { pos := us } = pure (ps.zip us))
    (len : ∀ ws Cs Q E, sp ws Cs Q E → ws.length = ps.length)
    (der : ∀ (f : Addr) (cdv : Value) (A : Around) (outer : List Env) (s : Shared) (H : Hp), RoomQ k (A.deeper (envOfC x (defScope st) s.heap.objs.size f cdv)) →
      QSs (cxQ P w K mg base N x (defScope st) f cdv A outer s H) (defBody st) t)
    (pure : ∀ ws Cs Q E, sp ws Cs Q E → t (EndsD Q E) (rho0 ws) Cs) : CalQ P w K mg base (k + 1) x sp := by
  obtain ⟨f, fd, hm, F⟩ := h.ex
  have lenV : ∀ vs H Q E, spQ K sp vs H Q E → vs.length = ps.length := fun vs H Q E ⟨ws, Cs, Q1, r, rc, h, _⟩ => by rw [← reps_len r]; exact len ws Cs Q1 noE h
  refine ⟨f, fd, ps, SL.Fun.okQ F S lenV fun cdv A outer s H vs Q' hr h => ⟨_, der f cdv A outer s H hr (fun cls d _ H => noX cls d H) (takes_of rfl rfl rfl rfl), ?_⟩, hm, F.kp, F.binds bind⟩
  have hl := lenV vs H Q' noX h
  obtain ⟨ws, Cs, Q, r, rc, h, kQ⟩ := h
  have hps : ps.length ≤ N.length := by
    have e := congrArg List.length S.pre
    rw [List.length_take] at e
    omega
  refine ⟨rho0 ws, Cs, EndsD Q noE, ⟨?_, fun i u e => ?_⟩, rc, pure ws Cs Q noE h, ?_⟩
  · show (L2.start N vs).length = N.length
    unfold L2.start
    rw [List.length_append, List.length_map, List.length_replicate]
    omega
  · obtain ⟨v, h1, h2⟩ := reps_get r e
    exact ⟨v, start_get h1, h2⟩
  · refine ⟨fun ρ C σ H' q tr _ rc' => ?_, fun u C v H' q tr rc' rp => ?_, fun ρ C σ H' q => q.elim, fun ρ C σ H' q => q.elim, fun A u ρ C σ d v H' q tr _ rc' rp xv => ?_⟩
    · obtain ⟨C', hp, q⟩ := q
      exact kQ _ C' _ H' q tr (rc'.to hp) (rep_non.mpr rfl)
    · obtain ⟨C', hp, q⟩ := q
      exact kQ _ C' _ H' q tr (rc'.to hp) rp
    · obtain ⟨C', hp, q⟩ := q
      exact q.elim
def mCallQ (sp : SpW) (t : MA) : ME := fun E ρ Cs Q => t E ρ Cs fun ws C => sp ws C Q noE
section
variable {X : Cx} {k j : Nat} {x : Str} {sp : SpW} {p pos : Pos} {e : Expr} {es : List Expr} {tr : MA}
theorem qe_cq (C : CalQ X.prog X.w X.K X.mg X.base j x sp) (hj : j ≤ k) (hr : RoomQ k X.A) (ha : QA X (e :: es) tr) (hg : Gl X x := by rfl)
    (hdb : (x == ("__debug__" : Str)) = false := by decide) (he : starEach (e :: es) X.env = (false, eval e X.env) :: starEach es X.env := by rfl) (hpl : (backTo pos (starEach es X.env)).any (·.1) = false := by rfl) :
    QE X (.Call (.Name x p) (e :: es) [] pos) (mCallQ sp tr) := by
  obtain ⟨f, fd, ps, F, hm, hk, hb⟩ := (C.mono hj).ex
  refine fun Wx tk => ⟨fun pins s σ H Q' I h => wpAny_Call_Name_kw (ld_glob I hg hm (PySem.W.callWith_K (h₀ := X.base) I.ok.mod.kin hk (thn ((ha Wx tk).run pos pins s σ H (fun vs H1 => spQ X.K sp vs H1 Q' noX) I ?_) fun us s1 ⟨vs, H1, I1, r, q⟩ => ⟨I1.kIn, ?_⟩) he hpl) hdb)⟩
  · obtain ⟨ρ, Cs, E, Q, R, C, h, kQ, kE⟩ := h
    exact ⟨ρ, Cs, E, _, R, C, h, fun ws C1 vs H1 q tr1 rc rp => ⟨ws, C1, Q, rp, rc, q, Fin.mono kQ tr1⟩, kE⟩
  · have hl : us.length = ps.length := by rw [← r.length]; exact F.len _ _ _ _ q
    have hb' := hb s1 us I1.kIn (by rw [List.append_nil]; exact hl)
    rw [List.append_nil] at hb'
    refine wpAny_call (codeAny_mono (F.run X.A X.stack s1 H1 ⟨us, []⟩ us vs Q' hr I1.env0 hb' r q) fun r s' hq => ?_)
    cases r with
    | error e => exact tk e s' (XE.of_call I1 (fun _ _ _ h => False.elim h) hq)
    | ok fl =>
      cases fl with
      | ret u => exact I1.after hq
      | next => exact False.elim hq
      | brk => exact False.elim hq
      | cont => exact False.elim hq
end
theorem raws_cw {cs : List Cmd} (h : okM cs) : ∀ r, r ∈ cs.map Cmd.w → RawB r := fun r hr => by
  obtain ⟨c, hc, rfl⟩ := List.mem_map.mp hr
  exact raw_cmd (h c hc)
theorem rcs_map {cs : List Cmd} (h : okM cs) : (cs.map Cmd.w).filterMap rcO = cs := by
  induction cs with
  | nil => rfl
  | cons c cs ih =>
    rw [List.map_cons, List.filterMap_cons_some (rcO_w (h c List.mem_cons_self)), ih fun d hd => h d (List.mem_cons_of_mem _ hd)]
end SL
/-! ### C(v), C(value=v): an exception made, a value like any other -/
namespace SL
open PySem PySem.Spec PyProof.Rows L2
/-- what follows an own exception's making -/
def tMkV (C : Addr) (sp : Sp) (ta : TA) : TE := fun σ H Q => ta σ H fun vs H1 => vs.length ≤ 1000 ∧ ∀ a, H1 a = none → sp (.ref a :: vs) (upd H1 a (exo a C none)) (fun v H2 => v = .non ∧ ∃ d fs, H2 a = some (exo a C (some d)) ∧ H2 d = some (exd d fs) ∧ H1 d = none ∧ Q (.ref a) (upd (upd (del H2 a) d (.xd fs)) a (xob a C d))) (fun _ _ _ => False)
theorem xob_new {P : Program} {w : World} {H : Hp} {h : Heap} {a C d t0 : Addr} (he : h.get? a = some ({ cls := .ref C, dict := some d, data := .fields #[.ref t0, .none, .none, .none, .bool false, .none] } : Obj)) : ObjOk P w H h a (xob a C d) :=
  ⟨⟨_, _, he, rfl, rfl, rfl⟩, ⟨_, he⟩, fun h1 h2 ⟨o, vs, g, c, d, f⟩ k => ⟨o, vs, k o g, c, d, f⟩⟩
section
variable {X : Cx} {e : Expr} {es : List Expr} {p pos : Pos} {x : Str} {C fI : Addr} {k : Nat} {fd : FuncData} {ps : List Str} {sp : Sp} {ta : TA}
/-- the end -/
theorem mkv_end {pins : List (Addr × Obj)} {σ : L2.St} {H1 H2 : Hp} {Q : VK} {hp hp2 h2 : Heap} {g1 g2 : Array GenState} {d1 d2 : Drawn} {t1 t2 : Nat} {os1 os2 : OsState} {a d : Addr} {fs : List (Str × V)} (I1 : Inv X pins σ H1 ⟨hp, g1, d1, t1, os1⟩)
    (ha : hp.objs.size ≤ a) (k : ∀ b o, hp.get? b = some o → hp2.get? b = some o) (un : Un (frs X.stack) [] (upd H1 a (exo a C none)) H2 hp2 h2) (hok : HOk X.prog X.w H2 h2) (ho : os2 = os1) (hb : AllBare g2)
    (ea : H2 a = some (exo a C (some d))) (ed : H2 d = some (exd d fs)) (hd1 : H1 d = none) (q : Q (.ref a) (upd (upd (del H2 a) d (.xd fs)) a (xob a C d))) : EP X pins σ Q (.ref a) ⟨h2, g2, d2, t2, os2⟩ := by
  obtain ⟨t0, G, J, kG, ge, hoe, na⟩ := mk_end0 (d2 := d2) (t2 := t2) I1 ha k un hok ho hb ea ed hd1
  exact ⟨.ref a, _, J.laidN (t' := t2) kG ge na (xob_new hoe), rfl, q⟩
theorem pe_mkv {CX : CXT} (T : OexC X.K C) (iC : PySem.W.findIn X.K (.ref C) "__init__" = some (some (.ref fI))) (tI : PySem.W.typeIn X.K (.ref fI) = some (.type "function"))
    (F1 : FnOk X.prog X.w X.K X.mg X.base CX k fI fd ps sp) (hr : Room (k + 1) X.A) (hb : Binds X.K fd ps []) (hx : Passes CX X (fun _ _ _ => False)) (hg : Gl X x) (hm : X.mg x = some (.ref C)) (ha : PA X (e :: es) ta)
    (hdb : (x == ("__debug__" : Str)) = false := by decide) (he : starEach (e :: es) X.env = (false, eval e X.env) :: starEach es X.env := by rfl) (hpl : (backTo pos (starEach es X.env)).any (·.1) = false := by rfl) :
    PE X (.Call (.Name x p) (e :: es) [] pos) (tMkV C sp ta) := by
  refine ⟨fun pins s σ H Q I h => ?_⟩
  obtain ⟨nm, q, N, bs, bm, sn, sub, ab, col, dd, k0, k1, k2, k3, k5, hC, hbm⟩ := T.cls
  refine wpAny_Call_Name_kw (ld_glob I hg hm ?_ hdb)
  refine PySem.W.callWith_K (h₀ := X.base) I.ok.mod.kin T.kC (thn (ha.run pos pins s σ H _ I h) fun us s1 ⟨vs, H1, I1, r1, hz, q1⟩ => ⟨I1.kIn, ?_⟩) he hpl
  show wpAny _ _ (call (.ref C) us) _ _ _
  obtain ⟨hp, g, dr, tk, os⟩ := s1
  have hsz : hp.objs.size ≤ hp.objs.size + 1 := Nat.le_succ _
  have hn : H1 (hp.objs.size + 1) = none := I1.hok.fresh hsz
  have hq := q1 (hp.objs.size + 1) hn
  have kk : ∀ b o, hp.get? b = some o → ((hp.push (PySem.W.kdv_tup us)).push (PySem.HandSPX.excO C hp.objs.size)).get? b = some o := fun b o e => Heap.get?_push_of_some _ (Heap.get?_push_of_some _ e)
  have hget : ((hp.push (PySem.W.kdv_tup us)).push (PySem.HandSPX.excO C hp.objs.size)).get? (hp.objs.size + 1) = some (PySem.HandSPX.excO C hp.objs.size) := by heap_get
  have I2 : Inv X pins σ (upd H1 (hp.objs.size + 1) (exo (hp.objs.size + 1) C none)) ⟨(hp.push (PySem.W.kdv_tup us)).push (PySem.HandSPX.excO C hp.objs.size), g, dr, tk, os⟩ :=
    I1.laid (t' := tk) (a := hp.objs.size + 1) (o := exo (hp.objs.size + 1) C none) (h' := (hp.push (PySem.W.kdv_tup us)).push (PySem.HandSPX.excO C hp.objs.size)) kk hsz (exo_ok hget)
  have r2 : Vals (V.ref (hp.objs.size + 1) :: vs) (Value.ref (hp.objs.size + 1) :: us) := .cons rfl r1
  have hl : (Value.ref (hp.objs.size + 1) :: us ++ []).length = ps.length := by
    have e := r2.length
    rw [F1.len _ _ _ _ hq] at e
    rw [List.append_nil]
    exact e.symm
  have hus : us.length ≤ sizeLine := by
    rw [← Paired.length r1, sizeLine_eq]
    omega
  have hb2 := hb _ (Value.ref (hp.objs.size + 1) :: us) I2.kIn hl
  rw [List.append_nil] at hb2
  refine wpAny_call (PySem.HandSPX.call_own F.excBase_ValueError (fun Y => PySem.HandSPX.refsVE_contains Y bm hbm) (I1.kIn _ _ hC) (PySem.W.looks_findIn I1.kIn iC) (fun self => PySem.W.bind_fn I1.kIn self tI) hus
    (codeAny_mono (F1.run _ X.stack _ _ ⟨Value.ref (hp.objs.size + 1) :: us, []⟩ (Value.ref (hp.objs.size + 1) :: us) _ _ (fun _ _ _ => False) (hr.make C us []) (I2.env0.make C us []) hb2 r2 hq) fun r s' hq' => ?_))
  cases r with
  | error er => exact hx pins σ _ _ er s' I2 hq'
  | ok fl =>
    cases fl with
    | ret u =>
      obtain ⟨v, H2, os2, bare2, un2, hok2, rv, ev, d, fs, ea, ed, hd1, q2⟩ := hq'
      subst ev
      obtain ⟨h2, g2, d2, t2, os'⟩ := s'
      exact ⟨rv, mkv_end I1 hsz kk un2 hok2 os2 bare2 ea ed hd1 q2⟩
    | next => exact False.elim hq'
    | brk => exact False.elim hq'
    | cont => exact False.elim hq'
def mMkX (C : Addr) (t : MA) : ME := fun E ρ Cs Q => t E ρ Cs fun ws C1 => ∃ v, ws = [v] ∧ ∀ a, Q (.exn a C v) C1
/-- the hidden part of a made exception -/
theorem mkv_tr {H1 : Hp} {a dx C : Addr} {y : V} (na : H1 a = none) (nd : H1 dx = none) (ne : dx ≠ a) : upd (upd (del (upd (upd (upd H1 a (exo a C none)) dx (exd dx [(("value" : Str), y)])) a (exo a C (some dx))) a) dx (.xd [(("value" : Str), y)])) a (xob a C dx) = upd (upd H1 dx (.xd [(("value" : Str), y)])) a (xob a C dx) := by
  funext b
  by_cases h2 : b = a
  · subst h2
    rw [upd_same, upd_same]
  · rw [upd_ne h2, upd_ne h2]
    by_cases h1 : b = dx
    · subst h1
      rw [upd_same, upd_same]
    · rw [upd_ne h1, upd_ne h1]
      refine (if_neg h2).trans ?_
      rw [upd_ne h2, upd_ne h1, upd_ne h2]
theorem qe_mkx {t : MA} {CX : CXT} (T : OexC X.K C) (iC : PySem.W.findIn X.K (.ref C) "__init__" = some (some (.ref fI))) (tI : PySem.W.typeIn X.K (.ref fI) = some (.type "function"))
    (F1 : FnOk X.prog X.w X.K X.mg X.base CX k fI fd ps (spInit C)) (hr : Room (k + 1) X.A) (hb : Binds X.K fd ps []) (hx : Passes CX X (fun _ _ _ => False)) (hm : X.mg x = some (.ref C)) (ha : QA X (e :: es) t) (hg : Gl X x := by rfl)
    (hdb : (x == ("__debug__" : Str)) = false := by decide) (he : starEach (e :: es) X.env = (false, eval e X.env) :: starEach es X.env := by rfl) (hpl : (backTo pos (starEach es X.env)).any (·.1) = false := by rfl) :
    QE X (.Call (.Name x p) (e :: es) [] pos) (mMkX C t) := fun Wx tk => pe_imp (pe_mkv T iC tI F1 hr hb hx hg hm (ha Wx tk) hdb he hpl) fun σ H Q' ⟨ρ, Cs, E, Q, R, Cc, h, kQ, kE⟩ =>
  ⟨ρ, Cs, E, _, R, Cc, h, fun ws C1 vs H1 ⟨v, e, q⟩ tr rc rp => by
    subst e
    obtain ⟨y, rfl, ry⟩ := one_rep rp
    refine ⟨Nat.le_of_ble_eq_true rfl, fun a na => ⟨a, y, rfl, upd_same, fun dx nd ne => ⟨rfl, dx, [(("value" : Str), y)], upd_same, ?_, ?_, ?_⟩⟩⟩
    · rw [upd_ne ne, upd_same]
    · rw [upd_ne ne] at nd
      exact nd
    · rw [upd_ne ne] at nd
      rw [mkv_tr na nd ne]
      have tr2 : Tr X.K H1 (upd H1 dx (.xd [(("value" : Str), y)])) := tr_new nd
      have na2 : upd H1 dx (.xd [(("value" : Str), y)]) a = none := by rw [upd_ne (Ne.symm ne)]; exact na
      have tr3 : Tr X.K (upd H1 dx (.xd [(("value" : Str), y)])) (upd (upd H1 dx (.xd [(("value" : Str), y)])) a (xob a C dx)) := tr_new na2
      exact kQ _ C1 _ _ (q a) ((tr.trans tr2).trans tr3) ((rc.hid nd).hid na2) (rep_exn.mpr ⟨rfl, dx, y, upd_same, by rw [upd_ne ne, upd_same], rep_mono (tr2.trans tr3) _ _ ry⟩), kE⟩
end
end SL
/-! ### C(value=v) -/
namespace PySem
namespace HandSPX
open PySem.W PySem.Calls PyProof.Rows
section
variable {M : Model} {A : Around} {E : Value → Shared → Prop} {h : Heap} {g : Array GenState} {d : Drawn} {t : Nat} {os : OsState}
variable {nm q : Str} {C N : Addr} {bs bm bmB : List Value} {hdct : Bool} {sn : List Str} {sub : List Value} {ab : Bool} {col : Option Bool} {dd : Option Addr} {k0 k1 k2 k3 k5 : Option Value} {B newId initId : String} {kw : List (Str × Value)}
theorem wpAny_check_type_call_kw {rest : List Value} {Q : Unit → Shared → Prop} (hC : h.get? C = some (excClassObj nm q C N bs bm hdct sn sub ab col dd k0 k1 k2 k3 k5 newId))
    (hq : Q () ⟨h, g, d, t, os⟩) : wpAny M A (checkBuiltinCall "type.__call__" ⟨.ref C :: rest, kw⟩) Q E ⟨h, g, d, t, os⟩ := by
  have f3 := tc_sub
  have hT : (⟨h, g, d, t, os⟩ : Shared).TypeIs (.ref C) "type" := ⟨_, hC, rfl⟩
  simp only [checkBuiltinCall, tc_kind, tc_split]
  repeat (any_goals (first | assumption | with_reducible refine wpAny_loadPart_at hC ?_ | with_reducible refine wpAny_onRaise ?_ | with_reducible refine wpAny_map ?_ | wp_step))
theorem check_new_kw (F : ExcBaseFacts B newId initId bmB) (hT : ∀ X : String, bm.contains (.type X) = bmB.contains (.type X)) {rest : List Value} {Q : Unit → Shared → Prop}
    (hC : h.get? C = some (excClassObj nm q C N bs bm hdct sn sub ab col dd k0 k1 k2 k3 k5 newId)) (hq : Q () ⟨h, g, d, t, os⟩) : wpAny M A (checkBuiltinCall newId ⟨.ref C :: rest, kw⟩) Q E ⟨h, g, d, t, os⟩ := by
  have hcont : (Value.ref C :: bm).contains (.type B) = true := by rw [List.contains_cons, hT, F.hasB, Bool.or_true]
  have hstar := F.noStar
  simp only [checkBuiltinCall, F.newKind, F.newSplit, F.newRow]
  repeat (first | refine wpAny_loadPart_at hC ?_ | (refine wpAny_isSubtype_exc hC ?_; rw [hcont]) | refine wpAny_staticBase_exc hC ?_ | refine wpAny_madeBy_exc hC ?_ | simp only [bne_self_eq_false, Bool.false_eq_true, if_false] | wp_step)
  exact hq
end
section
variable {prog : Program} {w : World} {A : Around} {E : Value → Shared → Prop} {R : Result → Shared → Prop} {h : Heap} {g : Array GenState} {d : Drawn} {t : Nat} {os : OsState}
variable {nm q : Str} {C N : Addr} {bs bm bmB : List Value} {hdct : Bool} {sn : List Str} {sub : List Value} {ab : Bool} {col : Option Bool} {dd : Option Addr} {k0 k1 k2 k3 k5 : Option Value} {B newId initId : String} {kw : List (Str × Value)}
theorem new_kw (F : ExcBaseFacts B newId initId bmB) (hT : ∀ X : String, bm.contains (.type X) = bmB.contains (.type X)) {rest : List Value}
    (hC : h.get? C = some (excClassObj nm q C N bs bm hdct sn sub ab col dd k0 k1 k2 k3 k5 newId))
    (hq : R (.ok (.ret (.ref (h.objs.size + 1)))) ⟨(h.push { cls := .type "tuple", data := .seq rest.toArray }).push
      { cls := .ref C, data := .fields #[.ref h.objs.size, .none, .none, .none, .bool false, .none] }, g, d, t, os⟩) (hrest : rest.length ≤ sizeLine) :
    codeAny (model prog w) A (.builtin newId ⟨.ref C :: rest, kw⟩) R ⟨h, g, d, t, os⟩ := by
  have hends := F.ends
  have hcB : (Value.ref C :: bm).contains (.type B) = true := by rw [List.contains_cons, hT, F.hasB, Bool.or_true]
  have hcA : (Value.ref C :: bm).contains (.type "AttributeError") = false := by rw [List.contains_cons, hT, F.noAttr]; rfl
  have hcN : (Value.ref C :: bm).contains (.type "NameError") = false := by rw [List.contains_cons, hT, F.noName]; rfl
  refine codeAny_builtinAt F.entry ?_
  unfold Builtin.«BaseException.__new__»
  refine wpAt_bind ?_
  show wpAt _ _ _ (stack >>= _) _ _ _
  refine wpAt_bind (wpAt_stack fun p below => wpAt_of_wpAny ?_)
  wp_walk
  refine wpAt_of_wpAny ?_
  rw [F.owner]
  repeat (first | with_reducible refine wpAny_madeHere_exc F.canon hC ?_ | with_reducible refine wpAny_loadPart_at hC ?_ | (with_reducible refine wpAny_isSubtype_exc hC ?_; first | rw [hcB] | rw [hcA] | rw [hcN]) | wp_step)
  show R _ _
  rw [Heap.size_push]
  exact hq
theorem type_call_kw (F : ExcBaseFacts B newId initId bmB) (hT : ∀ X : String, bm.contains (.type X) = bmB.contains (.type X)) {rest : List Value} {fI : Addr} {Q : Fin → Shared → Prop}
    (hC : h.get? C = some (excClassObj nm q C N bs bm hdct sn sub ab col dd k0 k1 k2 k3 k5 newId))
    (hi : W.Looks (model prog w) h (typeLookup (.ref C) "__init__") (some (.ref fI))) (hb : ∀ self, W.Looks (model prog w) h (bindSpecial (.ref fI) self) (.ref fI, [self])) (hrest : rest.length ≤ sizeLine)
    (hq : codeAny (model prog w) A (.call (.ref fI) ⟨.ref (h.objs.size + 1) :: rest, kw⟩)
      (fun r s' => match r with | .ok (.ret v) => v = .none ∧ Q (.done (.ret (.ref (h.objs.size + 1)))) s' | .ok _ => False | .error e => E e s')
      ⟨(h.push (W.kdv_tup rest)).push (excO C h.objs.size), g, d, t, os⟩) :
    wpAny (model prog w) A (Builtin.«type.__call__» ⟨.ref C :: rest, kw⟩) Q E ⟨h, g, d, t, os⟩ := by
  repeat (first | with_reducible refine wpAny_loadPart_at hC ?_ | with_reducible refine wpAny_madeBy_exc hC ?_ | wp_step)
  refine codeAny_call_builtin_code (Code.quiet_builtin _ F.quiet) (check_new_kw F hT hC ?_)
  refine new_kw F hT hC ?_ hrest
  show wpAny _ _ _ _ _ _
  have k : ∀ b o, h.get? b = some o → ((h.push (W.kdv_tup rest)).push (excO C h.objs.size)).get? b = some o := fun b o e => Heap.get?_push_of_some _ (Heap.get?_push_of_some _ e)
  have hC₁ := k _ _ hC
  have hget : ((h.push (W.kdv_tup rest)).push (excO C h.objs.size)).get? (h.objs.size + 1) = some (excO C h.objs.size) := by heap_get
  have hcC : (Value.ref C :: bm).contains (.ref C) = true := by simp
  have i1 := hi.keeps k
  have b1 := (hb (.ref (h.objs.size + 1))).keeps k
  unfold isInstance
  repeat (first | with_reducible refine wpAny_loadPart_at hget ?_ | (with_reducible refine wpAny_isSubtype_exc hC₁ ?_; rw [hcC]) | wp_step)
  show wpAny _ _ (typeLookup (.ref C) _) _ _ _
  refine i1.at ?_
  refine wpAny_holding (wpAny_bind (b1.at ?_))
  refine wpAny_bind (wpAny_call (codeAny_mono hq fun r s' z => ?_))
  rcases r with e | (v | _ | _ | _) <;> first | exact z | exact z.elim | skip
  obtain ⟨rfl, z⟩ := z
  first
    | exact wpAny_pure (wpAny_pure z)
    | (wp_walk; exact z)
theorem call_kw (F : ExcBaseFacts B newId initId bmB) (hT : ∀ X : String, bm.contains (.type X) = bmB.contains (.type X)) {rest : List Value} {fI : Addr}
    (hC : h.get? C = some (excClassObj nm q C N bs bm hdct sn sub ab col dd k0 k1 k2 k3 k5 newId))
    (hi : W.Looks (model prog w) h (typeLookup (.ref C) "__init__") (some (.ref fI))) (hb : ∀ self, W.Looks (model prog w) h (bindSpecial (.ref fI) self) (.ref fI, [self])) (hrest : rest.length ≤ sizeLine)
    (hq : codeAny (model prog w) (A.under (.builtin "type.__call__" ⟨.ref C :: rest, kw⟩)) (.call (.ref fI) ⟨.ref (h.objs.size + 1) :: rest, kw⟩) (W.InitBack (h.objs.size + 1) R)
      ⟨(h.push (W.kdv_tup rest)).push (excO C h.objs.size), g, d, t, os⟩) :
    codeAny (model prog w) A (.call (.ref C) ⟨rest, kw⟩) R ⟨h, g, d, t, os⟩ := by
  have f1 := tc_lookup
  have f2 := tc_bind (.ref C)
  have hTy : (⟨h, g, d, t, os⟩ : Shared).TypeIs (.ref C) "type" := ⟨_, hC, rfl⟩
  refine codeAny_of_tree ?_
  show wpAny _ _ (callAny (.ref C) _) _ _ _
  repeat (any_goals (first | assumption | with_reducible refine wpAny_loadPart_at hC ?_ | wp_step))
  refine ⟨rfl, ?_⟩
  refine codeAny_call_builtin_at (Code.quiet_builtin _ (by decide +kernel)) entry_typeCall (wpAny_check_type_call_kw hC (type_call_kw F hT hC hi hb hrest ?_))
  refine codeAny_mono hq fun r s' z => ?_
  rcases r with e | (v | _ | _ | _) <;> exact z
end
end HandSPX
end PySem
namespace SL
open PySem PySem.Spec PyProof.Rows L2
/-- InitK, and called by name -/
structure InitN (K : PySem.W.Frag) (P : Program) (w : World) (mg : Str → Option Value) (base : Heap) (C : Addr) : Prop where
  ex : ∃ fI fd, PySem.W.findIn K (.ref C) "__init__" = some (some (.ref fI)) ∧ PySem.W.typeIn K (.ref fI) = some (.type "function") ∧ FnOk P w K mg base (L2.CX P w) 1 fI fd ["self", "value"] (spInit C) ∧ Binds K fd ["self", "value"] [] ∧ KBd fd ["self", "value"] ["value"] 1 1 [0, 1]
def tMkN (C : Addr) (sp : Sp) (ta : TA) : TE := fun σ H Q => ta σ H fun vs H1 => vs.length = 1 ∧ ∀ a, H1 a = none → sp (.ref a :: vs) (upd H1 a (exo a C none)) (fun v H2 => v = .non ∧ ∃ d fs, H2 a = some (exo a C (some d)) ∧ H2 d = some (exd d fs) ∧ H1 d = none ∧ Q (.ref a) (upd (upd (del H2 a) d (.xd fs)) a (xob a C d))) (fun _ _ _ => False)
section
variable {X : Cx} {p pos : Pos} {x : Str} {C fI : Addr} {k : Nat} {fd : FuncData} {ps : List Str} {sp : Sp} {ta : TA} {kws : List Keyword}
theorem pe_mkn {CX : CXT} (T : OexC X.K C) (iC : PySem.W.findIn X.K (.ref C) "__init__" = some (some (.ref fI))) (tI : PySem.W.typeIn X.K (.ref fI) = some (.type "function"))
    (F1 : FnOk X.prog X.w X.K X.mg X.base CX k fI fd ps sp) (hr : Room (k + 1) X.A) (hb : KBd fd ps ["value"] 1 1 [0, 1]) (hx : Passes CX X (fun _ _ _ => False)) (hg : Gl X x) (hm : X.mg x = some (.ref C)) (hkw : PK X kws ta)
    (hall : (backToKw pos (keywordEach kws X.env)).all (·.1.isSome) = true := by rfl) (hks : (backToKw pos (keywordEach kws X.env)).filterMap (·.1) = [("value" : Str)] := by rfl)
    (hdb : (x == ("__debug__" : Str)) = false := by decide)
    (hpl : ((backTo pos (starEach [] X.env)).any (·.1) || (backToKw pos (keywordEach kws X.env)).any (·.1.isNone)) = false := by rfl) :
    PE X (.Call (.Name x p) [] kws pos) (tMkN C sp ta) := by
  refine ⟨fun pins s σ H Q I h => ?_⟩
  obtain ⟨nm, q, N, bs, bm, sn, sub, ab, col, dd, k0, k1, k2, k3, k5, hC, hbm⟩ := T.cls
  refine wpAny_Call_Name_kw (ld_glob I hg hm ?_ hdb)
  refine PySem.W.callWith_KW0 (h₀ := X.base) I.ok.mod.kin T.kC hall (thn (hkw.run pos pins s σ H _ I h) fun us s1 ⟨vs, H1, I1, r1, hz, q1⟩ => ⟨I1.kIn, ?_⟩) hpl
  rw [hks]
  show wpAny _ _ (call (.ref C) [] ([("value" : Str)].zip us)) _ _ _
  obtain ⟨hp, g, dr, tk, os⟩ := s1
  have hsz : hp.objs.size ≤ hp.objs.size + 1 := Nat.le_succ _
  have hn : H1 (hp.objs.size + 1) = none := I1.hok.fresh hsz
  have hq := q1 (hp.objs.size + 1) hn
  have kk : ∀ b o, hp.get? b = some o → ((hp.push (PySem.W.kdv_tup [])).push (PySem.HandSPX.excO C hp.objs.size)).get? b = some o := fun b o e => Heap.get?_push_of_some _ (Heap.get?_push_of_some _ e)
  have hget : ((hp.push (PySem.W.kdv_tup [])).push (PySem.HandSPX.excO C hp.objs.size)).get? (hp.objs.size + 1) = some (PySem.HandSPX.excO C hp.objs.size) := by heap_get
  have I2 : Inv X pins σ (upd H1 (hp.objs.size + 1) (exo (hp.objs.size + 1) C none)) ⟨(hp.push (PySem.W.kdv_tup [])).push (PySem.HandSPX.excO C hp.objs.size), g, dr, tk, os⟩ :=
    I1.laid (t' := tk) (a := hp.objs.size + 1) (o := exo (hp.objs.size + 1) C none) (h' := (hp.push (PySem.W.kdv_tup [])).push (PySem.HandSPX.excO C hp.objs.size)) kk hsz (exo_ok hget)
  have r2 : Vals (V.ref (hp.objs.size + 1) :: vs) (Value.ref (hp.objs.size + 1) :: us) := .cons rfl r1
  have hus : us.length = 1 := by rw [← Paired.length r1]; exact hz
  have hb2 := hb ⟨(hp.push (PySem.W.kdv_tup [])).push (PySem.HandSPX.excO C hp.objs.size), g, dr, tk, os⟩ [Value.ref (hp.objs.size + 1)] us rfl hus
  have er : reord [0, 1] ([Value.ref (hp.objs.size + 1)] ++ us) = Value.ref (hp.objs.size + 1) :: us := by
    match us, hus with
    | [u], _ => rfl
  rw [er] at hb2
  refine wpAny_call (PySem.HandSPX.call_kw F.excBase_ValueError (fun Y => PySem.HandSPX.refsVE_contains Y bm hbm) (I1.kIn _ _ hC) (PySem.W.looks_findIn I1.kIn iC) (fun self => PySem.W.bind_fn I1.kIn self tI) (by rw [sizeLine_eq]; simp)
    (codeAny_mono (F1.run _ X.stack _ _ ⟨[Value.ref (hp.objs.size + 1)], [("value" : Str)].zip us⟩ (Value.ref (hp.objs.size + 1) :: us) _ _ (fun _ _ _ => False) (hr.make C [] ([("value" : Str)].zip us)) (I2.env0.make C [] ([("value" : Str)].zip us)) hb2 r2 hq) fun r s' hq' => ?_))
  cases r with
  | error er => exact hx pins σ _ _ er s' I2 hq'
  | ok fl =>
    cases fl with
    | ret u =>
      obtain ⟨v, H2, os2, bare2, un2, hok2, rv, ev, d, fs, ea, ed, hd1, q2⟩ := hq'
      subst ev
      obtain ⟨h2, g2, d2, t2, os'⟩ := s'
      exact ⟨rv, mkv_end I1 hsz kk un2 hok2 os2 bare2 ea ed hd1 q2⟩
    | next => exact False.elim hq'
    | brk => exact False.elim hq'
    | cont => exact False.elim hq'
theorem qe_mkx1 {e : Expr} {es : List Expr} {t : MA} {j : Nat} (T : RaisK X.K C) (I : InitN X.K X.prog X.w X.mg X.base C) (hj : 2 ≤ j) (hr : Room j X.A) (hm : X.mg x = some (.ref C)) (ha : QA X (e :: es) t) (hg : Gl X x := by rfl)
    (hdb : (x == ("__debug__" : Str)) = false := by decide) (he : starEach (e :: es) X.env = (false, eval e X.env) :: starEach es X.env := by rfl) (hpl : (backTo pos (starEach es X.env)).any (·.1) = false := by rfl) :
    QE X (.Call (.Name x p) (e :: es) [] pos) (mMkX C t) := fun Wx tk => by
  obtain ⟨fI, fd, iC, tI, F1, hb, _⟩ := I.ex
  exact qe_mkx T.oe iC tI F1 (hr.mono hj) hb (passes_call tk fun _ _ _ _ h => h.elim) hm ha hg hdb he hpl Wx tk
theorem qe_mkxn {t : MA} {j : Nat} (T : RaisK X.K C) (I : InitN X.K X.prog X.w X.mg X.base C) (hj : 2 ≤ j) (hr : Room j X.A) (hm : X.mg x = some (.ref C)) (hkw : QK X kws t) (hg : Gl X x := by rfl)
    (hall : (backToKw pos (keywordEach kws X.env)).all (·.1.isSome) = true := by rfl) (hks : (backToKw pos (keywordEach kws X.env)).filterMap (·.1) = [("value" : Str)] := by rfl)
    (hdb : (x == ("__debug__" : Str)) = false := by decide)
    (hpl : ((backTo pos (starEach [] X.env)).any (·.1) || (backToKw pos (keywordEach kws X.env)).any (·.1.isNone)) = false := by rfl) :
    QE X (.Call (.Name x p) [] kws pos) (mMkX C t) := fun Wx tk => by
  obtain ⟨fI, fd, iC, tI, F1, _, hb⟩ := I.ex
  exact pe_imp (pe_mkn T.oe iC tI F1 (hr.mono hj) hb (passes_call tk fun _ _ _ _ h => h.elim) hg hm (hkw Wx tk) hall hks hdb hpl) fun σ H Q' ⟨ρ, Cs, E, Q, R, Cc, h, kQ, kE⟩ =>
    ⟨ρ, Cs, E, _, R, Cc, h, fun ws C1 vs H1 ⟨v, e, q⟩ tr rc rp => by
      subst e
      obtain ⟨y, rfl, ry⟩ := one_rep rp
      refine ⟨rfl, fun a na => ⟨a, y, rfl, upd_same, fun dx nd ne => ⟨rfl, dx, [(("value" : Str), y)], upd_same, ?_, ?_, ?_⟩⟩⟩
      · rw [upd_ne ne, upd_same]
      · rw [upd_ne ne] at nd
        exact nd
      · rw [upd_ne ne] at nd
        rw [mkv_tr na nd ne]
        have tr2 : Tr X.K H1 (upd H1 dx (.xd [(("value" : Str), y)])) := tr_new nd
        have na2 : upd H1 dx (.xd [(("value" : Str), y)]) a = none := by rw [upd_ne (Ne.symm ne)]; exact na
        have tr3 : Tr X.K (upd H1 dx (.xd [(("value" : Str), y)])) (upd (upd H1 dx (.xd [(("value" : Str), y)])) a (xob a C dx)) := tr_new na2
        exact kQ _ C1 _ _ (q a) ((tr.trans tr2).trans tr3) ((rc.hid nd).hid na2) (rep_exn.mpr ⟨rfl, dx, y, upd_same, by rw [upd_ne ne, upd_same], rep_mono (tr2.trans tr3) _ _ ry⟩), kE⟩
end
end SL
/-! ### the layer's equations in one: what EXEC and RUN rewrite with -/
namespace SL
open PySem PySem.Spec PyProof.Rows L2
def exA := (And.intro (And.intro (And.intro (And.intro (And.intro (And.intro (And.intro (And.intro @gW_eq @int_gW) (And.intro @non_gW @frzT_r)) (And.intro (And.intro @frzT_n @gW_ne) (And.intro @pairW_at (And.intro @gW_n @gW_s)))) (And.intro (And.intro (And.intro @bxW_n @bxW_s) (And.intro @w_eq @uEq_ll)) (And.intro (And.intro @uEq_lt @uEq_lr) (And.intro @uEq_ln (And.intro @uEq_li @uEq_ls))))) (And.intro (And.intro (And.intro (And.intro @uEq_lb @uEq_tl) (And.intro @uEq_ti @uEq_ts)) (And.intro (And.intro @uEq_tb @uEq_rl) (And.intro @uEq_rn (And.intro @uEq_ri @uEq_rs)))) (And.intro (And.intro (And.intro @uEq_rb @uEq_nl) (And.intro @uEq_nr (And.intro @uEq_il @uEq_it))) (And.intro (And.intro @uEq_ir @uEq_sl) (And.intro @uEq_st (And.intro @uEq_sr @uEq_bl)))))) (And.intro (And.intro (And.intro (And.intro (And.intro @uEq_bt @uEq_br) (And.intro @uNe_ll @uNe_lt)) (And.intro (And.intro @uNe_lr @uNe_ln) (And.intro @uNe_li (And.intro @uNe_ls @uNe_lb)))) (And.intro (And.intro (And.intro @uNe_tl @uNe_ti) (And.intro @uNe_ts @uNe_tb)) (And.intro (And.intro @uNe_rl @uNe_rn) (And.intro @uNe_ri (And.intro @uNe_rs @uNe_rb))))) (And.intro (And.intro (And.intro (And.intro @uNe_nl @uNe_nr) (And.intro @uNe_il @uNe_it)) (And.intro (And.intro @uNe_ir @uNe_sl) (And.intro @uNe_st (And.intro @uNe_sr @uNe_bl)))) (And.intro (And.intro (And.intro @uNe_bt @uNe_br) (And.intro @frzQ_r (And.intro @frzQ_i @frzQ_b))) (And.intro (And.intro @frzQ_n @frzQ_s) (And.intro @frzQ_t (And.intro @frzQ_l @frzV_i))))))) (And.intro (And.intro (And.intro (And.intro (And.intro (And.intro @frzV_b @frzV_n) (And.intro @frzV_s @frzV_t)) (And.intro (And.intro @frzV_l @LsV_r) (And.intro @LsV_l (And.intro @uAdd_ll @uAdd_rl)))) (And.intro (And.intro (And.intro @uAdd_lr @uMul_ls) (And.intro @uIn_l @uIx_l)) (And.intro (And.intro @uLen_l @uMin_l) (And.intro @uMax_l (And.intro @uList_l @uIsi_l))))) (And.intro (And.intro (And.intro (And.intro @uSl_l @iOf_l) (And.intro @iEn_r @iEn_l)) (And.intro (And.intro @isNon_l @gStarF_t) (And.intro @qRev_l (And.intro @qRev_r @mDGet2_eq)))) (And.intro (And.intro (And.intro @sDPutW_eq @ite_max) (And.intro @ite_min (And.intro @mix_at @put_at))) (And.intro (And.intro @del_at @wipe_at) (And.intro @rho0_at (And.intro @mix_put @part_self)))))) (And.intro (And.intro (And.intro (And.intro (And.intro @eqB_t @eqB_f) (And.intro @eqB_self @nm_down)) (And.intro (And.intro @nm_up @nm_right) (And.intro @nm_left (And.intro @pw_10_60 @pw_10_12)))) (And.intro (And.intro (And.intro @pw_10_36 @w_go) (And.intro @w_home @w_fin)) (And.intro (And.intro @map_w_eq @qIsN_n) (And.intro @qNotN_n (And.intro @uIsi_r @nm_home))))) (And.intro (And.intro (And.intro (And.intro @nm_fin @home_nm) (And.intro @fin_nm @sne_down_up)) (And.intro (And.intro @sne_down_right @sne_down_left) (And.intro @sne_down_home (And.intro @sne_down_end @sne_up_down)))) (And.intro (And.intro (And.intro @sne_up_right @sne_up_left) (And.intro @sne_up_home (And.intro @sne_up_end @sne_right_down))) (And.intro (And.intro @sne_right_up @sne_right_left) (And.intro @sne_right_home (And.intro @sne_right_end @sne_left_down)))))))) (And.intro (And.intro (And.intro (And.intro (And.intro (And.intro (And.intro @sne_left_up @sne_left_right) (And.intro @sne_left_home @sne_left_end)) (And.intro (And.intro @sne_home_down @sne_home_up) (And.intro @sne_home_right (And.intro @sne_home_left @sne_home_end)))) (And.intro (And.intro (And.intro @sne_end_down @sne_end_up) (And.intro @sne_end_right @sne_end_left)) (And.intro (And.intro @sne_end_home @sFor_eq) (And.intro @mLc_eq (And.intro @uAdd_i @uAdd_s))))) (And.intro (And.intro (And.intro (And.intro @uAdd_l @uMul_i) (And.intro @uMul_l @uEq_ii)) (And.intro (And.intro @uEq_ss @uEq_bb) (And.intro @uEq_nn (And.intro @uEq_ni @uEq_in)))) (And.intro (And.intro (And.intro @uEq_ns @uEq_sn) (And.intro @uEq_is (And.intro @uEq_si @uEq_rr))) (And.intro (And.intro @uEq_tt @uEq_rt) (And.intro @uEq_tr (And.intro @uEq_tn @uEq_nt)))))) (And.intro (And.intro (And.intro (And.intro (And.intro @uNe_ii @uNe_ss) (And.intro @uNe_bb @uNe_nn)) (And.intro (And.intro @uNe_ni @uNe_in) (And.intro @uNe_ns (And.intro @uNe_sn @uNe_is)))) (And.intro (And.intro (And.intro @uNe_si @uNe_rr) (And.intro @uNe_tt @uNe_rt)) (And.intro (And.intro @uNe_tr @uNe_tn) (And.intro @uNe_nt (And.intro @uIn_t @uIn_r))))) (And.intro (And.intro (And.intro (And.intro @uIx_t @uIx_r) (And.intro @uIx_c @uIx_s)) (And.intro (And.intro @uLen_c @uLen_r) (And.intro @uLen_t (And.intro @uLen_s @uMin_i)))) (And.intro (And.intro (And.intro @uMin_r @uMax_i) (And.intro @uMax_r (And.intro @uInt_b @uInt_i))) (And.intro (And.intro @uInt_s @uList_r) (And.intro @uList_t (And.intro @uIsi_n @uIsi_b))))))) (And.intro (And.intro (And.intro (And.intro (And.intro (And.intro @uIsi_i @uIsi_s) (And.intro @uIsi_t @uIsi_c)) (And.intro (And.intro @uSl_c @uSl_t) (And.intro @uSl_r (And.intro @uSl_s @iOf_r)))) (And.intro (And.intro (And.intro @iOf_c @isNon_n) (And.intro @isNon_i @isNon_s)) (And.intro (And.intro @isNon_b @isNon_t) (And.intro @isNon_r (And.intro @flat_s @flat_i))))) (And.intro (And.intro (And.intro (And.intro @flat_b @flat_n) (And.intro @weq_ss @weq_ii)) (And.intro (And.intro @weq_ni @weq_in) (And.intro @weq_nn (And.intro @kb_bb @kb_bi)))) (And.intro (And.intro (And.intro @kb_bs @kb_bl) (And.intro @kb_bt (And.intro @kb_ib @kb_ii))) (And.intro (And.intro @kb_is @kb_il) (And.intro @kb_it (And.intro @kb_sb @kb_si)))))) (And.intro (And.intro (And.intro (And.intro (And.intro @kb_ss @kb_sl) (And.intro @kb_st @kb_lb)) (And.intro (And.intro @kb_li @kb_ls) (And.intro @kb_ll (And.intro @kb_lt @kb_tb)))) (And.intro (And.intro (And.intro @kb_ti @kb_ts) (And.intro @kb_tl @kb_tt)) (And.intro (And.intro @kb_nb @kb_ni) (And.intro @kb_ns (And.intro @kb_nl @kb_nt))))) (And.intro (And.intro (And.intro (And.intro @nth0 @nth1) (And.intro @nth2 @nth3)) (And.intro (And.intro @mDisp_eq @sp1_iff) (And.intro @sp2_iff (And.intro @sp3_iff @sp4_iff)))) (And.intro (And.intro (And.intro @sp5_iff @pw_2_61) (And.intro @pw_10_18 (And.intro @pw_10_30 @pw_10_29))) (And.intro (And.intro @pw_10_28 @pw_10_40) (And.intro @pw_10_6 (And.intro @pw_10_9 @lg_128)))))))))
end SL
namespace SL
open PySem PySem.Spec PyProof.Rows L2
variable [clz : Cls]
/-! ### _law_source -/
def sp__law_source : SpW := sp1 fun x Cs Q _ => ∃ (a : Addr) (ns : List Int), x = .cst a (ns.map W.int) ∧ ns.length ≤ 63 ∧ ∀ (q : Addr) (S : SrcS), S.ok 0 → Q (.ref q) (S.at_ q ++ Cs)
theorem len__law_source : ∀ ws Cs Q E, sp__law_source ws Cs Q E → ws.length = 1 := len1
structure I__law_source (p : Addr) (Cs : Cells) (i : Nat) (ρ : Rho) (C : Cells) (mix : Int) (digs : List Int) : Prop where
  h1 : ρ 1 = some (.int mix)
  h2 : ρ 2 = some (.ref p)
  m0 : 0 ≤ mix
  m1 : mix < 2305843009213693951
  hd : digs.length ≤ i
  hc : C = (p, .lst (digs.map W.int)) :: Cs
def b__law_source : MS := sSeq (sAsg (mC (.int 271828182845904)) (gSet 1)) (sSeq (sAsg (mLst (mNil)) (gSet 2)) (sSeq (sFor (iLst (mVar 0)) (gSet 3) (sSeq (sAsg (mBin qMod (mBin uAdd (mBin uMul (mVar 1) (mC (.int 1000033))) (mVar 3)) (mBin qSub (mBin qPow (mC (.int 2)) (mC (.int 61))) (mC (.int 1)))) (gSet 1)) (sSeq (sAsg (mCB uMax (mCons (mVar 3) (mCons (mBin qSub (mC (.int 0)) (mVar 3)) (mNil)))) (gSet 4)) (sIf (mTest (mBin qGe (mVar 4) (mBin qPow (mC (.int 10)) (mC (.int 18))))) (sDrop (mBM "list" (qMutL gAppend) (mVar 2) (mCons (mBin qSub (mVar 4) (mBin qPow (mC (.int 10)) (mC (.int 18)))) (mNil)))) (sNext))))) (sRet (mLst (mCons (mVar 2) (mCons (mC (.int 0)) (mCons (mVar 1) (mCons (mC (.int 0)) (mNil)))))))))
theorem pure__law_source : ∀ ws Cs Q E, sp__law_source ws Cs Q E → b__law_source (EndsD Q E) (rho0 ws) Cs := by
  rintro ws Cs Q E ⟨x, rfl, a, ns, rfl, hn, q⟩
  simp only [b__law_source, exA, mFrzT, mFrz, mFrzV, mSortItems, mUn, mVar, mC, mBin, mNil, mCons, mCB, mTest, mAnd, mOr, mNot, mIf, mAndV, mOrV, mNotV, mTup, mLst, mChain, mCall, mCallK, reord, mYes, sNext, sSeq, sDrop, sRet, sRetN, sIf, sNever, sBreak, sCont, sAsg, sPar, sAug, sStore, gSet, gsNil, gsCons, gTupW, qI2, qI, qNeg, qAbs, qStrI, iLst, iStr, iRgn, iRg2, iEnu, iTpl, mDT, mBM, mBM0, mSl, oNone, oSome, sMatch, mGo, mDNew, mPairs, EndsD, EndsW.turn, win, forall_const, W.ls.injEq, Int.zero_add, List.filterMap_cons, List.filterMap_nil, List.cons_append, List.nil_append, List.length_cons, List.length_nil, List.all_cons, List.all_nil, List.any_cons, List.any_nil, List.getElem?_cons_zero, List.getElem?_cons_succ, List.getElem?_nil, List.set_cons_zero, List.set_cons_succ, reduceIte, reduceCtorEq, Nat.reduceEqDiff, Nat.reduceAdd, Nat.reduceSub, Nat.reduceMul, Nat.reduceLeDiff, Int.reduceToNat, Int.cast_ofNat_Int, Int.natCast_zero, Int.natCast_one, Int.reduceLE, Int.reduceLT, Int.reduceNeg, Int.reduceAdd, Int.reduceSub, Int.reducePow, Int.reduceEq, Int.reduceNe, Int.toNat_zero, Int.toNat_one, Int.ofNat_eq_natCast, Nat.reducePow, Nat.le_refl, ge_iff_le, gt_iff_lt, List.mem_cons, List.not_mem_nil, or_false, false_or, or_true, true_or, Option.some.injEq, exists_eq_left', exists_eq_left, exists_eq', exists_eq, exists_and_left, exists_and_right, and_assoc, true_and, and_true, false_and, and_false, exists_false, exists_const, not_true_eq_false, not_false_eq_true, W.int.injEq, W.bl.injEq, W.str.injEq, W.ref.injEq, W.tup.injEq, List.cons.injEq, Bool.true_eq_false, Bool.false_eq_true, decide_eq_true_eq, decide_eq_false_iff_not, Bool.not_eq_true', Bool.not_eq_false', Bool.not_true, Bool.not_false, true_implies, false_implies, implies_true, imp_self, decide_true, decide_false, Bool.and_true, Bool.true_and, Bool.and_false, Bool.false_and, Bool.or_false, Bool.or_true, Bool.false_or, Bool.true_or, beq_self_eq_true, eq_self_iff_true, ne_eq, Int.not_lt, Int.not_le, Nat.not_lt, Nat.not_le, BEq.rfl]
  intro p
  refine forB_i (fun i ρ C => ∃ mix digs, I__law_source p Cs i ρ C mix digs) ⟨_, [], rfl, rfl, by decide, by decide, by decide, rfl⟩ (fun _ _ _ _ _ => trivial) ?_ ?_
  · rintro i w ρ C hi hw ⟨mix, digs, ⟨h1, h2, m0, m1, hd, rfl⟩⟩
    dsimp only at hi hw
    rw [List.length_map] at hi
    rw [List.getElem?_map, List.getElem?_eq_getElem hi] at hw
    obtain rfl := Option.some.inj hw
    simp only [h1, h2, exA, mFrzT, mFrz, mFrzV, mSortItems, mUn, mVar, mC, mBin, mNil, mCons, mCB, mTest, mAnd, mOr, mNot, mIf, mAndV, mOrV, mNotV, mTup, mLst, mChain, mCall, mCallK, reord, mYes, sNext, sSeq, sDrop, sRet, sRetN, sIf, sNever, sBreak, sCont, sAsg, sPar, sAug, sStore, gSet, gsNil, gsCons, gTupW, qI2, qI, qNeg, qAbs, qStrI, iLst, iStr, iRgn, iRg2, iEnu, iTpl, mDT, mBM, mBM0, mSl, oNone, oSome, sMatch, mGo, mDNew, mPairs, EndsD, EndsW.turn, win, forall_const, W.ls.injEq, Int.zero_add, List.filterMap_cons, List.filterMap_nil, List.cons_append, List.nil_append, List.length_cons, List.length_nil, List.all_cons, List.all_nil, List.any_cons, List.any_nil, List.getElem?_cons_zero, List.getElem?_cons_succ, List.getElem?_nil, List.set_cons_zero, List.set_cons_succ, reduceIte, reduceCtorEq, Nat.reduceEqDiff, Nat.reduceAdd, Nat.reduceSub, Nat.reduceMul, Nat.reduceLeDiff, Int.reduceToNat, Int.cast_ofNat_Int, Int.natCast_zero, Int.natCast_one, Int.reduceLE, Int.reduceLT, Int.reduceNeg, Int.reduceAdd, Int.reduceSub, Int.reducePow, Int.reduceEq, Int.reduceNe, Int.toNat_zero, Int.toNat_one, Int.ofNat_eq_natCast, Nat.reducePow, Nat.le_refl, ge_iff_le, gt_iff_lt, List.mem_cons, List.not_mem_nil, or_false, false_or, or_true, true_or, Option.some.injEq, exists_eq_left', exists_eq_left, exists_eq', exists_eq, exists_and_left, exists_and_right, and_assoc, true_and, and_true, false_and, and_false, exists_false, exists_const, not_true_eq_false, not_false_eq_true, W.int.injEq, W.bl.injEq, W.str.injEq, W.ref.injEq, W.tup.injEq, List.cons.injEq, Bool.true_eq_false, Bool.false_eq_true, decide_eq_true_eq, decide_eq_false_iff_not, Bool.not_eq_true', Bool.not_eq_false', Bool.not_true, Bool.not_false, true_implies, false_implies, implies_true, imp_self, decide_true, decide_false, Bool.and_true, Bool.true_and, Bool.and_false, Bool.false_and, Bool.or_false, Bool.or_true, Bool.false_or, Bool.true_or, beq_self_eq_true, eq_self_iff_true, ne_eq, Int.not_lt, Int.not_le, Nat.not_lt, Nat.not_le, BEq.rfl]
    refine ⟨mul64 (by omega) (by omega), ?_, ?_⟩
    · intro _
      refine ⟨mty_l, append_i (by rw [List.length_map]; omega) ?_⟩
      exact ⟨_, Part.here, _, digs ++ [_], rfl, h2, Int.emod_nonneg _ (by decide), Int.emod_lt_of_pos _ (by decide), by simp; omega, by rw [List.map_append]; rfl⟩
    · intro _
      exact ⟨_, Part.here, _, digs, rfl, h2, Int.emod_nonneg _ (by decide), Int.emod_lt_of_pos _ (by decide), by omega, rfl⟩
  · rintro ρ C ⟨mix, digs, ⟨h1, h2, m0, m1, hd, rfl⟩⟩
    simp only [h1, h2, exA, mFrzT, mFrz, mFrzV, mSortItems, mUn, mVar, mC, mBin, mNil, mCons, mCB, mTest, mAnd, mOr, mNot, mIf, mAndV, mOrV, mNotV, mTup, mLst, mChain, mCall, mCallK, reord, mYes, sNext, sSeq, sDrop, sRet, sRetN, sIf, sNever, sBreak, sCont, sAsg, sPar, sAug, sStore, gSet, gsNil, gsCons, gTupW, qI2, qI, qNeg, qAbs, qStrI, iLst, iStr, iRgn, iRg2, iEnu, iTpl, mDT, mBM, mBM0, mSl, oNone, oSome, sMatch, mGo, mDNew, mPairs, EndsD, EndsW.turn, win, forall_const, W.ls.injEq, Int.zero_add, List.filterMap_cons, List.filterMap_nil, List.cons_append, List.nil_append, List.length_cons, List.length_nil, List.all_cons, List.all_nil, List.any_cons, List.any_nil, List.getElem?_cons_zero, List.getElem?_cons_succ, List.getElem?_nil, List.set_cons_zero, List.set_cons_succ, reduceIte, reduceCtorEq, Nat.reduceEqDiff, Nat.reduceAdd, Nat.reduceSub, Nat.reduceMul, Nat.reduceLeDiff, Int.reduceToNat, Int.cast_ofNat_Int, Int.natCast_zero, Int.natCast_one, Int.reduceLE, Int.reduceLT, Int.reduceNeg, Int.reduceAdd, Int.reduceSub, Int.reducePow, Int.reduceEq, Int.reduceNe, Int.toNat_zero, Int.toNat_one, Int.ofNat_eq_natCast, Nat.reducePow, Nat.le_refl, ge_iff_le, gt_iff_lt, List.mem_cons, List.not_mem_nil, or_false, false_or, or_true, true_or, Option.some.injEq, exists_eq_left', exists_eq_left, exists_eq', exists_eq, exists_and_left, exists_and_right, and_assoc, true_and, and_true, false_and, and_false, exists_false, exists_const, not_true_eq_false, not_false_eq_true, W.int.injEq, W.bl.injEq, W.str.injEq, W.ref.injEq, W.tup.injEq, List.cons.injEq, Bool.true_eq_false, Bool.false_eq_true, decide_eq_true_eq, decide_eq_false_iff_not, Bool.not_eq_true', Bool.not_eq_false', Bool.not_true, Bool.not_false, true_implies, false_implies, implies_true, imp_self, decide_true, decide_false, Bool.and_true, Bool.true_and, Bool.and_false, Bool.false_and, Bool.or_false, Bool.or_true, Bool.false_or, Bool.true_or, beq_self_eq_true, eq_self_iff_true, ne_eq, Int.not_lt, Int.not_le, Nat.not_lt, Nat.not_le, BEq.rfl]
    exact fun q' => ⟨_, Part.here, q q' ⟨p, digs, 0, mix, 0⟩ ⟨Int.le_refl _, Int.le_refl _, m0, m1⟩⟩
/-! ### _law_draw -/
def sp__law_draw : SpW := sp2 fun x y Cs Q _ => ∃ (q : Addr) (many : Int) (S : SrcS) (Ds : Cells) (N : Nat), x = .ref q ∧ y = .int many ∧ 0 < many ∧ many.natAbs < 2 ^ 200 ∧ Cs = S.at_ q ++ Ds ∧ S.ok N ∧ N + 1 ≤ 1000000000 ∧
  ∀ (r : Int) (S' : SrcS), 0 ≤ r → r < many → S'.ok (N + 1) → Q (.int r) (S'.at_ q ++ Ds)
theorem len__law_draw : ∀ ws Cs Q E, sp__law_draw ws Cs Q E → ws.length = 2 := len2
/-- one number is drawn -/
theorem draw_i {q : Addr} {many : Int} {S : SrcS} {Cs Ds : Cells} {N : Nat} {Q : WK} {E : XW} [t : TakeS q Cs S Ds] (hm : 0 < many) (hM : many.natAbs < 2 ^ 200) (ok : S.ok N) (hN : N + 1 ≤ 1000000000) (k : ∀ (r : Int) (S' : SrcS), 0 ≤ r → r < many → S'.ok (N + 1) → Q (.int r) (S'.at_ q ++ Ds)) :
    cl sp__law_draw [.ref q, .int many] Cs Q E := cl_i (part_perm t.perm) ⟨_, _, rfl, q, many, S, Ds, N, rfl, rfl, hm, hM, rfl, ok, hN, k⟩
structure I__law_draw (q : Addr) (many : Int) (N : Nat) (Ds : Cells) (m : Nat) (ρ : Rho) (C : Cells) (S : SrcS) : Prop where
  h0 : ρ 0 = some (.ref q)
  h1 : ρ 1 = some (.int many)
  ok : S.ok N
  hm : S.digs.length ≤ m
  hc : C = S.at_ q ++ Ds
def b__law_draw : MS := sSeq (sWhile (mAnd (mTest (mBin qLt (mBin uIx (mVar 0) (mC (.int 1))) (mC (.int 2)))) (mTest (mBin uNe (mBin uIx (mVar 0) (mC (.int 0))) (mFrz (mLst (mNil)))))) (sStore qSetL (mBM "list" (qMutL gPop0) (mBin uIx (mVar 0) (mC (.int 0))) (mCons (mC (.int 0)) (mNil))) (mVar 0) (mC (.int 1)))) (sSeq (sIf (mTest (mBin qGe (mBin uIx (mVar 0) (mC (.int 1))) (mC (.int 2)))) (sSeq (sAsg (mBin qMod (mBin uIx (mVar 0) (mC (.int 1))) (mVar 1)) (gSet 2)) (sSeq (sStore qSetL (mBin qFdiv (mBin uIx (mVar 0) (mC (.int 1))) (mVar 1)) (mVar 0) (mC (.int 1))) (sRet (mVar 2)))) (sNext)) (sSeq (sStore qSetL (mBin uAdd (mBin uIx (mVar 0) (mC (.int 3))) (mC (.int 1))) (mVar 0) (mC (.int 3))) (sSeq (sAsg (mBin uMul (mBin uAdd (mBin uIx (mVar 0) (mC (.int 2))) (mC (.int 7))) (mBin qPow (mBin uAdd (mBin uIx (mVar 0) (mC (.int 3))) (mC (.int 3))) (mC (.int 3)))) (gSet 3)) (sSeq (sAsg (mBin qMod (mBin uAdd (mVar 3) (mBin uMul (mC (.int 1000081)) (mBin uIx (mVar 0) (mC (.int 3))))) (mBin qSub (mBin qPow (mC (.int 2)) (mC (.int 61))) (mC (.int 1)))) (gSet 3)) (sRet (mBin qMod (mBin qFdiv (mBin qMod (mBin qPow (mVar 3) (mC (.int 5))) (mBin uAdd (mBin qPow (mC (.int 10)) (mC (.int 18))) (mC (.int 9)))) (mC (.int 128))) (mVar 1)))))))
theorem pure__law_draw : ∀ ws Cs Q E, sp__law_draw ws Cs Q E → b__law_draw (EndsD Q E) (rho0 ws) Cs := by
  rintro ws Cs Q E ⟨x, y, rfl, q, many, S, Ds, N, rfl, rfl, hm, hM, rfl, ok, hN, k⟩
  unfold b__law_draw
  refine seqW_i (fun m ρ C => ∃ S, I__law_draw q many N Ds m ρ C S) (fun ρ C => ∃ S, I__law_draw q many N Ds S.digs.length ρ C S) S.digs.length ⟨S, rfl, rfl, ok, Nat.le_refl _, rfl⟩ ?_ ?_
  · rintro ρ C ⟨⟨p, digs, cur, mix, cnt⟩, ⟨h0, h1, ok, hl, rfl⟩⟩
    obtain ⟨c0, c1, m0, m1⟩ := ok
    dsimp only at c0 c1 m0 m1
    (repeat (first | (simp only [h0, h1, SrcS.at_, exA, mFrzT, mFrz, mFrzV, mSortItems, mUn, mVar, mC, mBin, mNil, mCons, mCB, mTest, mAnd, mOr, mNot, mIf, mAndV, mOrV, mNotV, mTup, mLst, mChain, mCall, mCallK, reord, mYes, sNext, sSeq, sDrop, sRet, sRetN, sIf, sNever, sBreak, sCont, sAsg, sPar, sAug, sStore, gSet, gsNil, gsCons, gTupW, qI2, qI, qNeg, qAbs, qStrI, iLst, iStr, iRgn, iRg2, iEnu, iTpl, mDT, mBM, mBM0, mSl, oNone, oSome, sMatch, mGo, mDNew, mPairs, EndsD, EndsW.turn, win, forall_const, W.ls.injEq, Int.zero_add, List.filterMap_cons, List.filterMap_nil, List.cons_append, List.nil_append, List.length_cons, List.length_nil, List.all_cons, List.all_nil, List.any_cons, List.any_nil, List.getElem?_cons_zero, List.getElem?_cons_succ, List.getElem?_nil, List.set_cons_zero, List.set_cons_succ, reduceIte, reduceCtorEq, Nat.reduceEqDiff, Nat.reduceAdd, Nat.reduceSub, Nat.reduceMul, Nat.reduceLeDiff, Int.reduceToNat, Int.cast_ofNat_Int, Int.natCast_zero, Int.natCast_one, Int.reduceLE, Int.reduceLT, Int.reduceNeg, Int.reduceAdd, Int.reduceSub, Int.reducePow, Int.reduceEq, Int.reduceNe, Int.toNat_zero, Int.toNat_one, Int.ofNat_eq_natCast, Nat.reducePow, Nat.le_refl, ge_iff_le, gt_iff_lt, List.mem_cons, List.not_mem_nil, or_false, false_or, or_true, true_or, Option.some.injEq, exists_eq_left', exists_eq_left, exists_eq', exists_eq, exists_and_left, exists_and_right, and_assoc, true_and, and_true, false_and, and_false, exists_false, exists_const, not_true_eq_false, not_false_eq_true, W.int.injEq, W.bl.injEq, W.str.injEq, W.ref.injEq, W.tup.injEq, List.cons.injEq, Bool.true_eq_false, Bool.false_eq_true, decide_eq_true_eq, decide_eq_false_iff_not, Bool.not_eq_true', Bool.not_eq_false', Bool.not_true, Bool.not_false, true_implies, false_implies, implies_true, imp_self, decide_true, decide_false, Bool.and_true, Bool.true_and, Bool.and_false, Bool.false_and, Bool.or_false, Bool.or_true, Bool.false_or, Bool.true_or, beq_self_eq_true, eq_self_iff_true, ne_eq, Int.not_lt, Int.not_le, Nat.not_lt, Nat.not_le, BEq.rfl]) | (with_reducible refine ⟨_, (by first | exact lsAt_i | assumption), ?_⟩) | (with_reducible refine ⟨mty_l, ?_⟩) | (with_reducible refine frz_i ?_) | (with_reducible refine dget_ik ?_) | (with_reducible refine dget_id ?_) | (with_reducible refine ⟨isD_i, ?_⟩) | (with_reducible refine dput_ik (by first | assumption | omega) ?_) | (with_reducible refine ⟨mty_s, ?_⟩) | (with_reducible refine ⟨mty_t, ?_⟩) | (with_reducible refine ⟨_, ty_l (by first | exact lsAt_i | assumption), ?_⟩)))
    refine ⟨fun hc => ?_, fun hc => ?_⟩
    · (repeat (first | (simp only [h0, h1, exA, mFrzT, mFrz, mFrzV, mSortItems, mUn, mVar, mC, mBin, mNil, mCons, mCB, mTest, mAnd, mOr, mNot, mIf, mAndV, mOrV, mNotV, mTup, mLst, mChain, mCall, mCallK, reord, mYes, sNext, sSeq, sDrop, sRet, sRetN, sIf, sNever, sBreak, sCont, sAsg, sPar, sAug, sStore, gSet, gsNil, gsCons, gTupW, qI2, qI, qNeg, qAbs, qStrI, iLst, iStr, iRgn, iRg2, iEnu, iTpl, mDT, mBM, mBM0, mSl, oNone, oSome, sMatch, mGo, mDNew, mPairs, EndsD, EndsW.turn, win, forall_const, W.ls.injEq, Int.zero_add, List.filterMap_cons, List.filterMap_nil, List.cons_append, List.nil_append, List.length_cons, List.length_nil, List.all_cons, List.all_nil, List.any_cons, List.any_nil, List.getElem?_cons_zero, List.getElem?_cons_succ, List.getElem?_nil, List.set_cons_zero, List.set_cons_succ, reduceIte, reduceCtorEq, Nat.reduceEqDiff, Nat.reduceAdd, Nat.reduceSub, Nat.reduceMul, Nat.reduceLeDiff, Int.reduceToNat, Int.cast_ofNat_Int, Int.natCast_zero, Int.natCast_one, Int.reduceLE, Int.reduceLT, Int.reduceNeg, Int.reduceAdd, Int.reduceSub, Int.reducePow, Int.reduceEq, Int.reduceNe, Int.toNat_zero, Int.toNat_one, Int.ofNat_eq_natCast, Nat.reducePow, Nat.le_refl, ge_iff_le, gt_iff_lt, List.mem_cons, List.not_mem_nil, or_false, false_or, or_true, true_or, Option.some.injEq, exists_eq_left', exists_eq_left, exists_eq', exists_eq, exists_and_left, exists_and_right, and_assoc, true_and, and_true, false_and, and_false, exists_false, exists_const, not_true_eq_false, not_false_eq_true, W.int.injEq, W.bl.injEq, W.str.injEq, W.ref.injEq, W.tup.injEq, List.cons.injEq, Bool.true_eq_false, Bool.false_eq_true, decide_eq_true_eq, decide_eq_false_iff_not, Bool.not_eq_true', Bool.not_eq_false', Bool.not_true, Bool.not_false, true_implies, false_implies, implies_true, imp_self, decide_true, decide_false, Bool.and_true, Bool.true_and, Bool.and_false, Bool.false_and, Bool.or_false, Bool.or_true, Bool.false_or, Bool.true_or, beq_self_eq_true, eq_self_iff_true, ne_eq, Int.not_lt, Int.not_le, Nat.not_lt, Nat.not_le, BEq.rfl]) | (with_reducible refine ⟨_, (by first | exact lsAt_i | assumption), ?_⟩) | (with_reducible refine ⟨mty_l, ?_⟩) | (with_reducible refine frz_i ?_) | (with_reducible refine dget_ik ?_) | (with_reducible refine dget_id ?_) | (with_reducible refine ⟨isD_i, ?_⟩) | (with_reducible refine dput_ik (by first | assumption | omega) ?_) | (with_reducible refine ⟨mty_s, ?_⟩) | (with_reducible refine ⟨mty_t, ?_⟩) | (with_reducible refine ⟨_, ty_l (by first | exact lsAt_i | assumption), ?_⟩)))
      refine ⟨hm, ?_⟩
      (repeat (first | (simp only [h0, h1, exA, mFrzT, mFrz, mFrzV, mSortItems, mUn, mVar, mC, mBin, mNil, mCons, mCB, mTest, mAnd, mOr, mNot, mIf, mAndV, mOrV, mNotV, mTup, mLst, mChain, mCall, mCallK, reord, mYes, sNext, sSeq, sDrop, sRet, sRetN, sIf, sNever, sBreak, sCont, sAsg, sPar, sAug, sStore, gSet, gsNil, gsCons, gTupW, qI2, qI, qNeg, qAbs, qStrI, iLst, iStr, iRgn, iRg2, iEnu, iTpl, mDT, mBM, mBM0, mSl, oNone, oSome, sMatch, mGo, mDNew, mPairs, EndsD, EndsW.turn, win, forall_const, W.ls.injEq, Int.zero_add, List.filterMap_cons, List.filterMap_nil, List.cons_append, List.nil_append, List.length_cons, List.length_nil, List.all_cons, List.all_nil, List.any_cons, List.any_nil, List.getElem?_cons_zero, List.getElem?_cons_succ, List.getElem?_nil, List.set_cons_zero, List.set_cons_succ, reduceIte, reduceCtorEq, Nat.reduceEqDiff, Nat.reduceAdd, Nat.reduceSub, Nat.reduceMul, Nat.reduceLeDiff, Int.reduceToNat, Int.cast_ofNat_Int, Int.natCast_zero, Int.natCast_one, Int.reduceLE, Int.reduceLT, Int.reduceNeg, Int.reduceAdd, Int.reduceSub, Int.reducePow, Int.reduceEq, Int.reduceNe, Int.toNat_zero, Int.toNat_one, Int.ofNat_eq_natCast, Nat.reducePow, Nat.le_refl, ge_iff_le, gt_iff_lt, List.mem_cons, List.not_mem_nil, or_false, false_or, or_true, true_or, Option.some.injEq, exists_eq_left', exists_eq_left, exists_eq', exists_eq, exists_and_left, exists_and_right, and_assoc, true_and, and_true, false_and, and_false, exists_false, exists_const, not_true_eq_false, not_false_eq_true, W.int.injEq, W.bl.injEq, W.str.injEq, W.ref.injEq, W.tup.injEq, List.cons.injEq, Bool.true_eq_false, Bool.false_eq_true, decide_eq_true_eq, decide_eq_false_iff_not, Bool.not_eq_true', Bool.not_eq_false', Bool.not_true, Bool.not_false, true_implies, false_implies, implies_true, imp_self, decide_true, decide_false, Bool.and_true, Bool.true_and, Bool.and_false, Bool.false_and, Bool.or_false, Bool.or_true, Bool.false_or, Bool.true_or, beq_self_eq_true, eq_self_iff_true, ne_eq, Int.not_lt, Int.not_le, Nat.not_lt, Nat.not_le, BEq.rfl]) | (with_reducible refine ⟨_, (by first | exact lsAt_i | assumption), ?_⟩) | (with_reducible refine ⟨mty_l, ?_⟩) | (with_reducible refine frz_i ?_) | (with_reducible refine dget_ik ?_) | (with_reducible refine dget_id ?_) | (with_reducible refine ⟨isD_i, ?_⟩) | (with_reducible refine dput_ik (by first | assumption | omega) ?_) | (with_reducible refine ⟨mty_s, ?_⟩) | (with_reducible refine ⟨mty_t, ?_⟩) | (with_reducible refine ⟨_, ty_l (by first | exact lsAt_i | assumption), ?_⟩)))
      refine ⟨hm, (fdivOk hm hM (by decide)).2, setL_i (by decide) (by simp) ?_⟩
      exact ⟨_, .here, k _ ⟨p, digs, cur / many, mix, cnt⟩ (Int.emod_nonneg _ (by omega)) (Int.emod_lt_of_pos _ hm) ⟨c0, Int.le_trans c1 (by omega), m0, m1⟩⟩
    · (repeat (first | (simp only [h0, h1, exA, mFrzT, mFrz, mFrzV, mSortItems, mUn, mVar, mC, mBin, mNil, mCons, mCB, mTest, mAnd, mOr, mNot, mIf, mAndV, mOrV, mNotV, mTup, mLst, mChain, mCall, mCallK, reord, mYes, sNext, sSeq, sDrop, sRet, sRetN, sIf, sNever, sBreak, sCont, sAsg, sPar, sAug, sStore, gSet, gsNil, gsCons, gTupW, qI2, qI, qNeg, qAbs, qStrI, iLst, iStr, iRgn, iRg2, iEnu, iTpl, mDT, mBM, mBM0, mSl, oNone, oSome, sMatch, mGo, mDNew, mPairs, EndsD, EndsW.turn, win, forall_const, W.ls.injEq, Int.zero_add, List.filterMap_cons, List.filterMap_nil, List.cons_append, List.nil_append, List.length_cons, List.length_nil, List.all_cons, List.all_nil, List.any_cons, List.any_nil, List.getElem?_cons_zero, List.getElem?_cons_succ, List.getElem?_nil, List.set_cons_zero, List.set_cons_succ, reduceIte, reduceCtorEq, Nat.reduceEqDiff, Nat.reduceAdd, Nat.reduceSub, Nat.reduceMul, Nat.reduceLeDiff, Int.reduceToNat, Int.cast_ofNat_Int, Int.natCast_zero, Int.natCast_one, Int.reduceLE, Int.reduceLT, Int.reduceNeg, Int.reduceAdd, Int.reduceSub, Int.reducePow, Int.reduceEq, Int.reduceNe, Int.toNat_zero, Int.toNat_one, Int.ofNat_eq_natCast, Nat.reducePow, Nat.le_refl, ge_iff_le, gt_iff_lt, List.mem_cons, List.not_mem_nil, or_false, false_or, or_true, true_or, Option.some.injEq, exists_eq_left', exists_eq_left, exists_eq', exists_eq, exists_and_left, exists_and_right, and_assoc, true_and, and_true, false_and, and_false, exists_false, exists_const, not_true_eq_false, not_false_eq_true, W.int.injEq, W.bl.injEq, W.str.injEq, W.ref.injEq, W.tup.injEq, List.cons.injEq, Bool.true_eq_false, Bool.false_eq_true, decide_eq_true_eq, decide_eq_false_iff_not, Bool.not_eq_true', Bool.not_eq_false', Bool.not_true, Bool.not_false, true_implies, false_implies, implies_true, imp_self, decide_true, decide_false, Bool.and_true, Bool.true_and, Bool.and_false, Bool.false_and, Bool.or_false, Bool.or_true, Bool.false_or, Bool.true_or, beq_self_eq_true, eq_self_iff_true, ne_eq, Int.not_lt, Int.not_le, Nat.not_lt, Nat.not_le, BEq.rfl]) | (with_reducible refine ⟨_, (by first | exact lsAt_i | assumption), ?_⟩) | (with_reducible refine ⟨mty_l, ?_⟩) | (with_reducible refine frz_i ?_) | (with_reducible refine dget_ik ?_) | (with_reducible refine dget_id ?_) | (with_reducible refine ⟨isD_i, ?_⟩) | (with_reducible refine dput_ik (by first | assumption | omega) ?_) | (with_reducible refine ⟨mty_s, ?_⟩) | (with_reducible refine ⟨mty_t, ?_⟩) | (with_reducible refine ⟨_, ty_l (by first | exact lsAt_i | assumption), ?_⟩)))
      refine setL_i (by decide) (by simp) ?_
      (repeat (first | (simp only [h0, h1, exA, mFrzT, mFrz, mFrzV, mSortItems, mUn, mVar, mC, mBin, mNil, mCons, mCB, mTest, mAnd, mOr, mNot, mIf, mAndV, mOrV, mNotV, mTup, mLst, mChain, mCall, mCallK, reord, mYes, sNext, sSeq, sDrop, sRet, sRetN, sIf, sNever, sBreak, sCont, sAsg, sPar, sAug, sStore, gSet, gsNil, gsCons, gTupW, qI2, qI, qNeg, qAbs, qStrI, iLst, iStr, iRgn, iRg2, iEnu, iTpl, mDT, mBM, mBM0, mSl, oNone, oSome, sMatch, mGo, mDNew, mPairs, EndsD, EndsW.turn, win, forall_const, W.ls.injEq, Int.zero_add, List.filterMap_cons, List.filterMap_nil, List.cons_append, List.nil_append, List.length_cons, List.length_nil, List.all_cons, List.all_nil, List.any_cons, List.any_nil, List.getElem?_cons_zero, List.getElem?_cons_succ, List.getElem?_nil, List.set_cons_zero, List.set_cons_succ, reduceIte, reduceCtorEq, Nat.reduceEqDiff, Nat.reduceAdd, Nat.reduceSub, Nat.reduceMul, Nat.reduceLeDiff, Int.reduceToNat, Int.cast_ofNat_Int, Int.natCast_zero, Int.natCast_one, Int.reduceLE, Int.reduceLT, Int.reduceNeg, Int.reduceAdd, Int.reduceSub, Int.reducePow, Int.reduceEq, Int.reduceNe, Int.toNat_zero, Int.toNat_one, Int.ofNat_eq_natCast, Nat.reducePow, Nat.le_refl, ge_iff_le, gt_iff_lt, List.mem_cons, List.not_mem_nil, or_false, false_or, or_true, true_or, Option.some.injEq, exists_eq_left', exists_eq_left, exists_eq', exists_eq, exists_and_left, exists_and_right, and_assoc, true_and, and_true, false_and, and_false, exists_false, exists_const, not_true_eq_false, not_false_eq_true, W.int.injEq, W.bl.injEq, W.str.injEq, W.ref.injEq, W.tup.injEq, List.cons.injEq, Bool.true_eq_false, Bool.false_eq_true, decide_eq_true_eq, decide_eq_false_iff_not, Bool.not_eq_true', Bool.not_eq_false', Bool.not_true, Bool.not_false, true_implies, false_implies, implies_true, imp_self, decide_true, decide_false, Bool.and_true, Bool.true_and, Bool.and_false, Bool.false_and, Bool.or_false, Bool.or_true, Bool.false_or, Bool.true_or, beq_self_eq_true, eq_self_iff_true, ne_eq, Int.not_lt, Int.not_le, Nat.not_lt, Nat.not_le, BEq.rfl]) | (with_reducible refine ⟨_, (by first | exact lsAt_i | assumption), ?_⟩) | (with_reducible refine ⟨mty_l, ?_⟩) | (with_reducible refine frz_i ?_) | (with_reducible refine dget_ik ?_) | (with_reducible refine dget_id ?_) | (with_reducible refine ⟨isD_i, ?_⟩) | (with_reducible refine dput_ik (by first | assumption | omega) ?_) | (with_reducible refine ⟨mty_s, ?_⟩) | (with_reducible refine ⟨mty_t, ?_⟩) | (with_reducible refine ⟨_, ty_l (by first | exact lsAt_i | assumption), ?_⟩)))
      have hc3 : (cnt + 1 + 3).natAbs < 2 ^ 31 := by omega
      refine ⟨powA (by decide) hc3 (by decide), mul64 (by omega) (by omega), ?_⟩
      (repeat (first | (simp only [h0, h1, exA, mFrzT, mFrz, mFrzV, mSortItems, mUn, mVar, mC, mBin, mNil, mCons, mCB, mTest, mAnd, mOr, mNot, mIf, mAndV, mOrV, mNotV, mTup, mLst, mChain, mCall, mCallK, reord, mYes, sNext, sSeq, sDrop, sRet, sRetN, sIf, sNever, sBreak, sCont, sAsg, sPar, sAug, sStore, gSet, gsNil, gsCons, gTupW, qI2, qI, qNeg, qAbs, qStrI, iLst, iStr, iRgn, iRg2, iEnu, iTpl, mDT, mBM, mBM0, mSl, oNone, oSome, sMatch, mGo, mDNew, mPairs, EndsD, EndsW.turn, win, forall_const, W.ls.injEq, Int.zero_add, List.filterMap_cons, List.filterMap_nil, List.cons_append, List.nil_append, List.length_cons, List.length_nil, List.all_cons, List.all_nil, List.any_cons, List.any_nil, List.getElem?_cons_zero, List.getElem?_cons_succ, List.getElem?_nil, List.set_cons_zero, List.set_cons_succ, reduceIte, reduceCtorEq, Nat.reduceEqDiff, Nat.reduceAdd, Nat.reduceSub, Nat.reduceMul, Nat.reduceLeDiff, Int.reduceToNat, Int.cast_ofNat_Int, Int.natCast_zero, Int.natCast_one, Int.reduceLE, Int.reduceLT, Int.reduceNeg, Int.reduceAdd, Int.reduceSub, Int.reducePow, Int.reduceEq, Int.reduceNe, Int.toNat_zero, Int.toNat_one, Int.ofNat_eq_natCast, Nat.reducePow, Nat.le_refl, ge_iff_le, gt_iff_lt, List.mem_cons, List.not_mem_nil, or_false, false_or, or_true, true_or, Option.some.injEq, exists_eq_left', exists_eq_left, exists_eq', exists_eq, exists_and_left, exists_and_right, and_assoc, true_and, and_true, false_and, and_false, exists_false, exists_const, not_true_eq_false, not_false_eq_true, W.int.injEq, W.bl.injEq, W.str.injEq, W.ref.injEq, W.tup.injEq, List.cons.injEq, Bool.true_eq_false, Bool.false_eq_true, decide_eq_true_eq, decide_eq_false_iff_not, Bool.not_eq_true', Bool.not_eq_false', Bool.not_true, Bool.not_false, true_implies, false_implies, implies_true, imp_self, decide_true, decide_false, Bool.and_true, Bool.true_and, Bool.and_false, Bool.false_and, Bool.or_false, Bool.or_true, Bool.false_or, Bool.true_or, beq_self_eq_true, eq_self_iff_true, ne_eq, Int.not_lt, Int.not_le, Nat.not_lt, Nat.not_le, BEq.rfl]) | (with_reducible refine ⟨_, (by first | exact lsAt_i | assumption), ?_⟩) | (with_reducible refine ⟨mty_l, ?_⟩) | (with_reducible refine frz_i ?_) | (with_reducible refine dget_ik ?_) | (with_reducible refine dget_id ?_) | (with_reducible refine ⟨isD_i, ?_⟩) | (with_reducible refine dput_ik (by first | assumption | omega) ?_) | (with_reducible refine ⟨mty_s, ?_⟩) | (with_reducible refine ⟨mty_t, ?_⟩) | (with_reducible refine ⟨_, ty_l (by first | exact lsAt_i | assumption), ?_⟩)))
      refine ⟨mul64 (by omega) (by omega), ?_⟩
      have hp := Int.emod_nonneg ((mix + 7) * (cnt + 1 + 3) ^ 3 + 1000081 * (cnt + 1)) (b := 2305843009213693951) (by decide)
      have hl := Int.emod_lt_of_pos ((mix + 7) * (cnt + 1 + 3) ^ 3 + 1000081 * (cnt + 1)) (b := 2305843009213693951) (by decide)
      refine ⟨powA (by decide) (n := 61) (by omega) (by decide), hm, ?_⟩
      exact ⟨_, .here, k _ ⟨p, digs, cur, mix, cnt + 1⟩ (Int.emod_nonneg _ (by omega)) (Int.emod_lt_of_pos _ hm) ⟨by show 0 ≤ cnt + 1; omega, by show cnt + 1 ≤ ((N + 1 : Nat) : Int); omega, m0, m1⟩⟩
  · rintro m ρ C ⟨⟨p, digs, cur, mix, cnt⟩, ⟨h0, h1, ok, hl, rfl⟩⟩ N2 hN2
    (repeat (first | (simp only [h0, h1, SrcS.at_, exA, mFrzT, mFrz, mFrzV, mSortItems, mUn, mVar, mC, mBin, mNil, mCons, mCB, mTest, mAnd, mOr, mNot, mIf, mAndV, mOrV, mNotV, mTup, mLst, mChain, mCall, mCallK, reord, mYes, sNext, sSeq, sDrop, sRet, sRetN, sIf, sNever, sBreak, sCont, sAsg, sPar, sAug, sStore, gSet, gsNil, gsCons, gTupW, qI2, qI, qNeg, qAbs, qStrI, iLst, iStr, iRgn, iRg2, iEnu, iTpl, mDT, mBM, mBM0, mSl, oNone, oSome, sMatch, mGo, mDNew, mPairs, EndsD, EndsW.turn, win, forall_const, W.ls.injEq, Int.zero_add, List.filterMap_cons, List.filterMap_nil, List.cons_append, List.nil_append, List.length_cons, List.length_nil, List.all_cons, List.all_nil, List.any_cons, List.any_nil, List.getElem?_cons_zero, List.getElem?_cons_succ, List.getElem?_nil, List.set_cons_zero, List.set_cons_succ, reduceIte, reduceCtorEq, Nat.reduceEqDiff, Nat.reduceAdd, Nat.reduceSub, Nat.reduceMul, Nat.reduceLeDiff, Int.reduceToNat, Int.cast_ofNat_Int, Int.natCast_zero, Int.natCast_one, Int.reduceLE, Int.reduceLT, Int.reduceNeg, Int.reduceAdd, Int.reduceSub, Int.reducePow, Int.reduceEq, Int.reduceNe, Int.toNat_zero, Int.toNat_one, Int.ofNat_eq_natCast, Nat.reducePow, Nat.le_refl, ge_iff_le, gt_iff_lt, List.mem_cons, List.not_mem_nil, or_false, false_or, or_true, true_or, Option.some.injEq, exists_eq_left', exists_eq_left, exists_eq', exists_eq, exists_and_left, exists_and_right, and_assoc, true_and, and_true, false_and, and_false, exists_false, exists_const, not_true_eq_false, not_false_eq_true, W.int.injEq, W.bl.injEq, W.str.injEq, W.ref.injEq, W.tup.injEq, List.cons.injEq, Bool.true_eq_false, Bool.false_eq_true, decide_eq_true_eq, decide_eq_false_iff_not, Bool.not_eq_true', Bool.not_eq_false', Bool.not_true, Bool.not_false, true_implies, false_implies, implies_true, imp_self, decide_true, decide_false, Bool.and_true, Bool.true_and, Bool.and_false, Bool.false_and, Bool.or_false, Bool.or_true, Bool.false_or, Bool.true_or, beq_self_eq_true, eq_self_iff_true, ne_eq, Int.not_lt, Int.not_le, Nat.not_lt, Nat.not_le, BEq.rfl]) | (with_reducible refine ⟨_, (by first | exact lsAt_i | assumption), ?_⟩) | (with_reducible refine ⟨mty_l, ?_⟩) | (with_reducible refine frz_i ?_) | (with_reducible refine dget_ik ?_) | (with_reducible refine dget_id ?_) | (with_reducible refine ⟨isD_i, ?_⟩) | (with_reducible refine dput_ik (by first | assumption | omega) ?_) | (with_reducible refine ⟨mty_s, ?_⟩) | (with_reducible refine ⟨mty_t, ?_⟩) | (with_reducible refine ⟨_, ty_l (by first | exact lsAt_i | assumption), ?_⟩)))
    refine ⟨fun hc => ?_, fun hc => ⟨_, .here, hN2 _ _ ⟨⟨p, digs, cur, mix, cnt⟩, h0, h1, ok, Nat.le_refl _, rfl⟩⟩⟩
    (repeat (first | (simp only [h0, h1, exA, mFrzT, mFrz, mFrzV, mSortItems, mUn, mVar, mC, mBin, mNil, mCons, mCB, mTest, mAnd, mOr, mNot, mIf, mAndV, mOrV, mNotV, mTup, mLst, mChain, mCall, mCallK, reord, mYes, sNext, sSeq, sDrop, sRet, sRetN, sIf, sNever, sBreak, sCont, sAsg, sPar, sAug, sStore, gSet, gsNil, gsCons, gTupW, qI2, qI, qNeg, qAbs, qStrI, iLst, iStr, iRgn, iRg2, iEnu, iTpl, mDT, mBM, mBM0, mSl, oNone, oSome, sMatch, mGo, mDNew, mPairs, EndsD, EndsW.turn, win, forall_const, W.ls.injEq, Int.zero_add, List.filterMap_cons, List.filterMap_nil, List.cons_append, List.nil_append, List.length_cons, List.length_nil, List.all_cons, List.all_nil, List.any_cons, List.any_nil, List.getElem?_cons_zero, List.getElem?_cons_succ, List.getElem?_nil, List.set_cons_zero, List.set_cons_succ, reduceIte, reduceCtorEq, Nat.reduceEqDiff, Nat.reduceAdd, Nat.reduceSub, Nat.reduceMul, Nat.reduceLeDiff, Int.reduceToNat, Int.cast_ofNat_Int, Int.natCast_zero, Int.natCast_one, Int.reduceLE, Int.reduceLT, Int.reduceNeg, Int.reduceAdd, Int.reduceSub, Int.reducePow, Int.reduceEq, Int.reduceNe, Int.toNat_zero, Int.toNat_one, Int.ofNat_eq_natCast, Nat.reducePow, Nat.le_refl, ge_iff_le, gt_iff_lt, List.mem_cons, List.not_mem_nil, or_false, false_or, or_true, true_or, Option.some.injEq, exists_eq_left', exists_eq_left, exists_eq', exists_eq, exists_and_left, exists_and_right, and_assoc, true_and, and_true, false_and, and_false, exists_false, exists_const, not_true_eq_false, not_false_eq_true, W.int.injEq, W.bl.injEq, W.str.injEq, W.ref.injEq, W.tup.injEq, List.cons.injEq, Bool.true_eq_false, Bool.false_eq_true, decide_eq_true_eq, decide_eq_false_iff_not, Bool.not_eq_true', Bool.not_eq_false', Bool.not_true, Bool.not_false, true_implies, false_implies, implies_true, imp_self, decide_true, decide_false, Bool.and_true, Bool.true_and, Bool.and_false, Bool.false_and, Bool.or_false, Bool.or_true, Bool.false_or, Bool.true_or, beq_self_eq_true, eq_self_iff_true, ne_eq, Int.not_lt, Int.not_le, Nat.not_lt, Nat.not_le, BEq.rfl]) | (with_reducible refine ⟨_, (by first | exact lsAt_i | assumption), ?_⟩) | (with_reducible refine ⟨mty_l, ?_⟩) | (with_reducible refine frz_i ?_) | (with_reducible refine dget_ik ?_) | (with_reducible refine dget_id ?_) | (with_reducible refine ⟨isD_i, ?_⟩) | (with_reducible refine dput_ik (by first | assumption | omega) ?_) | (with_reducible refine ⟨mty_s, ?_⟩) | (with_reducible refine ⟨mty_t, ?_⟩) | (with_reducible refine ⟨_, ty_l (by first | exact lsAt_i | assumption), ?_⟩)))
    refine neV_i true (xs := digs.map W.int) (ys := []) lsAt_i rfl dk_ints (dk_ints (ns := [])) ?_
    cases digs with
    | nil =>
      refine ⟨_, rfl, fun z => ?_, fun _ => ⟨(q, .lst [.ref p, .int cur, .int mix, .int cnt]) :: (p, .lst (([] : List Int).map W.int)) :: Ds, inferInstance, hN2 _ _ ⟨⟨p, [], cur, mix, cnt⟩, h0, h1, ok, Nat.le_refl _, rfl⟩⟩⟩
      rw [show (W.ls (([] : List Int).map W.int)) = W.ls [] from rfl, eqB_self] at z
      cases z
    | cons d digs =>
      refine ⟨_, rfl, fun _ => ?_, fun z => ?_⟩
      · (repeat (first | (simp only [h0, h1, exA, mFrzT, mFrz, mFrzV, mSortItems, mUn, mVar, mC, mBin, mNil, mCons, mCB, mTest, mAnd, mOr, mNot, mIf, mAndV, mOrV, mNotV, mTup, mLst, mChain, mCall, mCallK, reord, mYes, sNext, sSeq, sDrop, sRet, sRetN, sIf, sNever, sBreak, sCont, sAsg, sPar, sAug, sStore, gSet, gsNil, gsCons, gTupW, qI2, qI, qNeg, qAbs, qStrI, iLst, iStr, iRgn, iRg2, iEnu, iTpl, mDT, mBM, mBM0, mSl, oNone, oSome, sMatch, mGo, mDNew, mPairs, EndsD, EndsW.turn, win, forall_const, W.ls.injEq, Int.zero_add, List.filterMap_cons, List.filterMap_nil, List.cons_append, List.nil_append, List.length_cons, List.length_nil, List.all_cons, List.all_nil, List.any_cons, List.any_nil, List.getElem?_cons_zero, List.getElem?_cons_succ, List.getElem?_nil, List.set_cons_zero, List.set_cons_succ, reduceIte, reduceCtorEq, Nat.reduceEqDiff, Nat.reduceAdd, Nat.reduceSub, Nat.reduceMul, Nat.reduceLeDiff, Int.reduceToNat, Int.cast_ofNat_Int, Int.natCast_zero, Int.natCast_one, Int.reduceLE, Int.reduceLT, Int.reduceNeg, Int.reduceAdd, Int.reduceSub, Int.reducePow, Int.reduceEq, Int.reduceNe, Int.toNat_zero, Int.toNat_one, Int.ofNat_eq_natCast, Nat.reducePow, Nat.le_refl, ge_iff_le, gt_iff_lt, List.mem_cons, List.not_mem_nil, or_false, false_or, or_true, true_or, Option.some.injEq, exists_eq_left', exists_eq_left, exists_eq', exists_eq, exists_and_left, exists_and_right, and_assoc, true_and, and_true, false_and, and_false, exists_false, exists_const, not_true_eq_false, not_false_eq_true, W.int.injEq, W.bl.injEq, W.str.injEq, W.ref.injEq, W.tup.injEq, List.cons.injEq, Bool.true_eq_false, Bool.false_eq_true, decide_eq_true_eq, decide_eq_false_iff_not, Bool.not_eq_true', Bool.not_eq_false', Bool.not_true, Bool.not_false, true_implies, false_implies, implies_true, imp_self, decide_true, decide_false, Bool.and_true, Bool.true_and, Bool.and_false, Bool.false_and, Bool.or_false, Bool.or_true, Bool.false_or, Bool.true_or, beq_self_eq_true, eq_self_iff_true, ne_eq, Int.not_lt, Int.not_le, Nat.not_lt, Nat.not_le, BEq.rfl]) | (with_reducible refine ⟨_, (by first | exact lsAt_i | assumption), ?_⟩) | (with_reducible refine ⟨mty_l, ?_⟩) | (with_reducible refine frz_i ?_) | (with_reducible refine dget_ik ?_) | (with_reducible refine dget_id ?_) | (with_reducible refine ⟨isD_i, ?_⟩) | (with_reducible refine dput_ik (by first | assumption | omega) ?_) | (with_reducible refine ⟨mty_s, ?_⟩) | (with_reducible refine ⟨mty_t, ?_⟩) | (with_reducible refine ⟨_, ty_l (by first | exact lsAt_i | assumption), ?_⟩)))
        refine mutL_i (y := .int d) (us := digs.map W.int) rfl ?_
        (repeat (first | (simp only [h0, h1, exA, mFrzT, mFrz, mFrzV, mSortItems, mUn, mVar, mC, mBin, mNil, mCons, mCB, mTest, mAnd, mOr, mNot, mIf, mAndV, mOrV, mNotV, mTup, mLst, mChain, mCall, mCallK, reord, mYes, sNext, sSeq, sDrop, sRet, sRetN, sIf, sNever, sBreak, sCont, sAsg, sPar, sAug, sStore, gSet, gsNil, gsCons, gTupW, qI2, qI, qNeg, qAbs, qStrI, iLst, iStr, iRgn, iRg2, iEnu, iTpl, mDT, mBM, mBM0, mSl, oNone, oSome, sMatch, mGo, mDNew, mPairs, EndsD, EndsW.turn, win, forall_const, W.ls.injEq, Int.zero_add, List.filterMap_cons, List.filterMap_nil, List.cons_append, List.nil_append, List.length_cons, List.length_nil, List.all_cons, List.all_nil, List.any_cons, List.any_nil, List.getElem?_cons_zero, List.getElem?_cons_succ, List.getElem?_nil, List.set_cons_zero, List.set_cons_succ, reduceIte, reduceCtorEq, Nat.reduceEqDiff, Nat.reduceAdd, Nat.reduceSub, Nat.reduceMul, Nat.reduceLeDiff, Int.reduceToNat, Int.cast_ofNat_Int, Int.natCast_zero, Int.natCast_one, Int.reduceLE, Int.reduceLT, Int.reduceNeg, Int.reduceAdd, Int.reduceSub, Int.reducePow, Int.reduceEq, Int.reduceNe, Int.toNat_zero, Int.toNat_one, Int.ofNat_eq_natCast, Nat.reducePow, Nat.le_refl, ge_iff_le, gt_iff_lt, List.mem_cons, List.not_mem_nil, or_false, false_or, or_true, true_or, Option.some.injEq, exists_eq_left', exists_eq_left, exists_eq', exists_eq, exists_and_left, exists_and_right, and_assoc, true_and, and_true, false_and, and_false, exists_false, exists_const, not_true_eq_false, not_false_eq_true, W.int.injEq, W.bl.injEq, W.str.injEq, W.ref.injEq, W.tup.injEq, List.cons.injEq, Bool.true_eq_false, Bool.false_eq_true, decide_eq_true_eq, decide_eq_false_iff_not, Bool.not_eq_true', Bool.not_eq_false', Bool.not_true, Bool.not_false, true_implies, false_implies, implies_true, imp_self, decide_true, decide_false, Bool.and_true, Bool.true_and, Bool.and_false, Bool.false_and, Bool.or_false, Bool.or_true, Bool.false_or, Bool.true_or, beq_self_eq_true, eq_self_iff_true, ne_eq, Int.not_lt, Int.not_le, Nat.not_lt, Nat.not_le, BEq.rfl]) | (with_reducible refine ⟨_, (by first | exact lsAt_i | assumption), ?_⟩) | (with_reducible refine ⟨mty_l, ?_⟩) | (with_reducible refine frz_i ?_) | (with_reducible refine dget_ik ?_) | (with_reducible refine dget_id ?_) | (with_reducible refine ⟨isD_i, ?_⟩) | (with_reducible refine dput_ik (by first | assumption | omega) ?_) | (with_reducible refine ⟨mty_s, ?_⟩) | (with_reducible refine ⟨mty_t, ?_⟩) | (with_reducible refine ⟨_, ty_l (by first | exact lsAt_i | assumption), ?_⟩)))
        refine setL_i (by decide) (by simp) ?_
        (repeat (first | (simp only [h0, h1, exA, mFrzT, mFrz, mFrzV, mSortItems, mUn, mVar, mC, mBin, mNil, mCons, mCB, mTest, mAnd, mOr, mNot, mIf, mAndV, mOrV, mNotV, mTup, mLst, mChain, mCall, mCallK, reord, mYes, sNext, sSeq, sDrop, sRet, sRetN, sIf, sNever, sBreak, sCont, sAsg, sPar, sAug, sStore, gSet, gsNil, gsCons, gTupW, qI2, qI, qNeg, qAbs, qStrI, iLst, iStr, iRgn, iRg2, iEnu, iTpl, mDT, mBM, mBM0, mSl, oNone, oSome, sMatch, mGo, mDNew, mPairs, EndsD, EndsW.turn, win, forall_const, W.ls.injEq, Int.zero_add, List.filterMap_cons, List.filterMap_nil, List.cons_append, List.nil_append, List.length_cons, List.length_nil, List.all_cons, List.all_nil, List.any_cons, List.any_nil, List.getElem?_cons_zero, List.getElem?_cons_succ, List.getElem?_nil, List.set_cons_zero, List.set_cons_succ, reduceIte, reduceCtorEq, Nat.reduceEqDiff, Nat.reduceAdd, Nat.reduceSub, Nat.reduceMul, Nat.reduceLeDiff, Int.reduceToNat, Int.cast_ofNat_Int, Int.natCast_zero, Int.natCast_one, Int.reduceLE, Int.reduceLT, Int.reduceNeg, Int.reduceAdd, Int.reduceSub, Int.reducePow, Int.reduceEq, Int.reduceNe, Int.toNat_zero, Int.toNat_one, Int.ofNat_eq_natCast, Nat.reducePow, Nat.le_refl, ge_iff_le, gt_iff_lt, List.mem_cons, List.not_mem_nil, or_false, false_or, or_true, true_or, Option.some.injEq, exists_eq_left', exists_eq_left, exists_eq', exists_eq, exists_and_left, exists_and_right, and_assoc, true_and, and_true, false_and, and_false, exists_false, exists_const, not_true_eq_false, not_false_eq_true, W.int.injEq, W.bl.injEq, W.str.injEq, W.ref.injEq, W.tup.injEq, List.cons.injEq, Bool.true_eq_false, Bool.false_eq_true, decide_eq_true_eq, decide_eq_false_iff_not, Bool.not_eq_true', Bool.not_eq_false', Bool.not_true, Bool.not_false, true_implies, false_implies, implies_true, imp_self, decide_true, decide_false, Bool.and_true, Bool.true_and, Bool.and_false, Bool.false_and, Bool.or_false, Bool.or_true, Bool.false_or, Bool.true_or, beq_self_eq_true, eq_self_iff_true, ne_eq, Int.not_lt, Int.not_le, Nat.not_lt, Nat.not_le, BEq.rfl]) | (with_reducible refine ⟨_, (by first | exact lsAt_i | assumption), ?_⟩) | (with_reducible refine ⟨mty_l, ?_⟩) | (with_reducible refine frz_i ?_) | (with_reducible refine dget_ik ?_) | (with_reducible refine dget_id ?_) | (with_reducible refine ⟨isD_i, ?_⟩) | (with_reducible refine dput_ik (by first | assumption | omega) ?_) | (with_reducible refine ⟨mty_s, ?_⟩) | (with_reducible refine ⟨mty_t, ?_⟩) | (with_reducible refine ⟨_, ty_l (by first | exact lsAt_i | assumption), ?_⟩)))
        exact ⟨(q, .lst [.ref p, .int d, .int mix, .int cnt]) :: (p, .lst (digs.map W.int)) :: Ds, inferInstance, digs.length, Nat.lt_of_lt_of_le (Nat.lt_succ_self _) hl, ⟨p, digs, d, mix, cnt⟩, h0, h1, ⟨ok.c0, ok.c1, ok.m0, ok.m1⟩, Nat.le_refl _, rfl⟩
      · rw [eqB_ne (by simp)] at z
        cases z
/-! ### _law_same -/
abbrev sp__law_same : Nat → SpW := spSameV
theorem len__law_same : ∀ n ws Cs Q E, sp__law_same n ws Cs Q E → ws.length = 2 := lenSameV
theorem isi_v {x : W} {us : List W} {c : String} {b : Bool} {C : Cells} {Q : WK} (h : LsV x us C) (hb : kitB "list" c = some b) (q : Q (.bl b) C) : uIsi [x, .ty c] C Q := by
  cases x with
  | ref a => exact ⟨_, b, ty_l h, hb, q⟩
  | ls ws => exact ⟨_, b, rfl, hb, q⟩
  | _ => exact h.elim
/-- all parts show the same -/
theorem same_loop {n m : Nat} {us vs ts : List W} {x y : W} {Cs : Cells} {Q : WK} (hm : m = ts.length) (h1 : Vws Cs us ts) (h2 : Vws Cs vs ts) (hz : ts.length ≤ 90000) (hs : ∀ t, t ∈ ts → SzW n t)
    (ix : ∀ (c : Addr × MO) (i : Nat) (w : W) (R : WK), us[i]? = some w → R w (c :: Cs) → uIx x (.int i) (c :: Cs) R)
    (iy : ∀ (c : Addr × MO) (i : Nat) (w : W) (R : WK), vs[i]? = some w → R w (c :: Cs) → uIx y (.int i) (c :: Cs) R)
    (k : ∃ C', Part C' Cs ∧ Q (.bl true) C') :
    lcB (gSet 2) (mNot (mTest (mCall (cl (spSameV (n + 1))) (mCons (mBin uIx (mVar 0) (mVar 2)) (mCons (mBin uIx (mVar 1) (mVar 2)) mNil))))) (mVar 2) [2] (rho0 [x, y])
      (fun w C => frzQ w C fun x C1 => uEq x (W.ls []) C1 fun w C => ∃ C', Part C' C ∧ Q w C') { n := m, keep := fun _ => True, it := fun i w => w = W.int i } Cs := by
  subst hm
  refine lcL_i (fun _ => false) (fun i : Nat => .int (i : Nat)) items_r0 (by rw [List.length_range]; exact hz) ?_ fun D => ?_
  · intro D acc i KT KN hi _ kn
    have hi := List.mem_range.mp hi
    have e : ts[i]? = some ts[i] := List.getElem?_eq_getElem hi
    obtain ⟨w, e1, v1⟩ := h1.at e
    obtain ⟨u, e2, v2⟩ := h2.at e
    (repeat (first | (simp only [exA, mFrzT, mFrz, mFrzV, mSortItems, mUn, mVar, mC, mBin, mNil, mCons, mCB, mTest, mAnd, mOr, mNot, mIf, mAndV, mOrV, mNotV, mTup, mLst, mChain, mCall, mCallK, reord, mYes, sNext, sSeq, sDrop, sRet, sRetN, sIf, sNever, sBreak, sCont, sAsg, sPar, sAug, sStore, gSet, gsNil, gsCons, gTupW, qI2, qI, qNeg, qAbs, qStrI, iLst, iStr, iRgn, iRg2, iEnu, iTpl, mDT, mBM, mBM0, mSl, oNone, oSome, sMatch, mGo, mDNew, mPairs, EndsD, EndsW.turn, win, forall_const, W.ls.injEq, Int.zero_add, List.filterMap_cons, List.filterMap_nil, List.cons_append, List.nil_append, List.length_cons, List.length_nil, List.all_cons, List.all_nil, List.any_cons, List.any_nil, List.getElem?_cons_zero, List.getElem?_cons_succ, List.getElem?_nil, List.set_cons_zero, List.set_cons_succ, reduceIte, reduceCtorEq, Nat.reduceEqDiff, Nat.reduceAdd, Nat.reduceSub, Nat.reduceMul, Nat.reduceLeDiff, Int.reduceToNat, Int.cast_ofNat_Int, Int.natCast_zero, Int.natCast_one, Int.reduceLE, Int.reduceLT, Int.reduceNeg, Int.reduceAdd, Int.reduceSub, Int.reducePow, Int.reduceEq, Int.reduceNe, Int.toNat_zero, Int.toNat_one, Int.ofNat_eq_natCast, Nat.reducePow, Nat.le_refl, ge_iff_le, gt_iff_lt, List.mem_cons, List.not_mem_nil, or_false, false_or, or_true, true_or, Option.some.injEq, exists_eq_left', exists_eq_left, exists_eq', exists_eq, exists_and_left, exists_and_right, and_assoc, true_and, and_true, false_and, and_false, exists_false, exists_const, not_true_eq_false, not_false_eq_true, W.int.injEq, W.bl.injEq, W.str.injEq, W.ref.injEq, W.tup.injEq, List.cons.injEq, Bool.true_eq_false, Bool.false_eq_true, decide_eq_true_eq, decide_eq_false_iff_not, Bool.not_eq_true', Bool.not_eq_false', Bool.not_true, Bool.not_false, true_implies, false_implies, implies_true, imp_self, decide_true, decide_false, Bool.and_true, Bool.true_and, Bool.and_false, Bool.false_and, Bool.or_false, Bool.or_true, Bool.false_or, Bool.true_or, beq_self_eq_true, eq_self_iff_true, ne_eq, Int.not_lt, Int.not_le, Nat.not_lt, Nat.not_le, BEq.rfl]) | (with_reducible refine ⟨_, (by first | exact lsAt_i | assumption), ?_⟩) | (with_reducible refine ⟨mty_l, ?_⟩) | (with_reducible refine frz_i ?_) | (with_reducible refine dget_ik ?_) | (with_reducible refine dget_id ?_) | (with_reducible refine ⟨isD_i, ?_⟩) | (with_reducible refine dput_ik (by first | assumption | omega) ?_) | (with_reducible refine ⟨mty_s, ?_⟩) | (with_reducible refine ⟨mty_t, ?_⟩) | (with_reducible refine ⟨_, ty_l (by first | exact lsAt_i | assumption), ?_⟩)))
    refine ix _ i w _ e1 (iy _ i u _ e2 (same_c v1.skip v2.skip (hs _ (List.getElem_mem _)) ?_))
    (repeat (first | (simp only [exA, mFrzT, mFrz, mFrzV, mSortItems, mUn, mVar, mC, mBin, mNil, mCons, mCB, mTest, mAnd, mOr, mNot, mIf, mAndV, mOrV, mNotV, mTup, mLst, mChain, mCall, mCallK, reord, mYes, sNext, sSeq, sDrop, sRet, sRetN, sIf, sNever, sBreak, sCont, sAsg, sPar, sAug, sStore, gSet, gsNil, gsCons, gTupW, qI2, qI, qNeg, qAbs, qStrI, iLst, iStr, iRgn, iRg2, iEnu, iTpl, mDT, mBM, mBM0, mSl, oNone, oSome, sMatch, mGo, mDNew, mPairs, EndsD, EndsW.turn, win, forall_const, W.ls.injEq, Int.zero_add, List.filterMap_cons, List.filterMap_nil, List.cons_append, List.nil_append, List.length_cons, List.length_nil, List.all_cons, List.all_nil, List.any_cons, List.any_nil, List.getElem?_cons_zero, List.getElem?_cons_succ, List.getElem?_nil, List.set_cons_zero, List.set_cons_succ, reduceIte, reduceCtorEq, Nat.reduceEqDiff, Nat.reduceAdd, Nat.reduceSub, Nat.reduceMul, Nat.reduceLeDiff, Int.reduceToNat, Int.cast_ofNat_Int, Int.natCast_zero, Int.natCast_one, Int.reduceLE, Int.reduceLT, Int.reduceNeg, Int.reduceAdd, Int.reduceSub, Int.reducePow, Int.reduceEq, Int.reduceNe, Int.toNat_zero, Int.toNat_one, Int.ofNat_eq_natCast, Nat.reducePow, Nat.le_refl, ge_iff_le, gt_iff_lt, List.mem_cons, List.not_mem_nil, or_false, false_or, or_true, true_or, Option.some.injEq, exists_eq_left', exists_eq_left, exists_eq', exists_eq, exists_and_left, exists_and_right, and_assoc, true_and, and_true, false_and, and_false, exists_false, exists_const, not_true_eq_false, not_false_eq_true, W.int.injEq, W.bl.injEq, W.str.injEq, W.ref.injEq, W.tup.injEq, List.cons.injEq, Bool.true_eq_false, Bool.false_eq_true, decide_eq_true_eq, decide_eq_false_iff_not, Bool.not_eq_true', Bool.not_eq_false', Bool.not_true, Bool.not_false, true_implies, false_implies, implies_true, imp_self, decide_true, decide_false, Bool.and_true, Bool.true_and, Bool.and_false, Bool.false_and, Bool.or_false, Bool.or_true, Bool.false_or, Bool.true_or, beq_self_eq_true, eq_self_iff_true, ne_eq, Int.not_lt, Int.not_le, Nat.not_lt, Nat.not_le, BEq.rfl]) | (with_reducible refine ⟨_, (by first | exact lsAt_i | assumption), ?_⟩) | (with_reducible refine ⟨mty_l, ?_⟩) | (with_reducible refine frz_i ?_) | (with_reducible refine dget_ik ?_) | (with_reducible refine dget_id ?_) | (with_reducible refine ⟨isD_i, ?_⟩) | (with_reducible refine dput_ik (by first | assumption | omega) ?_) | (with_reducible refine ⟨mty_s, ?_⟩) | (with_reducible refine ⟨mty_t, ?_⟩) | (with_reducible refine ⟨_, ty_l (by first | exact lsAt_i | assumption), ?_⟩)))
    exact kn rfl
  · rw [List.filter_eq_nil_iff.mpr (by simp)]
    (repeat (first | (simp only [List.map_nil, exA, mFrzT, mFrz, mFrzV, mSortItems, mUn, mVar, mC, mBin, mNil, mCons, mCB, mTest, mAnd, mOr, mNot, mIf, mAndV, mOrV, mNotV, mTup, mLst, mChain, mCall, mCallK, reord, mYes, sNext, sSeq, sDrop, sRet, sRetN, sIf, sNever, sBreak, sCont, sAsg, sPar, sAug, sStore, gSet, gsNil, gsCons, gTupW, qI2, qI, qNeg, qAbs, qStrI, iLst, iStr, iRgn, iRg2, iEnu, iTpl, mDT, mBM, mBM0, mSl, oNone, oSome, sMatch, mGo, mDNew, mPairs, EndsD, EndsW.turn, win, forall_const, W.ls.injEq, Int.zero_add, List.filterMap_cons, List.filterMap_nil, List.cons_append, List.nil_append, List.length_cons, List.length_nil, List.all_cons, List.all_nil, List.any_cons, List.any_nil, List.getElem?_cons_zero, List.getElem?_cons_succ, List.getElem?_nil, List.set_cons_zero, List.set_cons_succ, reduceIte, reduceCtorEq, Nat.reduceEqDiff, Nat.reduceAdd, Nat.reduceSub, Nat.reduceMul, Nat.reduceLeDiff, Int.reduceToNat, Int.cast_ofNat_Int, Int.natCast_zero, Int.natCast_one, Int.reduceLE, Int.reduceLT, Int.reduceNeg, Int.reduceAdd, Int.reduceSub, Int.reducePow, Int.reduceEq, Int.reduceNe, Int.toNat_zero, Int.toNat_one, Int.ofNat_eq_natCast, Nat.reducePow, Nat.le_refl, ge_iff_le, gt_iff_lt, List.mem_cons, List.not_mem_nil, or_false, false_or, or_true, true_or, Option.some.injEq, exists_eq_left', exists_eq_left, exists_eq', exists_eq, exists_and_left, exists_and_right, and_assoc, true_and, and_true, false_and, and_false, exists_false, exists_const, not_true_eq_false, not_false_eq_true, W.int.injEq, W.bl.injEq, W.str.injEq, W.ref.injEq, W.tup.injEq, List.cons.injEq, Bool.true_eq_false, Bool.false_eq_true, decide_eq_true_eq, decide_eq_false_iff_not, Bool.not_eq_true', Bool.not_eq_false', Bool.not_true, Bool.not_false, true_implies, false_implies, implies_true, imp_self, decide_true, decide_false, Bool.and_true, Bool.true_and, Bool.and_false, Bool.false_and, Bool.or_false, Bool.or_true, Bool.false_or, Bool.true_or, beq_self_eq_true, eq_self_iff_true, ne_eq, Int.not_lt, Int.not_le, Nat.not_lt, Nat.not_le, BEq.rfl]) | (with_reducible refine ⟨_, (by first | exact lsAt_i | assumption), ?_⟩) | (with_reducible refine ⟨mty_l, ?_⟩) | (with_reducible refine frz_i ?_) | (with_reducible refine dget_ik ?_) | (with_reducible refine dget_id ?_) | (with_reducible refine ⟨isD_i, ?_⟩) | (with_reducible refine dput_ik (by first | assumption | omega) ?_) | (with_reducible refine ⟨mty_s, ?_⟩) | (with_reducible refine ⟨mty_t, ?_⟩) | (with_reducible refine ⟨_, ty_l (by first | exact lsAt_i | assumption), ?_⟩)))
    exact eqW_i true dk_e dk_e (by rw [eqB_self]; exact k)
def b__law_same (self : SpW) : MS := sSeq (sIf (mTest (mBin qIsN (mVar 1) (mC .non))) (sRet (mBin qIsN (mVar 0) (mC .non))) (sNext)) (sSeq (sIf (mTest (mCB uIsi (mCons (mVar 1) (mCons (mC (.ty "bool")) (mNil))))) (sRet (mAndV (mCB uIsi (mCons (mVar 0) (mCons (mC (.ty "bool")) (mNil)))) (mBin uEq (mVar 0) (mVar 1)))) (sNext)) (sSeq (sIf (mTest (mCB uIsi (mCons (mVar 1) (mCons (mC (.ty "int")) (mNil))))) (sRet (mAndV (mCB uIsi (mCons (mVar 0) (mCons (mC (.ty "int")) (mNil)))) (mAndV (mNotV (mCB uIsi (mCons (mVar 0) (mCons (mC (.ty "bool")) (mNil))))) (mBin uEq (mVar 0) (mVar 1))))) (sNext)) (sSeq (sIf (mTest (mCB uIsi (mCons (mVar 1) (mCons (mC (.ty "str")) (mNil))))) (sRet (mAndV (mCB uIsi (mCons (mVar 0) (mCons (mC (.ty "str")) (mNil)))) (mBin uEq (mVar 0) (mVar 1)))) (sNext)) (sSeq (sIf (mTest (mBin uNe (mCB uIsi (mCons (mVar 0) (mCons (mC (.ty "list")) (mNil)))) (mCB uIsi (mCons (mVar 1) (mCons (mC (.ty "list")) (mNil)))))) (sRet (mC (.bl false))) (sNext)) (sSeq (sIf (mOr (mTest (mBin uNe (mCB uIsi (mCons (mVar 0) (mCons (mC (.ty "tuple")) (mNil)))) (mCB uIsi (mCons (mVar 1) (mCons (mC (.ty "tuple")) (mNil)))))) (mTest (mBin uNe (mCB uLen (mCons (mVar 0) (mNil))) (mCB uLen (mCons (mVar 1) (mNil)))))) (sRet (mC (.bl false))) (sNext)) (sRet (mBin uEq (mFrz (mLc (iRgn (mCons (mCB uLen (mCons (mVar 1) (mNil))) (mNil))) (gSet 2) (mNot (mTest (mCall self (mCons (mBin uIx (mVar 0) (mVar 2)) (mCons (mBin uIx (mVar 1) (mVar 2)) (mNil)))))) (mVar 2) [2])) (mFrz (mLst (mNil))))))))))
theorem pure__law_same (n : Nat) : ∀ ws Cs Q E, sp__law_same (n + 1) ws Cs Q E → b__law_same (cl (sp__law_same n)) (EndsD Q E) (rho0 ws) Cs := by
  rintro ws Cs Q E ⟨x, y, rfl, t, hx, hy, hs, k⟩
  have done : ∃ C', Part C' Cs ∧ Q (.bl true) C' := ⟨Cs, .here, k⟩
  have two : ∀ (us vs ts : List W), LsV x us Cs → LsV y vs Cs → Vws Cs us ts → Vws Cs vs ts → t = .ls ts → b__law_same (cl (sp__law_same n)) (EndsD Q E) (rho0 [x, y]) Cs := by
    rintro us vs ts lx ly h1 h2 rfl
    obtain ⟨m, rfl⟩ : ∃ m, n = m + 1 := by
      cases n with
      | zero => simp [SzW] at hs
      | succ m => exact ⟨m, rfl⟩
    have hs2 := SzW.ls.mp hs
    unfold b__law_same
    have ny : isNon y = false := by cases y <;> first | rfl | exact ly.elim
    (repeat (first | (simp only [ny, exA, mFrzT, mFrz, mFrzV, mSortItems, mUn, mVar, mC, mBin, mNil, mCons, mCB, mTest, mAnd, mOr, mNot, mIf, mAndV, mOrV, mNotV, mTup, mLst, mChain, mCall, mCallK, reord, mYes, sNext, sSeq, sDrop, sRet, sRetN, sIf, sNever, sBreak, sCont, sAsg, sPar, sAug, sStore, gSet, gsNil, gsCons, gTupW, qI2, qI, qNeg, qAbs, qStrI, iLst, iStr, iRgn, iRg2, iEnu, iTpl, mDT, mBM, mBM0, mSl, oNone, oSome, sMatch, mGo, mDNew, mPairs, EndsD, EndsW.turn, win, forall_const, W.ls.injEq, Int.zero_add, List.filterMap_cons, List.filterMap_nil, List.cons_append, List.nil_append, List.length_cons, List.length_nil, List.all_cons, List.all_nil, List.any_cons, List.any_nil, List.getElem?_cons_zero, List.getElem?_cons_succ, List.getElem?_nil, List.set_cons_zero, List.set_cons_succ, reduceIte, reduceCtorEq, Nat.reduceEqDiff, Nat.reduceAdd, Nat.reduceSub, Nat.reduceMul, Nat.reduceLeDiff, Int.reduceToNat, Int.cast_ofNat_Int, Int.natCast_zero, Int.natCast_one, Int.reduceLE, Int.reduceLT, Int.reduceNeg, Int.reduceAdd, Int.reduceSub, Int.reducePow, Int.reduceEq, Int.reduceNe, Int.toNat_zero, Int.toNat_one, Int.ofNat_eq_natCast, Nat.reducePow, Nat.le_refl, ge_iff_le, gt_iff_lt, List.mem_cons, List.not_mem_nil, or_false, false_or, or_true, true_or, Option.some.injEq, exists_eq_left', exists_eq_left, exists_eq', exists_eq, exists_and_left, exists_and_right, and_assoc, true_and, and_true, false_and, and_false, exists_false, exists_const, not_true_eq_false, not_false_eq_true, W.int.injEq, W.bl.injEq, W.str.injEq, W.ref.injEq, W.tup.injEq, List.cons.injEq, Bool.true_eq_false, Bool.false_eq_true, decide_eq_true_eq, decide_eq_false_iff_not, Bool.not_eq_true', Bool.not_eq_false', Bool.not_true, Bool.not_false, true_implies, false_implies, implies_true, imp_self, decide_true, decide_false, Bool.and_true, Bool.true_and, Bool.and_false, Bool.false_and, Bool.or_false, Bool.or_true, Bool.false_or, Bool.true_or, beq_self_eq_true, eq_self_iff_true, ne_eq, Int.not_lt, Int.not_le, Nat.not_lt, Nat.not_le, BEq.rfl]) | (with_reducible refine ⟨_, (by first | exact lsAt_i | assumption), ?_⟩) | (with_reducible refine ⟨mty_l, ?_⟩) | (with_reducible refine frz_i ?_) | (with_reducible refine dget_ik ?_) | (with_reducible refine dget_id ?_) | (with_reducible refine ⟨isD_i, ?_⟩) | (with_reducible refine dput_ik (by first | assumption | omega) ?_) | (with_reducible refine ⟨mty_s, ?_⟩) | (with_reducible refine ⟨mty_t, ?_⟩) | (with_reducible refine ⟨_, ty_l (by first | exact lsAt_i | assumption), ?_⟩)))
    refine isi_v ly (b := false) (by decide +kernel) ?_
    (repeat (first | (simp only [exA, mFrzT, mFrz, mFrzV, mSortItems, mUn, mVar, mC, mBin, mNil, mCons, mCB, mTest, mAnd, mOr, mNot, mIf, mAndV, mOrV, mNotV, mTup, mLst, mChain, mCall, mCallK, reord, mYes, sNext, sSeq, sDrop, sRet, sRetN, sIf, sNever, sBreak, sCont, sAsg, sPar, sAug, sStore, gSet, gsNil, gsCons, gTupW, qI2, qI, qNeg, qAbs, qStrI, iLst, iStr, iRgn, iRg2, iEnu, iTpl, mDT, mBM, mBM0, mSl, oNone, oSome, sMatch, mGo, mDNew, mPairs, EndsD, EndsW.turn, win, forall_const, W.ls.injEq, Int.zero_add, List.filterMap_cons, List.filterMap_nil, List.cons_append, List.nil_append, List.length_cons, List.length_nil, List.all_cons, List.all_nil, List.any_cons, List.any_nil, List.getElem?_cons_zero, List.getElem?_cons_succ, List.getElem?_nil, List.set_cons_zero, List.set_cons_succ, reduceIte, reduceCtorEq, Nat.reduceEqDiff, Nat.reduceAdd, Nat.reduceSub, Nat.reduceMul, Nat.reduceLeDiff, Int.reduceToNat, Int.cast_ofNat_Int, Int.natCast_zero, Int.natCast_one, Int.reduceLE, Int.reduceLT, Int.reduceNeg, Int.reduceAdd, Int.reduceSub, Int.reducePow, Int.reduceEq, Int.reduceNe, Int.toNat_zero, Int.toNat_one, Int.ofNat_eq_natCast, Nat.reducePow, Nat.le_refl, ge_iff_le, gt_iff_lt, List.mem_cons, List.not_mem_nil, or_false, false_or, or_true, true_or, Option.some.injEq, exists_eq_left', exists_eq_left, exists_eq', exists_eq, exists_and_left, exists_and_right, and_assoc, true_and, and_true, false_and, and_false, exists_false, exists_const, not_true_eq_false, not_false_eq_true, W.int.injEq, W.bl.injEq, W.str.injEq, W.ref.injEq, W.tup.injEq, List.cons.injEq, Bool.true_eq_false, Bool.false_eq_true, decide_eq_true_eq, decide_eq_false_iff_not, Bool.not_eq_true', Bool.not_eq_false', Bool.not_true, Bool.not_false, true_implies, false_implies, implies_true, imp_self, decide_true, decide_false, Bool.and_true, Bool.true_and, Bool.and_false, Bool.false_and, Bool.or_false, Bool.or_true, Bool.false_or, Bool.true_or, beq_self_eq_true, eq_self_iff_true, ne_eq, Int.not_lt, Int.not_le, Nat.not_lt, Nat.not_le, BEq.rfl]) | (with_reducible refine ⟨_, (by first | exact lsAt_i | assumption), ?_⟩) | (with_reducible refine ⟨mty_l, ?_⟩) | (with_reducible refine frz_i ?_) | (with_reducible refine dget_ik ?_) | (with_reducible refine dget_id ?_) | (with_reducible refine ⟨isD_i, ?_⟩) | (with_reducible refine dput_ik (by first | assumption | omega) ?_) | (with_reducible refine ⟨mty_s, ?_⟩) | (with_reducible refine ⟨mty_t, ?_⟩) | (with_reducible refine ⟨_, ty_l (by first | exact lsAt_i | assumption), ?_⟩)))
    refine isi_v ly (b := false) (by decide +kernel) ?_
    (repeat (first | (simp only [exA, mFrzT, mFrz, mFrzV, mSortItems, mUn, mVar, mC, mBin, mNil, mCons, mCB, mTest, mAnd, mOr, mNot, mIf, mAndV, mOrV, mNotV, mTup, mLst, mChain, mCall, mCallK, reord, mYes, sNext, sSeq, sDrop, sRet, sRetN, sIf, sNever, sBreak, sCont, sAsg, sPar, sAug, sStore, gSet, gsNil, gsCons, gTupW, qI2, qI, qNeg, qAbs, qStrI, iLst, iStr, iRgn, iRg2, iEnu, iTpl, mDT, mBM, mBM0, mSl, oNone, oSome, sMatch, mGo, mDNew, mPairs, EndsD, EndsW.turn, win, forall_const, W.ls.injEq, Int.zero_add, List.filterMap_cons, List.filterMap_nil, List.cons_append, List.nil_append, List.length_cons, List.length_nil, List.all_cons, List.all_nil, List.any_cons, List.any_nil, List.getElem?_cons_zero, List.getElem?_cons_succ, List.getElem?_nil, List.set_cons_zero, List.set_cons_succ, reduceIte, reduceCtorEq, Nat.reduceEqDiff, Nat.reduceAdd, Nat.reduceSub, Nat.reduceMul, Nat.reduceLeDiff, Int.reduceToNat, Int.cast_ofNat_Int, Int.natCast_zero, Int.natCast_one, Int.reduceLE, Int.reduceLT, Int.reduceNeg, Int.reduceAdd, Int.reduceSub, Int.reducePow, Int.reduceEq, Int.reduceNe, Int.toNat_zero, Int.toNat_one, Int.ofNat_eq_natCast, Nat.reducePow, Nat.le_refl, ge_iff_le, gt_iff_lt, List.mem_cons, List.not_mem_nil, or_false, false_or, or_true, true_or, Option.some.injEq, exists_eq_left', exists_eq_left, exists_eq', exists_eq, exists_and_left, exists_and_right, and_assoc, true_and, and_true, false_and, and_false, exists_false, exists_const, not_true_eq_false, not_false_eq_true, W.int.injEq, W.bl.injEq, W.str.injEq, W.ref.injEq, W.tup.injEq, List.cons.injEq, Bool.true_eq_false, Bool.false_eq_true, decide_eq_true_eq, decide_eq_false_iff_not, Bool.not_eq_true', Bool.not_eq_false', Bool.not_true, Bool.not_false, true_implies, false_implies, implies_true, imp_self, decide_true, decide_false, Bool.and_true, Bool.true_and, Bool.and_false, Bool.false_and, Bool.or_false, Bool.or_true, Bool.false_or, Bool.true_or, beq_self_eq_true, eq_self_iff_true, ne_eq, Int.not_lt, Int.not_le, Nat.not_lt, Nat.not_le, BEq.rfl]) | (with_reducible refine ⟨_, (by first | exact lsAt_i | assumption), ?_⟩) | (with_reducible refine ⟨mty_l, ?_⟩) | (with_reducible refine frz_i ?_) | (with_reducible refine dget_ik ?_) | (with_reducible refine dget_id ?_) | (with_reducible refine ⟨isD_i, ?_⟩) | (with_reducible refine dput_ik (by first | assumption | omega) ?_) | (with_reducible refine ⟨mty_s, ?_⟩) | (with_reducible refine ⟨mty_t, ?_⟩) | (with_reducible refine ⟨_, ty_l (by first | exact lsAt_i | assumption), ?_⟩)))
    refine isi_v ly (b := false) (by decide +kernel) ?_
    (repeat (first | (simp only [exA, mFrzT, mFrz, mFrzV, mSortItems, mUn, mVar, mC, mBin, mNil, mCons, mCB, mTest, mAnd, mOr, mNot, mIf, mAndV, mOrV, mNotV, mTup, mLst, mChain, mCall, mCallK, reord, mYes, sNext, sSeq, sDrop, sRet, sRetN, sIf, sNever, sBreak, sCont, sAsg, sPar, sAug, sStore, gSet, gsNil, gsCons, gTupW, qI2, qI, qNeg, qAbs, qStrI, iLst, iStr, iRgn, iRg2, iEnu, iTpl, mDT, mBM, mBM0, mSl, oNone, oSome, sMatch, mGo, mDNew, mPairs, EndsD, EndsW.turn, win, forall_const, W.ls.injEq, Int.zero_add, List.filterMap_cons, List.filterMap_nil, List.cons_append, List.nil_append, List.length_cons, List.length_nil, List.all_cons, List.all_nil, List.any_cons, List.any_nil, List.getElem?_cons_zero, List.getElem?_cons_succ, List.getElem?_nil, List.set_cons_zero, List.set_cons_succ, reduceIte, reduceCtorEq, Nat.reduceEqDiff, Nat.reduceAdd, Nat.reduceSub, Nat.reduceMul, Nat.reduceLeDiff, Int.reduceToNat, Int.cast_ofNat_Int, Int.natCast_zero, Int.natCast_one, Int.reduceLE, Int.reduceLT, Int.reduceNeg, Int.reduceAdd, Int.reduceSub, Int.reducePow, Int.reduceEq, Int.reduceNe, Int.toNat_zero, Int.toNat_one, Int.ofNat_eq_natCast, Nat.reducePow, Nat.le_refl, ge_iff_le, gt_iff_lt, List.mem_cons, List.not_mem_nil, or_false, false_or, or_true, true_or, Option.some.injEq, exists_eq_left', exists_eq_left, exists_eq', exists_eq, exists_and_left, exists_and_right, and_assoc, true_and, and_true, false_and, and_false, exists_false, exists_const, not_true_eq_false, not_false_eq_true, W.int.injEq, W.bl.injEq, W.str.injEq, W.ref.injEq, W.tup.injEq, List.cons.injEq, Bool.true_eq_false, Bool.false_eq_true, decide_eq_true_eq, decide_eq_false_iff_not, Bool.not_eq_true', Bool.not_eq_false', Bool.not_true, Bool.not_false, true_implies, false_implies, implies_true, imp_self, decide_true, decide_false, Bool.and_true, Bool.true_and, Bool.and_false, Bool.false_and, Bool.or_false, Bool.or_true, Bool.false_or, Bool.true_or, beq_self_eq_true, eq_self_iff_true, ne_eq, Int.not_lt, Int.not_le, Nat.not_lt, Nat.not_le, BEq.rfl]) | (with_reducible refine ⟨_, (by first | exact lsAt_i | assumption), ?_⟩) | (with_reducible refine ⟨mty_l, ?_⟩) | (with_reducible refine frz_i ?_) | (with_reducible refine dget_ik ?_) | (with_reducible refine dget_id ?_) | (with_reducible refine ⟨isD_i, ?_⟩) | (with_reducible refine dput_ik (by first | assumption | omega) ?_) | (with_reducible refine ⟨mty_s, ?_⟩) | (with_reducible refine ⟨mty_t, ?_⟩) | (with_reducible refine ⟨_, ty_l (by first | exact lsAt_i | assumption), ?_⟩)))
    refine isi_v lx (b := true) (by decide +kernel) (isi_v ly (b := true) (by decide +kernel) ?_)
    (repeat (first | (simp only [exA, mFrzT, mFrz, mFrzV, mSortItems, mUn, mVar, mC, mBin, mNil, mCons, mCB, mTest, mAnd, mOr, mNot, mIf, mAndV, mOrV, mNotV, mTup, mLst, mChain, mCall, mCallK, reord, mYes, sNext, sSeq, sDrop, sRet, sRetN, sIf, sNever, sBreak, sCont, sAsg, sPar, sAug, sStore, gSet, gsNil, gsCons, gTupW, qI2, qI, qNeg, qAbs, qStrI, iLst, iStr, iRgn, iRg2, iEnu, iTpl, mDT, mBM, mBM0, mSl, oNone, oSome, sMatch, mGo, mDNew, mPairs, EndsD, EndsW.turn, win, forall_const, W.ls.injEq, Int.zero_add, List.filterMap_cons, List.filterMap_nil, List.cons_append, List.nil_append, List.length_cons, List.length_nil, List.all_cons, List.all_nil, List.any_cons, List.any_nil, List.getElem?_cons_zero, List.getElem?_cons_succ, List.getElem?_nil, List.set_cons_zero, List.set_cons_succ, reduceIte, reduceCtorEq, Nat.reduceEqDiff, Nat.reduceAdd, Nat.reduceSub, Nat.reduceMul, Nat.reduceLeDiff, Int.reduceToNat, Int.cast_ofNat_Int, Int.natCast_zero, Int.natCast_one, Int.reduceLE, Int.reduceLT, Int.reduceNeg, Int.reduceAdd, Int.reduceSub, Int.reducePow, Int.reduceEq, Int.reduceNe, Int.toNat_zero, Int.toNat_one, Int.ofNat_eq_natCast, Nat.reducePow, Nat.le_refl, ge_iff_le, gt_iff_lt, List.mem_cons, List.not_mem_nil, or_false, false_or, or_true, true_or, Option.some.injEq, exists_eq_left', exists_eq_left, exists_eq', exists_eq, exists_and_left, exists_and_right, and_assoc, true_and, and_true, false_and, and_false, exists_false, exists_const, not_true_eq_false, not_false_eq_true, W.int.injEq, W.bl.injEq, W.str.injEq, W.ref.injEq, W.tup.injEq, List.cons.injEq, Bool.true_eq_false, Bool.false_eq_true, decide_eq_true_eq, decide_eq_false_iff_not, Bool.not_eq_true', Bool.not_eq_false', Bool.not_true, Bool.not_false, true_implies, false_implies, implies_true, imp_self, decide_true, decide_false, Bool.and_true, Bool.true_and, Bool.and_false, Bool.false_and, Bool.or_false, Bool.or_true, Bool.false_or, Bool.true_or, beq_self_eq_true, eq_self_iff_true, ne_eq, Int.not_lt, Int.not_le, Nat.not_lt, Nat.not_le, BEq.rfl]) | (with_reducible refine ⟨_, (by first | exact lsAt_i | assumption), ?_⟩) | (with_reducible refine ⟨mty_l, ?_⟩) | (with_reducible refine frz_i ?_) | (with_reducible refine dget_ik ?_) | (with_reducible refine dget_id ?_) | (with_reducible refine ⟨isD_i, ?_⟩) | (with_reducible refine dput_ik (by first | assumption | omega) ?_) | (with_reducible refine ⟨mty_s, ?_⟩) | (with_reducible refine ⟨mty_t, ?_⟩) | (with_reducible refine ⟨_, ty_l (by first | exact lsAt_i | assumption), ?_⟩)))
    refine isi_v lx (b := false) (by decide +kernel) (isi_v ly (b := false) (by decide +kernel) ?_)
    (repeat (first | (simp only [exA, mFrzT, mFrz, mFrzV, mSortItems, mUn, mVar, mC, mBin, mNil, mCons, mCB, mTest, mAnd, mOr, mNot, mIf, mAndV, mOrV, mNotV, mTup, mLst, mChain, mCall, mCallK, reord, mYes, sNext, sSeq, sDrop, sRet, sRetN, sIf, sNever, sBreak, sCont, sAsg, sPar, sAug, sStore, gSet, gsNil, gsCons, gTupW, qI2, qI, qNeg, qAbs, qStrI, iLst, iStr, iRgn, iRg2, iEnu, iTpl, mDT, mBM, mBM0, mSl, oNone, oSome, sMatch, mGo, mDNew, mPairs, EndsD, EndsW.turn, win, forall_const, W.ls.injEq, Int.zero_add, List.filterMap_cons, List.filterMap_nil, List.cons_append, List.nil_append, List.length_cons, List.length_nil, List.all_cons, List.all_nil, List.any_cons, List.any_nil, List.getElem?_cons_zero, List.getElem?_cons_succ, List.getElem?_nil, List.set_cons_zero, List.set_cons_succ, reduceIte, reduceCtorEq, Nat.reduceEqDiff, Nat.reduceAdd, Nat.reduceSub, Nat.reduceMul, Nat.reduceLeDiff, Int.reduceToNat, Int.cast_ofNat_Int, Int.natCast_zero, Int.natCast_one, Int.reduceLE, Int.reduceLT, Int.reduceNeg, Int.reduceAdd, Int.reduceSub, Int.reducePow, Int.reduceEq, Int.reduceNe, Int.toNat_zero, Int.toNat_one, Int.ofNat_eq_natCast, Nat.reducePow, Nat.le_refl, ge_iff_le, gt_iff_lt, List.mem_cons, List.not_mem_nil, or_false, false_or, or_true, true_or, Option.some.injEq, exists_eq_left', exists_eq_left, exists_eq', exists_eq, exists_and_left, exists_and_right, and_assoc, true_and, and_true, false_and, and_false, exists_false, exists_const, not_true_eq_false, not_false_eq_true, W.int.injEq, W.bl.injEq, W.str.injEq, W.ref.injEq, W.tup.injEq, List.cons.injEq, Bool.true_eq_false, Bool.false_eq_true, decide_eq_true_eq, decide_eq_false_iff_not, Bool.not_eq_true', Bool.not_eq_false', Bool.not_true, Bool.not_false, true_implies, false_implies, implies_true, imp_self, decide_true, decide_false, Bool.and_true, Bool.true_and, Bool.and_false, Bool.false_and, Bool.or_false, Bool.or_true, Bool.false_or, Bool.true_or, beq_self_eq_true, eq_self_iff_true, ne_eq, Int.not_lt, Int.not_le, Nat.not_lt, Nat.not_le, BEq.rfl]) | (with_reducible refine ⟨_, (by first | exact lsAt_i | assumption), ?_⟩) | (with_reducible refine ⟨mty_l, ?_⟩) | (with_reducible refine frz_i ?_) | (with_reducible refine dget_ik ?_) | (with_reducible refine dget_id ?_) | (with_reducible refine ⟨isD_i, ?_⟩) | (with_reducible refine dput_ik (by first | assumption | omega) ?_) | (with_reducible refine ⟨mty_s, ?_⟩) | (with_reducible refine ⟨mty_t, ?_⟩) | (with_reducible refine ⟨_, ty_l (by first | exact lsAt_i | assumption), ?_⟩)))
    refine uLen_v lx (uLen_v ly ?_)
    (repeat (first | (simp only [h1.len, h2.len, exA, mFrzT, mFrz, mFrzV, mSortItems, mUn, mVar, mC, mBin, mNil, mCons, mCB, mTest, mAnd, mOr, mNot, mIf, mAndV, mOrV, mNotV, mTup, mLst, mChain, mCall, mCallK, reord, mYes, sNext, sSeq, sDrop, sRet, sRetN, sIf, sNever, sBreak, sCont, sAsg, sPar, sAug, sStore, gSet, gsNil, gsCons, gTupW, qI2, qI, qNeg, qAbs, qStrI, iLst, iStr, iRgn, iRg2, iEnu, iTpl, mDT, mBM, mBM0, mSl, oNone, oSome, sMatch, mGo, mDNew, mPairs, EndsD, EndsW.turn, win, forall_const, W.ls.injEq, Int.zero_add, List.filterMap_cons, List.filterMap_nil, List.cons_append, List.nil_append, List.length_cons, List.length_nil, List.all_cons, List.all_nil, List.any_cons, List.any_nil, List.getElem?_cons_zero, List.getElem?_cons_succ, List.getElem?_nil, List.set_cons_zero, List.set_cons_succ, reduceIte, reduceCtorEq, Nat.reduceEqDiff, Nat.reduceAdd, Nat.reduceSub, Nat.reduceMul, Nat.reduceLeDiff, Int.reduceToNat, Int.cast_ofNat_Int, Int.natCast_zero, Int.natCast_one, Int.reduceLE, Int.reduceLT, Int.reduceNeg, Int.reduceAdd, Int.reduceSub, Int.reducePow, Int.reduceEq, Int.reduceNe, Int.toNat_zero, Int.toNat_one, Int.ofNat_eq_natCast, Nat.reducePow, Nat.le_refl, ge_iff_le, gt_iff_lt, List.mem_cons, List.not_mem_nil, or_false, false_or, or_true, true_or, Option.some.injEq, exists_eq_left', exists_eq_left, exists_eq', exists_eq, exists_and_left, exists_and_right, and_assoc, true_and, and_true, false_and, and_false, exists_false, exists_const, not_true_eq_false, not_false_eq_true, W.int.injEq, W.bl.injEq, W.str.injEq, W.ref.injEq, W.tup.injEq, List.cons.injEq, Bool.true_eq_false, Bool.false_eq_true, decide_eq_true_eq, decide_eq_false_iff_not, Bool.not_eq_true', Bool.not_eq_false', Bool.not_true, Bool.not_false, true_implies, false_implies, implies_true, imp_self, decide_true, decide_false, Bool.and_true, Bool.true_and, Bool.and_false, Bool.false_and, Bool.or_false, Bool.or_true, Bool.false_or, Bool.true_or, beq_self_eq_true, eq_self_iff_true, ne_eq, Int.not_lt, Int.not_le, Nat.not_lt, Nat.not_le, BEq.rfl]) | (with_reducible refine ⟨_, (by first | exact lsAt_i | assumption), ?_⟩) | (with_reducible refine ⟨mty_l, ?_⟩) | (with_reducible refine frz_i ?_) | (with_reducible refine dget_ik ?_) | (with_reducible refine dget_id ?_) | (with_reducible refine ⟨isD_i, ?_⟩) | (with_reducible refine dput_ik (by first | assumption | omega) ?_) | (with_reducible refine ⟨mty_s, ?_⟩) | (with_reducible refine ⟨mty_t, ?_⟩) | (with_reducible refine ⟨_, ty_l (by first | exact lsAt_i | assumption), ?_⟩)))
    refine uLen_v ly ?_
    (repeat (first | (simp only [h2.len, exA, mFrzT, mFrz, mFrzV, mSortItems, mUn, mVar, mC, mBin, mNil, mCons, mCB, mTest, mAnd, mOr, mNot, mIf, mAndV, mOrV, mNotV, mTup, mLst, mChain, mCall, mCallK, reord, mYes, sNext, sSeq, sDrop, sRet, sRetN, sIf, sNever, sBreak, sCont, sAsg, sPar, sAug, sStore, gSet, gsNil, gsCons, gTupW, qI2, qI, qNeg, qAbs, qStrI, iLst, iStr, iRgn, iRg2, iEnu, iTpl, mDT, mBM, mBM0, mSl, oNone, oSome, sMatch, mGo, mDNew, mPairs, EndsD, EndsW.turn, win, forall_const, W.ls.injEq, Int.zero_add, List.filterMap_cons, List.filterMap_nil, List.cons_append, List.nil_append, List.length_cons, List.length_nil, List.all_cons, List.all_nil, List.any_cons, List.any_nil, List.getElem?_cons_zero, List.getElem?_cons_succ, List.getElem?_nil, List.set_cons_zero, List.set_cons_succ, reduceIte, reduceCtorEq, Nat.reduceEqDiff, Nat.reduceAdd, Nat.reduceSub, Nat.reduceMul, Nat.reduceLeDiff, Int.reduceToNat, Int.cast_ofNat_Int, Int.natCast_zero, Int.natCast_one, Int.reduceLE, Int.reduceLT, Int.reduceNeg, Int.reduceAdd, Int.reduceSub, Int.reducePow, Int.reduceEq, Int.reduceNe, Int.toNat_zero, Int.toNat_one, Int.ofNat_eq_natCast, Nat.reducePow, Nat.le_refl, ge_iff_le, gt_iff_lt, List.mem_cons, List.not_mem_nil, or_false, false_or, or_true, true_or, Option.some.injEq, exists_eq_left', exists_eq_left, exists_eq', exists_eq, exists_and_left, exists_and_right, and_assoc, true_and, and_true, false_and, and_false, exists_false, exists_const, not_true_eq_false, not_false_eq_true, W.int.injEq, W.bl.injEq, W.str.injEq, W.ref.injEq, W.tup.injEq, List.cons.injEq, Bool.true_eq_false, Bool.false_eq_true, decide_eq_true_eq, decide_eq_false_iff_not, Bool.not_eq_true', Bool.not_eq_false', Bool.not_true, Bool.not_false, true_implies, false_implies, implies_true, imp_self, decide_true, decide_false, Bool.and_true, Bool.true_and, Bool.and_false, Bool.false_and, Bool.or_false, Bool.or_true, Bool.false_or, Bool.true_or, beq_self_eq_true, eq_self_iff_true, ne_eq, Int.not_lt, Int.not_le, Nat.not_lt, Nat.not_le, BEq.rfl]) | (with_reducible refine ⟨_, (by first | exact lsAt_i | assumption), ?_⟩) | (with_reducible refine ⟨mty_l, ?_⟩) | (with_reducible refine frz_i ?_) | (with_reducible refine dget_ik ?_) | (with_reducible refine dget_id ?_) | (with_reducible refine ⟨isD_i, ?_⟩) | (with_reducible refine dput_ik (by first | assumption | omega) ?_) | (with_reducible refine ⟨mty_s, ?_⟩) | (with_reducible refine ⟨mty_t, ?_⟩) | (with_reducible refine ⟨_, ty_l (by first | exact lsAt_i | assumption), ?_⟩)))
    exact ⟨by omega, by have := hs2.1; omega, same_loop (by simp) h1 h2 hs2.1 hs2.2 (fun c i w R e r => uIx_v lx.skip (by rw [nth_get]; exact e) r) (fun c i w R e r => uIx_v ly.skip (by rw [nth_get]; exact e) r) done⟩
  cases hy with
  | @ref a vs ts l hd =>
    obtain ⟨us, lx, h1⟩ := hx.lv
    exact two us vs ts lx l h1 hd rfl
  | flat f =>
    cases y with
    | ls ts =>
      obtain ⟨us, lx, h1⟩ := hx.lv
      exact two us ts ts lx rfl h1 (.flat (by rw [noref.eq_def] at f; exact f)) rfl
    | non =>
      cases hx
      unfold b__law_same
      (repeat (first | (simp only [isNon, exA, mFrzT, mFrz, mFrzV, mSortItems, mUn, mVar, mC, mBin, mNil, mCons, mCB, mTest, mAnd, mOr, mNot, mIf, mAndV, mOrV, mNotV, mTup, mLst, mChain, mCall, mCallK, reord, mYes, sNext, sSeq, sDrop, sRet, sRetN, sIf, sNever, sBreak, sCont, sAsg, sPar, sAug, sStore, gSet, gsNil, gsCons, gTupW, qI2, qI, qNeg, qAbs, qStrI, iLst, iStr, iRgn, iRg2, iEnu, iTpl, mDT, mBM, mBM0, mSl, oNone, oSome, sMatch, mGo, mDNew, mPairs, EndsD, EndsW.turn, win, forall_const, W.ls.injEq, Int.zero_add, List.filterMap_cons, List.filterMap_nil, List.cons_append, List.nil_append, List.length_cons, List.length_nil, List.all_cons, List.all_nil, List.any_cons, List.any_nil, List.getElem?_cons_zero, List.getElem?_cons_succ, List.getElem?_nil, List.set_cons_zero, List.set_cons_succ, reduceIte, reduceCtorEq, Nat.reduceEqDiff, Nat.reduceAdd, Nat.reduceSub, Nat.reduceMul, Nat.reduceLeDiff, Int.reduceToNat, Int.cast_ofNat_Int, Int.natCast_zero, Int.natCast_one, Int.reduceLE, Int.reduceLT, Int.reduceNeg, Int.reduceAdd, Int.reduceSub, Int.reducePow, Int.reduceEq, Int.reduceNe, Int.toNat_zero, Int.toNat_one, Int.ofNat_eq_natCast, Nat.reducePow, Nat.le_refl, ge_iff_le, gt_iff_lt, List.mem_cons, List.not_mem_nil, or_false, false_or, or_true, true_or, Option.some.injEq, exists_eq_left', exists_eq_left, exists_eq', exists_eq, exists_and_left, exists_and_right, and_assoc, true_and, and_true, false_and, and_false, exists_false, exists_const, not_true_eq_false, not_false_eq_true, W.int.injEq, W.bl.injEq, W.str.injEq, W.ref.injEq, W.tup.injEq, List.cons.injEq, Bool.true_eq_false, Bool.false_eq_true, decide_eq_true_eq, decide_eq_false_iff_not, Bool.not_eq_true', Bool.not_eq_false', Bool.not_true, Bool.not_false, true_implies, false_implies, implies_true, imp_self, decide_true, decide_false, Bool.and_true, Bool.true_and, Bool.and_false, Bool.false_and, Bool.or_false, Bool.or_true, Bool.false_or, Bool.true_or, beq_self_eq_true, eq_self_iff_true, ne_eq, Int.not_lt, Int.not_le, Nat.not_lt, Nat.not_le, BEq.rfl]) | (with_reducible refine ⟨_, (by first | exact lsAt_i | assumption), ?_⟩) | (with_reducible refine ⟨mty_l, ?_⟩) | (with_reducible refine frz_i ?_) | (with_reducible refine dget_ik ?_) | (with_reducible refine dget_id ?_) | (with_reducible refine ⟨isD_i, ?_⟩) | (with_reducible refine dput_ik (by first | assumption | omega) ?_) | (with_reducible refine ⟨mty_s, ?_⟩) | (with_reducible refine ⟨mty_t, ?_⟩) | (with_reducible refine ⟨_, ty_l (by first | exact lsAt_i | assumption), ?_⟩)))
      exact done
    | bl b =>
      cases hx
      unfold b__law_same
      (repeat (first | (simp only [exA, mFrzT, mFrz, mFrzV, mSortItems, mUn, mVar, mC, mBin, mNil, mCons, mCB, mTest, mAnd, mOr, mNot, mIf, mAndV, mOrV, mNotV, mTup, mLst, mChain, mCall, mCallK, reord, mYes, sNext, sSeq, sDrop, sRet, sRetN, sIf, sNever, sBreak, sCont, sAsg, sPar, sAug, sStore, gSet, gsNil, gsCons, gTupW, qI2, qI, qNeg, qAbs, qStrI, iLst, iStr, iRgn, iRg2, iEnu, iTpl, mDT, mBM, mBM0, mSl, oNone, oSome, sMatch, mGo, mDNew, mPairs, EndsD, EndsW.turn, win, forall_const, W.ls.injEq, Int.zero_add, List.filterMap_cons, List.filterMap_nil, List.cons_append, List.nil_append, List.length_cons, List.length_nil, List.all_cons, List.all_nil, List.any_cons, List.any_nil, List.getElem?_cons_zero, List.getElem?_cons_succ, List.getElem?_nil, List.set_cons_zero, List.set_cons_succ, reduceIte, reduceCtorEq, Nat.reduceEqDiff, Nat.reduceAdd, Nat.reduceSub, Nat.reduceMul, Nat.reduceLeDiff, Int.reduceToNat, Int.cast_ofNat_Int, Int.natCast_zero, Int.natCast_one, Int.reduceLE, Int.reduceLT, Int.reduceNeg, Int.reduceAdd, Int.reduceSub, Int.reducePow, Int.reduceEq, Int.reduceNe, Int.toNat_zero, Int.toNat_one, Int.ofNat_eq_natCast, Nat.reducePow, Nat.le_refl, ge_iff_le, gt_iff_lt, List.mem_cons, List.not_mem_nil, or_false, false_or, or_true, true_or, Option.some.injEq, exists_eq_left', exists_eq_left, exists_eq', exists_eq, exists_and_left, exists_and_right, and_assoc, true_and, and_true, false_and, and_false, exists_false, exists_const, not_true_eq_false, not_false_eq_true, W.int.injEq, W.bl.injEq, W.str.injEq, W.ref.injEq, W.tup.injEq, List.cons.injEq, Bool.true_eq_false, Bool.false_eq_true, decide_eq_true_eq, decide_eq_false_iff_not, Bool.not_eq_true', Bool.not_eq_false', Bool.not_true, Bool.not_false, true_implies, false_implies, implies_true, imp_self, decide_true, decide_false, Bool.and_true, Bool.true_and, Bool.and_false, Bool.false_and, Bool.or_false, Bool.or_true, Bool.false_or, Bool.true_or, beq_self_eq_true, eq_self_iff_true, ne_eq, Int.not_lt, Int.not_le, Nat.not_lt, Nat.not_le, BEq.rfl]) | (with_reducible refine ⟨_, (by first | exact lsAt_i | assumption), ?_⟩) | (with_reducible refine ⟨mty_l, ?_⟩) | (with_reducible refine frz_i ?_) | (with_reducible refine dget_ik ?_) | (with_reducible refine dget_id ?_) | (with_reducible refine ⟨isD_i, ?_⟩) | (with_reducible refine dput_ik (by first | assumption | omega) ?_) | (with_reducible refine ⟨mty_s, ?_⟩) | (with_reducible refine ⟨mty_t, ?_⟩) | (with_reducible refine ⟨_, ty_l (by first | exact lsAt_i | assumption), ?_⟩)))
      exact done
    | int b =>
      cases hx
      unfold b__law_same
      (repeat (first | (simp only [exA, mFrzT, mFrz, mFrzV, mSortItems, mUn, mVar, mC, mBin, mNil, mCons, mCB, mTest, mAnd, mOr, mNot, mIf, mAndV, mOrV, mNotV, mTup, mLst, mChain, mCall, mCallK, reord, mYes, sNext, sSeq, sDrop, sRet, sRetN, sIf, sNever, sBreak, sCont, sAsg, sPar, sAug, sStore, gSet, gsNil, gsCons, gTupW, qI2, qI, qNeg, qAbs, qStrI, iLst, iStr, iRgn, iRg2, iEnu, iTpl, mDT, mBM, mBM0, mSl, oNone, oSome, sMatch, mGo, mDNew, mPairs, EndsD, EndsW.turn, win, forall_const, W.ls.injEq, Int.zero_add, List.filterMap_cons, List.filterMap_nil, List.cons_append, List.nil_append, List.length_cons, List.length_nil, List.all_cons, List.all_nil, List.any_cons, List.any_nil, List.getElem?_cons_zero, List.getElem?_cons_succ, List.getElem?_nil, List.set_cons_zero, List.set_cons_succ, reduceIte, reduceCtorEq, Nat.reduceEqDiff, Nat.reduceAdd, Nat.reduceSub, Nat.reduceMul, Nat.reduceLeDiff, Int.reduceToNat, Int.cast_ofNat_Int, Int.natCast_zero, Int.natCast_one, Int.reduceLE, Int.reduceLT, Int.reduceNeg, Int.reduceAdd, Int.reduceSub, Int.reducePow, Int.reduceEq, Int.reduceNe, Int.toNat_zero, Int.toNat_one, Int.ofNat_eq_natCast, Nat.reducePow, Nat.le_refl, ge_iff_le, gt_iff_lt, List.mem_cons, List.not_mem_nil, or_false, false_or, or_true, true_or, Option.some.injEq, exists_eq_left', exists_eq_left, exists_eq', exists_eq, exists_and_left, exists_and_right, and_assoc, true_and, and_true, false_and, and_false, exists_false, exists_const, not_true_eq_false, not_false_eq_true, W.int.injEq, W.bl.injEq, W.str.injEq, W.ref.injEq, W.tup.injEq, List.cons.injEq, Bool.true_eq_false, Bool.false_eq_true, decide_eq_true_eq, decide_eq_false_iff_not, Bool.not_eq_true', Bool.not_eq_false', Bool.not_true, Bool.not_false, true_implies, false_implies, implies_true, imp_self, decide_true, decide_false, Bool.and_true, Bool.true_and, Bool.and_false, Bool.false_and, Bool.or_false, Bool.or_true, Bool.false_or, Bool.true_or, beq_self_eq_true, eq_self_iff_true, ne_eq, Int.not_lt, Int.not_le, Nat.not_lt, Nat.not_le, BEq.rfl]) | (with_reducible refine ⟨_, (by first | exact lsAt_i | assumption), ?_⟩) | (with_reducible refine ⟨mty_l, ?_⟩) | (with_reducible refine frz_i ?_) | (with_reducible refine dget_ik ?_) | (with_reducible refine dget_id ?_) | (with_reducible refine ⟨isD_i, ?_⟩) | (with_reducible refine dput_ik (by first | assumption | omega) ?_) | (with_reducible refine ⟨mty_s, ?_⟩) | (with_reducible refine ⟨mty_t, ?_⟩) | (with_reducible refine ⟨_, ty_l (by first | exact lsAt_i | assumption), ?_⟩)))
      exact done
    | str b =>
      cases hx
      unfold b__law_same
      (repeat (first | (simp only [exA, mFrzT, mFrz, mFrzV, mSortItems, mUn, mVar, mC, mBin, mNil, mCons, mCB, mTest, mAnd, mOr, mNot, mIf, mAndV, mOrV, mNotV, mTup, mLst, mChain, mCall, mCallK, reord, mYes, sNext, sSeq, sDrop, sRet, sRetN, sIf, sNever, sBreak, sCont, sAsg, sPar, sAug, sStore, gSet, gsNil, gsCons, gTupW, qI2, qI, qNeg, qAbs, qStrI, iLst, iStr, iRgn, iRg2, iEnu, iTpl, mDT, mBM, mBM0, mSl, oNone, oSome, sMatch, mGo, mDNew, mPairs, EndsD, EndsW.turn, win, forall_const, W.ls.injEq, Int.zero_add, List.filterMap_cons, List.filterMap_nil, List.cons_append, List.nil_append, List.length_cons, List.length_nil, List.all_cons, List.all_nil, List.any_cons, List.any_nil, List.getElem?_cons_zero, List.getElem?_cons_succ, List.getElem?_nil, List.set_cons_zero, List.set_cons_succ, reduceIte, reduceCtorEq, Nat.reduceEqDiff, Nat.reduceAdd, Nat.reduceSub, Nat.reduceMul, Nat.reduceLeDiff, Int.reduceToNat, Int.cast_ofNat_Int, Int.natCast_zero, Int.natCast_one, Int.reduceLE, Int.reduceLT, Int.reduceNeg, Int.reduceAdd, Int.reduceSub, Int.reducePow, Int.reduceEq, Int.reduceNe, Int.toNat_zero, Int.toNat_one, Int.ofNat_eq_natCast, Nat.reducePow, Nat.le_refl, ge_iff_le, gt_iff_lt, List.mem_cons, List.not_mem_nil, or_false, false_or, or_true, true_or, Option.some.injEq, exists_eq_left', exists_eq_left, exists_eq', exists_eq, exists_and_left, exists_and_right, and_assoc, true_and, and_true, false_and, and_false, exists_false, exists_const, not_true_eq_false, not_false_eq_true, W.int.injEq, W.bl.injEq, W.str.injEq, W.ref.injEq, W.tup.injEq, List.cons.injEq, Bool.true_eq_false, Bool.false_eq_true, decide_eq_true_eq, decide_eq_false_iff_not, Bool.not_eq_true', Bool.not_eq_false', Bool.not_true, Bool.not_false, true_implies, false_implies, implies_true, imp_self, decide_true, decide_false, Bool.and_true, Bool.true_and, Bool.and_false, Bool.false_and, Bool.or_false, Bool.or_true, Bool.false_or, Bool.true_or, beq_self_eq_true, eq_self_iff_true, ne_eq, Int.not_lt, Int.not_le, Nat.not_lt, Nat.not_le, BEq.rfl]) | (with_reducible refine ⟨_, (by first | exact lsAt_i | assumption), ?_⟩) | (with_reducible refine ⟨mty_l, ?_⟩) | (with_reducible refine frz_i ?_) | (with_reducible refine dget_ik ?_) | (with_reducible refine dget_id ?_) | (with_reducible refine ⟨isD_i, ?_⟩) | (with_reducible refine dput_ik (by first | assumption | omega) ?_) | (with_reducible refine ⟨mty_s, ?_⟩) | (with_reducible refine ⟨mty_t, ?_⟩) | (with_reducible refine ⟨_, ty_l (by first | exact lsAt_i | assumption), ?_⟩)))
      exact done
    | tup ws =>
      cases hx
      obtain ⟨m, rfl⟩ : ∃ m, n = m + 1 := by
        cases n with
        | zero => simp [SzW] at hs
        | succ m => exact ⟨m, rfl⟩
      have hs2 := SzW.tup.mp hs
      have hv : Vws Cs ws ws := .flat (by rw [noref.eq_def] at f; exact f)
      unfold b__law_same
      (repeat (first | (simp only [exA, mFrzT, mFrz, mFrzV, mSortItems, mUn, mVar, mC, mBin, mNil, mCons, mCB, mTest, mAnd, mOr, mNot, mIf, mAndV, mOrV, mNotV, mTup, mLst, mChain, mCall, mCallK, reord, mYes, sNext, sSeq, sDrop, sRet, sRetN, sIf, sNever, sBreak, sCont, sAsg, sPar, sAug, sStore, gSet, gsNil, gsCons, gTupW, qI2, qI, qNeg, qAbs, qStrI, iLst, iStr, iRgn, iRg2, iEnu, iTpl, mDT, mBM, mBM0, mSl, oNone, oSome, sMatch, mGo, mDNew, mPairs, EndsD, EndsW.turn, win, forall_const, W.ls.injEq, Int.zero_add, List.filterMap_cons, List.filterMap_nil, List.cons_append, List.nil_append, List.length_cons, List.length_nil, List.all_cons, List.all_nil, List.any_cons, List.any_nil, List.getElem?_cons_zero, List.getElem?_cons_succ, List.getElem?_nil, List.set_cons_zero, List.set_cons_succ, reduceIte, reduceCtorEq, Nat.reduceEqDiff, Nat.reduceAdd, Nat.reduceSub, Nat.reduceMul, Nat.reduceLeDiff, Int.reduceToNat, Int.cast_ofNat_Int, Int.natCast_zero, Int.natCast_one, Int.reduceLE, Int.reduceLT, Int.reduceNeg, Int.reduceAdd, Int.reduceSub, Int.reducePow, Int.reduceEq, Int.reduceNe, Int.toNat_zero, Int.toNat_one, Int.ofNat_eq_natCast, Nat.reducePow, Nat.le_refl, ge_iff_le, gt_iff_lt, List.mem_cons, List.not_mem_nil, or_false, false_or, or_true, true_or, Option.some.injEq, exists_eq_left', exists_eq_left, exists_eq', exists_eq, exists_and_left, exists_and_right, and_assoc, true_and, and_true, false_and, and_false, exists_false, exists_const, not_true_eq_false, not_false_eq_true, W.int.injEq, W.bl.injEq, W.str.injEq, W.ref.injEq, W.tup.injEq, List.cons.injEq, Bool.true_eq_false, Bool.false_eq_true, decide_eq_true_eq, decide_eq_false_iff_not, Bool.not_eq_true', Bool.not_eq_false', Bool.not_true, Bool.not_false, true_implies, false_implies, implies_true, imp_self, decide_true, decide_false, Bool.and_true, Bool.true_and, Bool.and_false, Bool.false_and, Bool.or_false, Bool.or_true, Bool.false_or, Bool.true_or, beq_self_eq_true, eq_self_iff_true, ne_eq, Int.not_lt, Int.not_le, Nat.not_lt, Nat.not_le, BEq.rfl]) | (with_reducible refine ⟨_, (by first | exact lsAt_i | assumption), ?_⟩) | (with_reducible refine ⟨mty_l, ?_⟩) | (with_reducible refine frz_i ?_) | (with_reducible refine dget_ik ?_) | (with_reducible refine dget_id ?_) | (with_reducible refine ⟨isD_i, ?_⟩) | (with_reducible refine dput_ik (by first | assumption | omega) ?_) | (with_reducible refine ⟨mty_s, ?_⟩) | (with_reducible refine ⟨mty_t, ?_⟩) | (with_reducible refine ⟨_, ty_l (by first | exact lsAt_i | assumption), ?_⟩)))
      exact ⟨by omega, by have := hs2.1; omega, same_loop (by simp) hv hv hs2.1 hs2.2 (fun c i w R e r => ⟨w, by rw [nth_get]; exact e, r⟩) (fun c i w R e r => ⟨w, by rw [nth_get]; exact e, r⟩) done⟩
    | ref a => rw [noref.eq_def] at f; cases f
    | ty n => rw [noref.eq_def] at f; cases f
    | cst a ws => rw [noref.eq_def] at f; cases f
    | exn a c w => rw [noref.eq_def] at f; cases f
/-! ### _law_error -/
def nmX : EK → Str
  | .tx => "InvalidText"
  | .cu => "InvalidCursor"
  | .cm => "InvalidCommand"
  | .im => "Impossible"
  | .nu => "InvalidNumber"
  | .un => "NothingToUndo"
  | .ur => "Unreadable"
def sp__law_error : SpW := sp1 fun x Cs Q _ => ∃ (a : Addr) (k : EK) (v : W), x = .exn a (Cls.ad k) v ∧ Q (.ls [.str (nmX k), v, .bl true]) Cs
theorem len__law_error : ∀ ws Cs Q E, sp__law_error ws Cs Q E → ws.length = 1 := len1
theorem isC_i {k : EK} {rs : List EK} {d v : W} {f : EK → Bool} {b : Bool} {a : Addr} {Cs : Cells} {Q : WK} (hk : k ∈ rs) (hb : f k = b) (q : Q (.bl b) Cs) : uIsC rs d f [.exn a (Cls.ad k) v, d] Cs Q := ⟨rfl, k, rfl, hk, hb ▸ q⟩
def heldX (ek : EK) : List (Str × Bool) := [("InvalidText", ek == .tx), ("InvalidCursor", ek == .cu), ("InvalidCommand", ek == .cm), ("Impossible", ek == .im), ("InvalidNumber", ek == .nu), ("NothingToUndo", ek == .un), ("Unreadable", ek == .ur)]
def encX (p : Str × Bool) : W := .tup [.str p.1, .bl p.2]
def b__law_error : MS := sSeq (sAsg (mFrz (mLst (mCons (mTup (mCons (mC (.str "InvalidText")) (mCons (mCB (uIsC [.tx, .cu, .cm, .im, .nu, .un, .ur] (.ref (Cls.ad .tx)) fun k => k == .tx) (mCons (mVar 0) (mCons (mC (.ref (Cls.ad .tx))) (mNil)))) (mNil)))) (mCons (mTup (mCons (mC (.str "InvalidCursor")) (mCons (mCB (uIsC [.tx, .cu, .cm, .im, .nu, .un, .ur] (.ref (Cls.ad .cu)) fun k => k == .cu) (mCons (mVar 0) (mCons (mC (.ref (Cls.ad .cu))) (mNil)))) (mNil)))) (mNil))))) (gSet 1)) (sSeq (sAsg (mFrz (mBin uAdd (mVar 1) (mFrz (mLst (mCons (mTup (mCons (mC (.str "InvalidCommand")) (mCons (mCB (uIsC [.tx, .cu, .cm, .im, .nu, .un, .ur] (.ref (Cls.ad .cm)) fun k => k == .cm) (mCons (mVar 0) (mCons (mC (.ref (Cls.ad .cm))) (mNil)))) (mNil)))) (mCons (mTup (mCons (mC (.str "Impossible")) (mCons (mCB (uIsC [.tx, .cu, .cm, .im, .nu, .un, .ur] (.ref (Cls.ad .im)) fun k => k == .im) (mCons (mVar 0) (mCons (mC (.ref (Cls.ad .im))) (mNil)))) (mNil)))) (mNil))))))) (gSet 1)) (sSeq (sAsg (mFrz (mBin uAdd (mVar 1) (mFrz (mLst (mCons (mTup (mCons (mC (.str "InvalidNumber")) (mCons (mCB (uIsC [.tx, .cu, .cm, .im, .nu, .un, .ur] (.ref (Cls.ad .nu)) fun k => k == .nu) (mCons (mVar 0) (mCons (mC (.ref (Cls.ad .nu))) (mNil)))) (mNil)))) (mCons (mTup (mCons (mC (.str "NothingToUndo")) (mCons (mCB (uIsC [.tx, .cu, .cm, .im, .nu, .un, .ur] (.ref (Cls.ad .un)) fun k => k == .un) (mCons (mVar 0) (mCons (mC (.ref (Cls.ad .un))) (mNil)))) (mNil)))) (mNil))))))) (gSet 1)) (sSeq (sAsg (mFrz (mLc (iLst (mFrz (mBin uAdd (mVar 1) (mFrz (mLst (mCons (mTup (mCons (mC (.str "Unreadable")) (mCons (mCB (uIsC [.tx, .cu, .cm, .im, .nu, .un, .ur] (.ref (Cls.ad .ur)) fun k => k == .ur) (mCons (mVar 0) (mCons (mC (.ref (Cls.ad .ur))) (mNil)))) (mNil)))) (mNil))))))) (gTupW 2 (gsCons (gSet 3) (gsCons (gSet 4) (gsNil)))) (mTest (mVar 4)) (mVar 3) [3, 4])) (gSet 2)) (sRet (mFrz (mBin uAdd (mVar 2) (mFrz (mLst (mCons (mXv [.tx, .cu, .cm, .im, .nu, .un, .ur] (mVar 0)) (mCons (mAndV (mCB (uIsC [.tx, .cu, .cm, .im, .nu, .un, .ur] (.ref Cls.base) fun k => true) (mCons (mVar 0) (mCons (mC (.ref Cls.base)) (mNil)))) (mCB (uIsC [.tx, .cu, .cm, .im, .nu, .un, .ur] (.ty "ValueError") fun k => true) (mCons (mVar 0) (mCons (mC (.ty "ValueError")) (mNil))))) (mNil)))))))))))
theorem pure__law_error : ∀ ws Cs Q E, sp__law_error ws Cs Q E → b__law_error (EndsD Q E) (rho0 ws) Cs := by
  rintro ws Cs Q E ⟨x, rfl, a, ek, v, rfl, k⟩
  have all : ek ∈ [EK.tx, .cu, .cm, .im, .nu, .un, .ur] := by cases ek <;> decide
  (repeat (first | (simp only [b__law_error, exA, mFrzT, mFrz, mFrzV, mSortItems, mUn, mVar, mC, mBin, mNil, mCons, mCB, mTest, mAnd, mOr, mNot, mIf, mAndV, mOrV, mNotV, mTup, mLst, mChain, mCall, mCallK, reord, mYes, sNext, sSeq, sDrop, sRet, sRetN, sIf, sNever, sBreak, sCont, sAsg, sPar, sAug, sStore, gSet, gsNil, gsCons, gTupW, qI2, qI, qNeg, qAbs, qStrI, iLst, iStr, iRgn, iRg2, iEnu, iTpl, mDT, mBM, mBM0, mSl, oNone, oSome, sMatch, mGo, mDNew, mPairs, EndsD, EndsW.turn, win, forall_const, W.ls.injEq, Int.zero_add, List.filterMap_cons, List.filterMap_nil, List.cons_append, List.nil_append, List.length_cons, List.length_nil, List.all_cons, List.all_nil, List.any_cons, List.any_nil, List.getElem?_cons_zero, List.getElem?_cons_succ, List.getElem?_nil, List.set_cons_zero, List.set_cons_succ, reduceIte, reduceCtorEq, Nat.reduceEqDiff, Nat.reduceAdd, Nat.reduceSub, Nat.reduceMul, Nat.reduceLeDiff, Int.reduceToNat, Int.cast_ofNat_Int, Int.natCast_zero, Int.natCast_one, Int.reduceLE, Int.reduceLT, Int.reduceNeg, Int.reduceAdd, Int.reduceSub, Int.reducePow, Int.reduceEq, Int.reduceNe, Int.toNat_zero, Int.toNat_one, Int.ofNat_eq_natCast, Nat.reducePow, Nat.le_refl, ge_iff_le, gt_iff_lt, List.mem_cons, List.not_mem_nil, or_false, false_or, or_true, true_or, Option.some.injEq, exists_eq_left', exists_eq_left, exists_eq', exists_eq, exists_and_left, exists_and_right, and_assoc, true_and, and_true, false_and, and_false, exists_false, exists_const, not_true_eq_false, not_false_eq_true, W.int.injEq, W.bl.injEq, W.str.injEq, W.ref.injEq, W.tup.injEq, List.cons.injEq, Bool.true_eq_false, Bool.false_eq_true, decide_eq_true_eq, decide_eq_false_iff_not, Bool.not_eq_true', Bool.not_eq_false', Bool.not_true, Bool.not_false, true_implies, false_implies, implies_true, imp_self, decide_true, decide_false, Bool.and_true, Bool.true_and, Bool.and_false, Bool.false_and, Bool.or_false, Bool.or_true, Bool.false_or, Bool.true_or, beq_self_eq_true, eq_self_iff_true, ne_eq, Int.not_lt, Int.not_le, Nat.not_lt, Nat.not_le, BEq.rfl]) | (with_reducible refine ⟨_, (by first | exact lsAt_i | assumption), ?_⟩) | (with_reducible refine ⟨mty_l, ?_⟩) | (with_reducible refine frz_i ?_) | (with_reducible refine dget_ik ?_) | (with_reducible refine dget_id ?_) | (with_reducible refine ⟨isD_i, ?_⟩) | (with_reducible refine dput_ik (by first | assumption | omega) ?_) | (with_reducible refine ⟨mty_s, ?_⟩) | (with_reducible refine ⟨mty_t, ?_⟩) | (with_reducible refine ⟨_, ty_l (by first | exact lsAt_i | assumption), ?_⟩)))
  refine isC_i all rfl ?_
  refine isC_i all rfl ?_
  (repeat (first | (simp only [exA, mFrzT, mFrz, mFrzV, mSortItems, mUn, mVar, mC, mBin, mNil, mCons, mCB, mTest, mAnd, mOr, mNot, mIf, mAndV, mOrV, mNotV, mTup, mLst, mChain, mCall, mCallK, reord, mYes, sNext, sSeq, sDrop, sRet, sRetN, sIf, sNever, sBreak, sCont, sAsg, sPar, sAug, sStore, gSet, gsNil, gsCons, gTupW, qI2, qI, qNeg, qAbs, qStrI, iLst, iStr, iRgn, iRg2, iEnu, iTpl, mDT, mBM, mBM0, mSl, oNone, oSome, sMatch, mGo, mDNew, mPairs, EndsD, EndsW.turn, win, forall_const, W.ls.injEq, Int.zero_add, List.filterMap_cons, List.filterMap_nil, List.cons_append, List.nil_append, List.length_cons, List.length_nil, List.all_cons, List.all_nil, List.any_cons, List.any_nil, List.getElem?_cons_zero, List.getElem?_cons_succ, List.getElem?_nil, List.set_cons_zero, List.set_cons_succ, reduceIte, reduceCtorEq, Nat.reduceEqDiff, Nat.reduceAdd, Nat.reduceSub, Nat.reduceMul, Nat.reduceLeDiff, Int.reduceToNat, Int.cast_ofNat_Int, Int.natCast_zero, Int.natCast_one, Int.reduceLE, Int.reduceLT, Int.reduceNeg, Int.reduceAdd, Int.reduceSub, Int.reducePow, Int.reduceEq, Int.reduceNe, Int.toNat_zero, Int.toNat_one, Int.ofNat_eq_natCast, Nat.reducePow, Nat.le_refl, ge_iff_le, gt_iff_lt, List.mem_cons, List.not_mem_nil, or_false, false_or, or_true, true_or, Option.some.injEq, exists_eq_left', exists_eq_left, exists_eq', exists_eq, exists_and_left, exists_and_right, and_assoc, true_and, and_true, false_and, and_false, exists_false, exists_const, not_true_eq_false, not_false_eq_true, W.int.injEq, W.bl.injEq, W.str.injEq, W.ref.injEq, W.tup.injEq, List.cons.injEq, Bool.true_eq_false, Bool.false_eq_true, decide_eq_true_eq, decide_eq_false_iff_not, Bool.not_eq_true', Bool.not_eq_false', Bool.not_true, Bool.not_false, true_implies, false_implies, implies_true, imp_self, decide_true, decide_false, Bool.and_true, Bool.true_and, Bool.and_false, Bool.false_and, Bool.or_false, Bool.or_true, Bool.false_or, Bool.true_or, beq_self_eq_true, eq_self_iff_true, ne_eq, Int.not_lt, Int.not_le, Nat.not_lt, Nat.not_le, BEq.rfl]) | (with_reducible refine ⟨_, (by first | exact lsAt_i | assumption), ?_⟩) | (with_reducible refine ⟨mty_l, ?_⟩) | (with_reducible refine frz_i ?_) | (with_reducible refine dget_ik ?_) | (with_reducible refine dget_id ?_) | (with_reducible refine ⟨isD_i, ?_⟩) | (with_reducible refine dput_ik (by first | assumption | omega) ?_) | (with_reducible refine ⟨mty_s, ?_⟩) | (with_reducible refine ⟨mty_t, ?_⟩) | (with_reducible refine ⟨_, ty_l (by first | exact lsAt_i | assumption), ?_⟩)))
  refine isC_i all rfl ?_
  refine isC_i all rfl ?_
  (repeat (first | (simp only [exA, mFrzT, mFrz, mFrzV, mSortItems, mUn, mVar, mC, mBin, mNil, mCons, mCB, mTest, mAnd, mOr, mNot, mIf, mAndV, mOrV, mNotV, mTup, mLst, mChain, mCall, mCallK, reord, mYes, sNext, sSeq, sDrop, sRet, sRetN, sIf, sNever, sBreak, sCont, sAsg, sPar, sAug, sStore, gSet, gsNil, gsCons, gTupW, qI2, qI, qNeg, qAbs, qStrI, iLst, iStr, iRgn, iRg2, iEnu, iTpl, mDT, mBM, mBM0, mSl, oNone, oSome, sMatch, mGo, mDNew, mPairs, EndsD, EndsW.turn, win, forall_const, W.ls.injEq, Int.zero_add, List.filterMap_cons, List.filterMap_nil, List.cons_append, List.nil_append, List.length_cons, List.length_nil, List.all_cons, List.all_nil, List.any_cons, List.any_nil, List.getElem?_cons_zero, List.getElem?_cons_succ, List.getElem?_nil, List.set_cons_zero, List.set_cons_succ, reduceIte, reduceCtorEq, Nat.reduceEqDiff, Nat.reduceAdd, Nat.reduceSub, Nat.reduceMul, Nat.reduceLeDiff, Int.reduceToNat, Int.cast_ofNat_Int, Int.natCast_zero, Int.natCast_one, Int.reduceLE, Int.reduceLT, Int.reduceNeg, Int.reduceAdd, Int.reduceSub, Int.reducePow, Int.reduceEq, Int.reduceNe, Int.toNat_zero, Int.toNat_one, Int.ofNat_eq_natCast, Nat.reducePow, Nat.le_refl, ge_iff_le, gt_iff_lt, List.mem_cons, List.not_mem_nil, or_false, false_or, or_true, true_or, Option.some.injEq, exists_eq_left', exists_eq_left, exists_eq', exists_eq, exists_and_left, exists_and_right, and_assoc, true_and, and_true, false_and, and_false, exists_false, exists_const, not_true_eq_false, not_false_eq_true, W.int.injEq, W.bl.injEq, W.str.injEq, W.ref.injEq, W.tup.injEq, List.cons.injEq, Bool.true_eq_false, Bool.false_eq_true, decide_eq_true_eq, decide_eq_false_iff_not, Bool.not_eq_true', Bool.not_eq_false', Bool.not_true, Bool.not_false, true_implies, false_implies, implies_true, imp_self, decide_true, decide_false, Bool.and_true, Bool.true_and, Bool.and_false, Bool.false_and, Bool.or_false, Bool.or_true, Bool.false_or, Bool.true_or, beq_self_eq_true, eq_self_iff_true, ne_eq, Int.not_lt, Int.not_le, Nat.not_lt, Nat.not_le, BEq.rfl]) | (with_reducible refine ⟨_, (by first | exact lsAt_i | assumption), ?_⟩) | (with_reducible refine ⟨mty_l, ?_⟩) | (with_reducible refine frz_i ?_) | (with_reducible refine dget_ik ?_) | (with_reducible refine dget_id ?_) | (with_reducible refine ⟨isD_i, ?_⟩) | (with_reducible refine dput_ik (by first | assumption | omega) ?_) | (with_reducible refine ⟨mty_s, ?_⟩) | (with_reducible refine ⟨mty_t, ?_⟩) | (with_reducible refine ⟨_, ty_l (by first | exact lsAt_i | assumption), ?_⟩)))
  refine isC_i all rfl ?_
  refine isC_i all rfl ?_
  refine isC_i all rfl ?_
  (repeat (first | (simp only [exA, mFrzT, mFrz, mFrzV, mSortItems, mUn, mVar, mC, mBin, mNil, mCons, mCB, mTest, mAnd, mOr, mNot, mIf, mAndV, mOrV, mNotV, mTup, mLst, mChain, mCall, mCallK, reord, mYes, sNext, sSeq, sDrop, sRet, sRetN, sIf, sNever, sBreak, sCont, sAsg, sPar, sAug, sStore, gSet, gsNil, gsCons, gTupW, qI2, qI, qNeg, qAbs, qStrI, iLst, iStr, iRgn, iRg2, iEnu, iTpl, mDT, mBM, mBM0, mSl, oNone, oSome, sMatch, mGo, mDNew, mPairs, EndsD, EndsW.turn, win, forall_const, W.ls.injEq, Int.zero_add, List.filterMap_cons, List.filterMap_nil, List.cons_append, List.nil_append, List.length_cons, List.length_nil, List.all_cons, List.all_nil, List.any_cons, List.any_nil, List.getElem?_cons_zero, List.getElem?_cons_succ, List.getElem?_nil, List.set_cons_zero, List.set_cons_succ, reduceIte, reduceCtorEq, Nat.reduceEqDiff, Nat.reduceAdd, Nat.reduceSub, Nat.reduceMul, Nat.reduceLeDiff, Int.reduceToNat, Int.cast_ofNat_Int, Int.natCast_zero, Int.natCast_one, Int.reduceLE, Int.reduceLT, Int.reduceNeg, Int.reduceAdd, Int.reduceSub, Int.reducePow, Int.reduceEq, Int.reduceNe, Int.toNat_zero, Int.toNat_one, Int.ofNat_eq_natCast, Nat.reducePow, Nat.le_refl, ge_iff_le, gt_iff_lt, List.mem_cons, List.not_mem_nil, or_false, false_or, or_true, true_or, Option.some.injEq, exists_eq_left', exists_eq_left, exists_eq', exists_eq, exists_and_left, exists_and_right, and_assoc, true_and, and_true, false_and, and_false, exists_false, exists_const, not_true_eq_false, not_false_eq_true, W.int.injEq, W.bl.injEq, W.str.injEq, W.ref.injEq, W.tup.injEq, List.cons.injEq, Bool.true_eq_false, Bool.false_eq_true, decide_eq_true_eq, decide_eq_false_iff_not, Bool.not_eq_true', Bool.not_eq_false', Bool.not_true, Bool.not_false, true_implies, false_implies, implies_true, imp_self, decide_true, decide_false, Bool.and_true, Bool.true_and, Bool.and_false, Bool.false_and, Bool.or_false, Bool.or_true, Bool.false_or, Bool.true_or, beq_self_eq_true, eq_self_iff_true, ne_eq, Int.not_lt, Int.not_le, Nat.not_lt, Nat.not_le, BEq.rfl]) | (with_reducible refine ⟨_, (by first | exact lsAt_i | assumption), ?_⟩) | (with_reducible refine ⟨mty_l, ?_⟩) | (with_reducible refine frz_i ?_) | (with_reducible refine dget_ik ?_) | (with_reducible refine dget_id ?_) | (with_reducible refine ⟨isD_i, ?_⟩) | (with_reducible refine dput_ik (by first | assumption | omega) ?_) | (with_reducible refine ⟨mty_s, ?_⟩) | (with_reducible refine ⟨mty_t, ?_⟩) | (with_reducible refine ⟨_, ty_l (by first | exact lsAt_i | assumption), ?_⟩)))
  refine lcL_i (xs := heldX ek) (enc := encX) (fun p => p.2) (fun p => .str p.1) (items_l (xs := heldX ek) (enc := encX) (n := 7) rfl) (by simp [heldX]) ?_ ?_
  · rintro D acc ⟨nm, b⟩ KT KN hm h1 h2
    (repeat (first | (simp only [encX, exA, mFrzT, mFrz, mFrzV, mSortItems, mUn, mVar, mC, mBin, mNil, mCons, mCB, mTest, mAnd, mOr, mNot, mIf, mAndV, mOrV, mNotV, mTup, mLst, mChain, mCall, mCallK, reord, mYes, sNext, sSeq, sDrop, sRet, sRetN, sIf, sNever, sBreak, sCont, sAsg, sPar, sAug, sStore, gSet, gsNil, gsCons, gTupW, qI2, qI, qNeg, qAbs, qStrI, iLst, iStr, iRgn, iRg2, iEnu, iTpl, mDT, mBM, mBM0, mSl, oNone, oSome, sMatch, mGo, mDNew, mPairs, EndsD, EndsW.turn, win, forall_const, W.ls.injEq, Int.zero_add, List.filterMap_cons, List.filterMap_nil, List.cons_append, List.nil_append, List.length_cons, List.length_nil, List.all_cons, List.all_nil, List.any_cons, List.any_nil, List.getElem?_cons_zero, List.getElem?_cons_succ, List.getElem?_nil, List.set_cons_zero, List.set_cons_succ, reduceIte, reduceCtorEq, Nat.reduceEqDiff, Nat.reduceAdd, Nat.reduceSub, Nat.reduceMul, Nat.reduceLeDiff, Int.reduceToNat, Int.cast_ofNat_Int, Int.natCast_zero, Int.natCast_one, Int.reduceLE, Int.reduceLT, Int.reduceNeg, Int.reduceAdd, Int.reduceSub, Int.reducePow, Int.reduceEq, Int.reduceNe, Int.toNat_zero, Int.toNat_one, Int.ofNat_eq_natCast, Nat.reducePow, Nat.le_refl, ge_iff_le, gt_iff_lt, List.mem_cons, List.not_mem_nil, or_false, false_or, or_true, true_or, Option.some.injEq, exists_eq_left', exists_eq_left, exists_eq', exists_eq, exists_and_left, exists_and_right, and_assoc, true_and, and_true, false_and, and_false, exists_false, exists_const, not_true_eq_false, not_false_eq_true, W.int.injEq, W.bl.injEq, W.str.injEq, W.ref.injEq, W.tup.injEq, List.cons.injEq, Bool.true_eq_false, Bool.false_eq_true, decide_eq_true_eq, decide_eq_false_iff_not, Bool.not_eq_true', Bool.not_eq_false', Bool.not_true, Bool.not_false, true_implies, false_implies, implies_true, imp_self, decide_true, decide_false, Bool.and_true, Bool.true_and, Bool.and_false, Bool.false_and, Bool.or_false, Bool.or_true, Bool.false_or, Bool.true_or, beq_self_eq_true, eq_self_iff_true, ne_eq, Int.not_lt, Int.not_le, Nat.not_lt, Nat.not_le, BEq.rfl]) | (with_reducible refine ⟨_, (by first | exact lsAt_i | assumption), ?_⟩) | (with_reducible refine ⟨mty_l, ?_⟩) | (with_reducible refine frz_i ?_) | (with_reducible refine dget_ik ?_) | (with_reducible refine dget_id ?_) | (with_reducible refine ⟨isD_i, ?_⟩) | (with_reducible refine dput_ik (by first | assumption | omega) ?_) | (with_reducible refine ⟨mty_s, ?_⟩) | (with_reducible refine ⟨mty_t, ?_⟩) | (with_reducible refine ⟨_, ty_l (by first | exact lsAt_i | assumption), ?_⟩)))
    exact ⟨h1, h2⟩
  · intro D
    have ef : ((heldX ek).filter (fun p => p.2)).map (fun p => W.str p.1) = [.str (nmX ek)] := by cases ek <;> rfl
    (repeat (first | (simp only [mXv, ef, exA, mFrzT, mFrz, mFrzV, mSortItems, mUn, mVar, mC, mBin, mNil, mCons, mCB, mTest, mAnd, mOr, mNot, mIf, mAndV, mOrV, mNotV, mTup, mLst, mChain, mCall, mCallK, reord, mYes, sNext, sSeq, sDrop, sRet, sRetN, sIf, sNever, sBreak, sCont, sAsg, sPar, sAug, sStore, gSet, gsNil, gsCons, gTupW, qI2, qI, qNeg, qAbs, qStrI, iLst, iStr, iRgn, iRg2, iEnu, iTpl, mDT, mBM, mBM0, mSl, oNone, oSome, sMatch, mGo, mDNew, mPairs, EndsD, EndsW.turn, win, forall_const, W.ls.injEq, Int.zero_add, List.filterMap_cons, List.filterMap_nil, List.cons_append, List.nil_append, List.length_cons, List.length_nil, List.all_cons, List.all_nil, List.any_cons, List.any_nil, List.getElem?_cons_zero, List.getElem?_cons_succ, List.getElem?_nil, List.set_cons_zero, List.set_cons_succ, reduceIte, reduceCtorEq, Nat.reduceEqDiff, Nat.reduceAdd, Nat.reduceSub, Nat.reduceMul, Nat.reduceLeDiff, Int.reduceToNat, Int.cast_ofNat_Int, Int.natCast_zero, Int.natCast_one, Int.reduceLE, Int.reduceLT, Int.reduceNeg, Int.reduceAdd, Int.reduceSub, Int.reducePow, Int.reduceEq, Int.reduceNe, Int.toNat_zero, Int.toNat_one, Int.ofNat_eq_natCast, Nat.reducePow, Nat.le_refl, ge_iff_le, gt_iff_lt, List.mem_cons, List.not_mem_nil, or_false, false_or, or_true, true_or, Option.some.injEq, exists_eq_left', exists_eq_left, exists_eq', exists_eq, exists_and_left, exists_and_right, and_assoc, true_and, and_true, false_and, and_false, exists_false, exists_const, not_true_eq_false, not_false_eq_true, W.int.injEq, W.bl.injEq, W.str.injEq, W.ref.injEq, W.tup.injEq, List.cons.injEq, Bool.true_eq_false, Bool.false_eq_true, decide_eq_true_eq, decide_eq_false_iff_not, Bool.not_eq_true', Bool.not_eq_false', Bool.not_true, Bool.not_false, true_implies, false_implies, implies_true, imp_self, decide_true, decide_false, Bool.and_true, Bool.true_and, Bool.and_false, Bool.false_and, Bool.or_false, Bool.or_true, Bool.false_or, Bool.true_or, beq_self_eq_true, eq_self_iff_true, ne_eq, Int.not_lt, Int.not_le, Nat.not_lt, Nat.not_le, BEq.rfl]) | (with_reducible refine ⟨_, (by first | exact lsAt_i | assumption), ?_⟩) | (with_reducible refine ⟨mty_l, ?_⟩) | (with_reducible refine frz_i ?_) | (with_reducible refine dget_ik ?_) | (with_reducible refine dget_id ?_) | (with_reducible refine ⟨isD_i, ?_⟩) | (with_reducible refine dput_ik (by first | assumption | omega) ?_) | (with_reducible refine ⟨mty_s, ?_⟩) | (with_reducible refine ⟨mty_t, ?_⟩) | (with_reducible refine ⟨_, ty_l (by first | exact lsAt_i | assumption), ?_⟩)))
    refine ⟨a, ek, v, rfl, by simpa using all, isC_i (b := true) all rfl ?_⟩
    (repeat (first | (simp only [exA, mFrzT, mFrz, mFrzV, mSortItems, mUn, mVar, mC, mBin, mNil, mCons, mCB, mTest, mAnd, mOr, mNot, mIf, mAndV, mOrV, mNotV, mTup, mLst, mChain, mCall, mCallK, reord, mYes, sNext, sSeq, sDrop, sRet, sRetN, sIf, sNever, sBreak, sCont, sAsg, sPar, sAug, sStore, gSet, gsNil, gsCons, gTupW, qI2, qI, qNeg, qAbs, qStrI, iLst, iStr, iRgn, iRg2, iEnu, iTpl, mDT, mBM, mBM0, mSl, oNone, oSome, sMatch, mGo, mDNew, mPairs, EndsD, EndsW.turn, win, forall_const, W.ls.injEq, Int.zero_add, List.filterMap_cons, List.filterMap_nil, List.cons_append, List.nil_append, List.length_cons, List.length_nil, List.all_cons, List.all_nil, List.any_cons, List.any_nil, List.getElem?_cons_zero, List.getElem?_cons_succ, List.getElem?_nil, List.set_cons_zero, List.set_cons_succ, reduceIte, reduceCtorEq, Nat.reduceEqDiff, Nat.reduceAdd, Nat.reduceSub, Nat.reduceMul, Nat.reduceLeDiff, Int.reduceToNat, Int.cast_ofNat_Int, Int.natCast_zero, Int.natCast_one, Int.reduceLE, Int.reduceLT, Int.reduceNeg, Int.reduceAdd, Int.reduceSub, Int.reducePow, Int.reduceEq, Int.reduceNe, Int.toNat_zero, Int.toNat_one, Int.ofNat_eq_natCast, Nat.reducePow, Nat.le_refl, ge_iff_le, gt_iff_lt, List.mem_cons, List.not_mem_nil, or_false, false_or, or_true, true_or, Option.some.injEq, exists_eq_left', exists_eq_left, exists_eq', exists_eq, exists_and_left, exists_and_right, and_assoc, true_and, and_true, false_and, and_false, exists_false, exists_const, not_true_eq_false, not_false_eq_true, W.int.injEq, W.bl.injEq, W.str.injEq, W.ref.injEq, W.tup.injEq, List.cons.injEq, Bool.true_eq_false, Bool.false_eq_true, decide_eq_true_eq, decide_eq_false_iff_not, Bool.not_eq_true', Bool.not_eq_false', Bool.not_true, Bool.not_false, true_implies, false_implies, implies_true, imp_self, decide_true, decide_false, Bool.and_true, Bool.true_and, Bool.and_false, Bool.false_and, Bool.or_false, Bool.or_true, Bool.false_or, Bool.true_or, beq_self_eq_true, eq_self_iff_true, ne_eq, Int.not_lt, Int.not_le, Nat.not_lt, Nat.not_le, BEq.rfl]) | (with_reducible refine ⟨_, (by first | exact lsAt_i | assumption), ?_⟩) | (with_reducible refine ⟨mty_l, ?_⟩) | (with_reducible refine frz_i ?_) | (with_reducible refine dget_ik ?_) | (with_reducible refine dget_id ?_) | (with_reducible refine ⟨isD_i, ?_⟩) | (with_reducible refine dput_ik (by first | assumption | omega) ?_) | (with_reducible refine ⟨mty_s, ?_⟩) | (with_reducible refine ⟨mty_t, ?_⟩) | (with_reducible refine ⟨_, ty_l (by first | exact lsAt_i | assumption), ?_⟩)))
    exact isC_i (b := true) all rfl ⟨_, .here, k⟩
/-! ### _law_made -/
def ekAt : Int → EK := fun i => if i = 0 then .tx else if i = 1 then .cu else if i = 2 then .cm else if i = 3 then .im else if i = 4 then .nu else if i = 5 then .un else .ur
def sp__law_made : SpW := sp3 fun x y z Cs Q _ => ∃ (d : Int) (b : Bool), x = .int d ∧ z = .bl b ∧ ∀ a, Q (.exn a (Cls.ad (ekAt d)) y) Cs
theorem len__law_made : ∀ ws Cs Q E, sp__law_made ws Cs Q E → ws.length = 3 := len3
def b__law_made : MS := sSeq (sIf (mTest (mBin uEq (mVar 0) (mC (.int 0)))) (sRet (mIf (mTest (mVar 2)) (mMkX (Cls.ad .tx) (mCons (mVar 1) (mNil))) (mMkX (Cls.ad .tx) (mCons (mVar 1) (mNil))))) (sNext)) (sSeq (sIf (mTest (mBin uEq (mVar 0) (mC (.int 1)))) (sRet (mIf (mTest (mVar 2)) (mMkX (Cls.ad .cu) (mCons (mVar 1) (mNil))) (mMkX (Cls.ad .cu) (mCons (mVar 1) (mNil))))) (sNext)) (sSeq (sIf (mTest (mBin uEq (mVar 0) (mC (.int 2)))) (sRet (mIf (mTest (mVar 2)) (mMkX (Cls.ad .cm) (mCons (mVar 1) (mNil))) (mMkX (Cls.ad .cm) (mCons (mVar 1) (mNil))))) (sNext)) (sSeq (sIf (mTest (mBin uEq (mVar 0) (mC (.int 3)))) (sRet (mIf (mTest (mVar 2)) (mMkX (Cls.ad .im) (mCons (mVar 1) (mNil))) (mMkX (Cls.ad .im) (mCons (mVar 1) (mNil))))) (sNext)) (sSeq (sIf (mTest (mBin uEq (mVar 0) (mC (.int 4)))) (sRet (mIf (mTest (mVar 2)) (mMkX (Cls.ad .nu) (mCons (mVar 1) (mNil))) (mMkX (Cls.ad .nu) (mCons (mVar 1) (mNil))))) (sNext)) (sSeq (sIf (mTest (mBin uEq (mVar 0) (mC (.int 5)))) (sRet (mIf (mTest (mVar 2)) (mMkX (Cls.ad .un) (mCons (mVar 1) (mNil))) (mMkX (Cls.ad .un) (mCons (mVar 1) (mNil))))) (sNext)) (sRet (mIf (mTest (mVar 2)) (mMkX (Cls.ad .ur) (mCons (mVar 1) (mNil))) (mMkX (Cls.ad .ur) (mCons (mVar 1) (mNil))))))))))
theorem pure__law_made : ∀ ws Cs Q E, sp__law_made ws Cs Q E → b__law_made (EndsD Q E) (rho0 ws) Cs := by
  rintro ws Cs Q E ⟨x, y, z, rfl, d, b, rfl, rfl, k⟩
  have fin : ∀ e : EK, e = ekAt d → (b = true → ∀ a : Addr, ∃ C', Part C' Cs ∧ Q (W.exn a (Cls.ad e) y) C') ∧ (b = false → ∀ a : Addr, ∃ C', Part C' Cs ∧ Q (W.exn a (Cls.ad e) y) C') := fun e h => by
    subst h
    exact ⟨fun _ a => ⟨_, .here, k a⟩, fun _ a => ⟨_, .here, k a⟩⟩
  (repeat (first | (simp only [b__law_made, mMkX, exA, mFrzT, mFrz, mFrzV, mSortItems, mUn, mVar, mC, mBin, mNil, mCons, mCB, mTest, mAnd, mOr, mNot, mIf, mAndV, mOrV, mNotV, mTup, mLst, mChain, mCall, mCallK, reord, mYes, sNext, sSeq, sDrop, sRet, sRetN, sIf, sNever, sBreak, sCont, sAsg, sPar, sAug, sStore, gSet, gsNil, gsCons, gTupW, qI2, qI, qNeg, qAbs, qStrI, iLst, iStr, iRgn, iRg2, iEnu, iTpl, mDT, mBM, mBM0, mSl, oNone, oSome, sMatch, mGo, mDNew, mPairs, EndsD, EndsW.turn, win, forall_const, W.ls.injEq, Int.zero_add, List.filterMap_cons, List.filterMap_nil, List.cons_append, List.nil_append, List.length_cons, List.length_nil, List.all_cons, List.all_nil, List.any_cons, List.any_nil, List.getElem?_cons_zero, List.getElem?_cons_succ, List.getElem?_nil, List.set_cons_zero, List.set_cons_succ, reduceIte, reduceCtorEq, Nat.reduceEqDiff, Nat.reduceAdd, Nat.reduceSub, Nat.reduceMul, Nat.reduceLeDiff, Int.reduceToNat, Int.cast_ofNat_Int, Int.natCast_zero, Int.natCast_one, Int.reduceLE, Int.reduceLT, Int.reduceNeg, Int.reduceAdd, Int.reduceSub, Int.reducePow, Int.reduceEq, Int.reduceNe, Int.toNat_zero, Int.toNat_one, Int.ofNat_eq_natCast, Nat.reducePow, Nat.le_refl, ge_iff_le, gt_iff_lt, List.mem_cons, List.not_mem_nil, or_false, false_or, or_true, true_or, Option.some.injEq, exists_eq_left', exists_eq_left, exists_eq', exists_eq, exists_and_left, exists_and_right, and_assoc, true_and, and_true, false_and, and_false, exists_false, exists_const, not_true_eq_false, not_false_eq_true, W.int.injEq, W.bl.injEq, W.str.injEq, W.ref.injEq, W.tup.injEq, List.cons.injEq, Bool.true_eq_false, Bool.false_eq_true, decide_eq_true_eq, decide_eq_false_iff_not, Bool.not_eq_true', Bool.not_eq_false', Bool.not_true, Bool.not_false, true_implies, false_implies, implies_true, imp_self, decide_true, decide_false, Bool.and_true, Bool.true_and, Bool.and_false, Bool.false_and, Bool.or_false, Bool.or_true, Bool.false_or, Bool.true_or, beq_self_eq_true, eq_self_iff_true, ne_eq, Int.not_lt, Int.not_le, Nat.not_lt, Nat.not_le, BEq.rfl]) | (with_reducible refine ⟨_, (by first | exact lsAt_i | assumption), ?_⟩) | (with_reducible refine ⟨mty_l, ?_⟩) | (with_reducible refine frz_i ?_) | (with_reducible refine dget_ik ?_) | (with_reducible refine dget_id ?_) | (with_reducible refine ⟨isD_i, ?_⟩) | (with_reducible refine dput_ik (by first | assumption | omega) ?_) | (with_reducible refine ⟨mty_s, ?_⟩) | (with_reducible refine ⟨mty_t, ?_⟩) | (with_reducible refine ⟨_, ty_l (by first | exact lsAt_i | assumption), ?_⟩)))
  refine ⟨fun z => fin .tx (by simp [ekAt, z]), fun z0 => ⟨fun z => fin .cu (by simp [ekAt, z]), fun z1 => ⟨fun z => fin .cm (by simp [ekAt, z]), fun z2 => ⟨fun z => fin .im (by simp [ekAt, z]), fun z3 => ⟨fun z => fin .nu (by simp [ekAt, z]), fun z4 => ⟨fun z => fin .un (by simp [ekAt, z]), fun z5 => fin .ur (by simp [ekAt, z0, z1, z2, z3, z4, z5])⟩⟩⟩⟩⟩⟩
/-! ### law -/
abbrev nmsX : List W := [.str "InvalidText", .str "InvalidCursor", .str "InvalidCommand", .str "Impossible", .str "InvalidNumber", .str "NothingToUndo", .str "Unreadable"]
structure J_law (q p : Addr) (N : Nat) (C : Cells) (S : SrcS) : Prop where
  ok : S.ok N
  hc : C = S.at_ q ++ [(p, .lst nmsX)]
theorem nms_at {d : Nat} (h : d < 7) : nmsX[d]? = some (.str (nmX (ekAt (d : Nat)))) := by
  rcases (show d = 0 ∨ d = 1 ∨ d = 2 ∨ d = 3 ∨ d = 4 ∨ d = 5 ∨ d = 6 by omega) with rfl | rfl | rfl | rfl | rfl | rfl | rfl <;> rfl
theorem nms_nth {d : Nat} (h : d < 7) : nth nmsX (d : Nat) = some (.str (nmX (ekAt (d : Nat)))) := by
  unfold nth
  rw [if_pos (by omega), Int.toNat_natCast]
  exact nms_at h
theorem err_i {a : Addr} {k : EK} {v : W} {C : Cells} {Q : WK} {E : XW} (q : Q (.ls [.str (nmX k), v, .bl true]) C) : sp__law_error [.exn a (Cls.ad k) v] C Q E := ⟨_, rfl, a, k, v, rfl, q⟩
theorem made_i {d : Int} {b : Bool} {y : W} {C : Cells} {Q : WK} {E : XW} (q : ∀ a, Q (.exn a (Cls.ad (ekAt d)) y) C) : sp__law_made [.int d, y, .bl b] C Q E := ⟨_, _, _, rfl, d, b, rfl, rfl, q⟩
theorem mx_1 {js0 js : List Nat} {R P Q : Rho} {J : Rho → Cells → Prop} {C C' : Cells} (h : js.all (fun i => decide (i ∈ js0)) = true) (p : Part C' C) (q : J Q C') : ∃ C', Part C' C ∧ Mx js (mix js0 R P) J (mix js0 R (mix js P Q)) C' := ⟨C', p, Q, (mix_mix h).symm, q⟩
theorem mx_2 {js0 js1 js : List Nat} {R A B D : Rho} {J : Rho → Cells → Prop} {C C' : Cells} (h0 : js.all (fun i => decide (i ∈ js0)) = true) (h1 : js.all (fun i => decide (i ∈ js1)) = true) (p : Part C' C) (q : J D C') : ∃ C', Part C' C ∧ Mx js (mix js0 R (mix js1 A B)) J (mix js0 R (mix js1 A (mix js B D))) C' := ⟨C', p, D, by rw [mix_mix h0, mix_mix h1], q⟩
def b_law : MS := sSeq (sAsg (mCall sp__law_source (mCons (mVar 0) (mNil))) (gSet 1)) (sSeq (sAsg (mLst (mCons (mC (.str "InvalidText")) (mCons (mC (.str "InvalidCursor")) (mCons (mC (.str "InvalidCommand")) (mCons (mC (.str "Impossible")) (mCons (mC (.str "InvalidNumber")) (mCons (mC (.str "NothingToUndo")) (mNil)))))))) (gSet 2)) (sSeq (sDrop (mBM "list" (qMutL gAppend) (mVar 2) (mCons (mC (.str "Unreadable")) (mNil)))) (sSeq (sFor (iRgn (mCons (mBin uAdd (mC (.int 3)) (mCB uMin (mCons (mC (.int 8)) (mCons (mCB uLen (mCons (mVar 0) (mNil))) (mNil))))) (mNil))) (gSet 3) (sSeq (sAsg (mCall (cl sp__law_draw) (mCons (mVar 1) (mCons (mBin qPow (mC (.int 10)) (mC (.int 30))) (mNil)))) (gSet 4)) (sFor (iLst (mFrz (mLst (mCons (mC (.int 0)) (mCons (mVar 4) (mCons (mBin qSub (mC (.int 0)) (mVar 4)) (mCons (mC .non) (mCons (mC (.str "")) (mCons (mC (.str "1D H")) (mCons (mTup (mCons (mVar 4) (mCons (mC .non) (mNil)))) (mCons (mFrz (mLst (mCons (mVar 4) (mNil)))) (mNil)))))))))))) (gSet 5) (sFor (iRgn (mCons (mC (.int 7)) (mNil))) (gSet 6) (sFor (iLst (mFrz (mLst (mCons (mC (.bl false)) (mCons (mC (.bl true)) (mNil)))))) (gSet 7) (sIf (mNot (mTest (mCall (sp__law_same 8) (mCons (mCall sp__law_error (mCons (mCall sp__law_made (mCons (mVar 6) (mCons (mVar 5) (mCons (mVar 7) (mNil))))) (mNil))) (mCons (mFrz (mLst (mCons (mBin uIx (mVar 2) (mVar 6)) (mCons (mVar 5) (mCons (mC (.bl true)) (mNil)))))) (mNil)))))) (sRet (mC (.bl false))) (sNext))))))) (sRet (mC (.bl true))))))
theorem pure_law : ∀ ws Cs Q E, spLawW ws Cs Q E → b_law (EndsD Q E) (rho0 ws) Cs := by
  rintro ws Cs Q E ⟨a, ns, rfl, hn, rfl, k⟩
  (repeat (first | (simp only [b_law, sp__law_source, exA, mFrzT, mFrz, mFrzV, mSortItems, mUn, mVar, mC, mBin, mNil, mCons, mCB, mTest, mAnd, mOr, mNot, mIf, mAndV, mOrV, mNotV, mTup, mLst, mChain, mCall, mCallK, reord, mYes, sNext, sSeq, sDrop, sRet, sRetN, sIf, sNever, sBreak, sCont, sAsg, sPar, sAug, sStore, gSet, gsNil, gsCons, gTupW, qI2, qI, qNeg, qAbs, qStrI, iLst, iStr, iRgn, iRg2, iEnu, iTpl, mDT, mBM, mBM0, mSl, oNone, oSome, sMatch, mGo, mDNew, mPairs, EndsD, EndsW.turn, win, forall_const, W.ls.injEq, Int.zero_add, List.filterMap_cons, List.filterMap_nil, List.cons_append, List.nil_append, List.length_cons, List.length_nil, List.all_cons, List.all_nil, List.any_cons, List.any_nil, List.getElem?_cons_zero, List.getElem?_cons_succ, List.getElem?_nil, List.set_cons_zero, List.set_cons_succ, reduceIte, reduceCtorEq, Nat.reduceEqDiff, Nat.reduceAdd, Nat.reduceSub, Nat.reduceMul, Nat.reduceLeDiff, Int.reduceToNat, Int.cast_ofNat_Int, Int.natCast_zero, Int.natCast_one, Int.reduceLE, Int.reduceLT, Int.reduceNeg, Int.reduceAdd, Int.reduceSub, Int.reducePow, Int.reduceEq, Int.reduceNe, Int.toNat_zero, Int.toNat_one, Int.ofNat_eq_natCast, Nat.reducePow, Nat.le_refl, ge_iff_le, gt_iff_lt, List.mem_cons, List.not_mem_nil, or_false, false_or, or_true, true_or, Option.some.injEq, exists_eq_left', exists_eq_left, exists_eq', exists_eq, exists_and_left, exists_and_right, and_assoc, true_and, and_true, false_and, and_false, exists_false, exists_const, not_true_eq_false, not_false_eq_true, W.int.injEq, W.bl.injEq, W.str.injEq, W.ref.injEq, W.tup.injEq, List.cons.injEq, Bool.true_eq_false, Bool.false_eq_true, decide_eq_true_eq, decide_eq_false_iff_not, Bool.not_eq_true', Bool.not_eq_false', Bool.not_true, Bool.not_false, true_implies, false_implies, implies_true, imp_self, decide_true, decide_false, Bool.and_true, Bool.true_and, Bool.and_false, Bool.false_and, Bool.or_false, Bool.or_true, Bool.false_or, Bool.true_or, beq_self_eq_true, eq_self_iff_true, ne_eq, Int.not_lt, Int.not_le, Nat.not_lt, Nat.not_le, BEq.rfl]) | (with_reducible refine ⟨_, (by first | exact lsAt_i | assumption), ?_⟩) | (with_reducible refine ⟨mty_l, ?_⟩) | (with_reducible refine frz_i ?_) | (with_reducible refine dget_ik ?_) | (with_reducible refine dget_id ?_) | (with_reducible refine ⟨isD_i, ?_⟩) | (with_reducible refine dput_ik (by first | assumption | omega) ?_) | (with_reducible refine ⟨mty_s, ?_⟩) | (with_reducible refine ⟨mty_t, ?_⟩) | (with_reducible refine ⟨_, ty_l (by first | exact lsAt_i | assumption), ?_⟩)))
  refine ⟨a, ns, rfl, hn, fun q S ok => ?_⟩
  (repeat (first | (simp only [exA, mFrzT, mFrz, mFrzV, mSortItems, mUn, mVar, mC, mBin, mNil, mCons, mCB, mTest, mAnd, mOr, mNot, mIf, mAndV, mOrV, mNotV, mTup, mLst, mChain, mCall, mCallK, reord, mYes, sNext, sSeq, sDrop, sRet, sRetN, sIf, sNever, sBreak, sCont, sAsg, sPar, sAug, sStore, gSet, gsNil, gsCons, gTupW, qI2, qI, qNeg, qAbs, qStrI, iLst, iStr, iRgn, iRg2, iEnu, iTpl, mDT, mBM, mBM0, mSl, oNone, oSome, sMatch, mGo, mDNew, mPairs, EndsD, EndsW.turn, win, forall_const, W.ls.injEq, Int.zero_add, List.filterMap_cons, List.filterMap_nil, List.cons_append, List.nil_append, List.length_cons, List.length_nil, List.all_cons, List.all_nil, List.any_cons, List.any_nil, List.getElem?_cons_zero, List.getElem?_cons_succ, List.getElem?_nil, List.set_cons_zero, List.set_cons_succ, reduceIte, reduceCtorEq, Nat.reduceEqDiff, Nat.reduceAdd, Nat.reduceSub, Nat.reduceMul, Nat.reduceLeDiff, Int.reduceToNat, Int.cast_ofNat_Int, Int.natCast_zero, Int.natCast_one, Int.reduceLE, Int.reduceLT, Int.reduceNeg, Int.reduceAdd, Int.reduceSub, Int.reducePow, Int.reduceEq, Int.reduceNe, Int.toNat_zero, Int.toNat_one, Int.ofNat_eq_natCast, Nat.reducePow, Nat.le_refl, ge_iff_le, gt_iff_lt, List.mem_cons, List.not_mem_nil, or_false, false_or, or_true, true_or, Option.some.injEq, exists_eq_left', exists_eq_left, exists_eq', exists_eq, exists_and_left, exists_and_right, and_assoc, true_and, and_true, false_and, and_false, exists_false, exists_const, not_true_eq_false, not_false_eq_true, W.int.injEq, W.bl.injEq, W.str.injEq, W.ref.injEq, W.tup.injEq, List.cons.injEq, Bool.true_eq_false, Bool.false_eq_true, decide_eq_true_eq, decide_eq_false_iff_not, Bool.not_eq_true', Bool.not_eq_false', Bool.not_true, Bool.not_false, true_implies, false_implies, implies_true, imp_self, decide_true, decide_false, Bool.and_true, Bool.true_and, Bool.and_false, Bool.false_and, Bool.or_false, Bool.or_true, Bool.false_or, Bool.true_or, beq_self_eq_true, eq_self_iff_true, ne_eq, Int.not_lt, Int.not_le, Nat.not_lt, Nat.not_le, BEq.rfl]) | (with_reducible refine ⟨_, (by first | exact lsAt_i | assumption), ?_⟩) | (with_reducible refine ⟨mty_l, ?_⟩) | (with_reducible refine frz_i ?_) | (with_reducible refine dget_ik ?_) | (with_reducible refine dget_id ?_) | (with_reducible refine ⟨isD_i, ?_⟩) | (with_reducible refine dput_ik (by first | assumption | omega) ?_) | (with_reducible refine ⟨mty_s, ?_⟩) | (with_reducible refine ⟨mty_t, ?_⟩) | (with_reducible refine ⟨_, ty_l (by first | exact lsAt_i | assumption), ?_⟩)))
  intro p
  (repeat (first | (simp only [exA, mFrzT, mFrz, mFrzV, mSortItems, mUn, mVar, mC, mBin, mNil, mCons, mCB, mTest, mAnd, mOr, mNot, mIf, mAndV, mOrV, mNotV, mTup, mLst, mChain, mCall, mCallK, reord, mYes, sNext, sSeq, sDrop, sRet, sRetN, sIf, sNever, sBreak, sCont, sAsg, sPar, sAug, sStore, gSet, gsNil, gsCons, gTupW, qI2, qI, qNeg, qAbs, qStrI, iLst, iStr, iRgn, iRg2, iEnu, iTpl, mDT, mBM, mBM0, mSl, oNone, oSome, sMatch, mGo, mDNew, mPairs, EndsD, EndsW.turn, win, forall_const, W.ls.injEq, Int.zero_add, List.filterMap_cons, List.filterMap_nil, List.cons_append, List.nil_append, List.length_cons, List.length_nil, List.all_cons, List.all_nil, List.any_cons, List.any_nil, List.getElem?_cons_zero, List.getElem?_cons_succ, List.getElem?_nil, List.set_cons_zero, List.set_cons_succ, reduceIte, reduceCtorEq, Nat.reduceEqDiff, Nat.reduceAdd, Nat.reduceSub, Nat.reduceMul, Nat.reduceLeDiff, Int.reduceToNat, Int.cast_ofNat_Int, Int.natCast_zero, Int.natCast_one, Int.reduceLE, Int.reduceLT, Int.reduceNeg, Int.reduceAdd, Int.reduceSub, Int.reducePow, Int.reduceEq, Int.reduceNe, Int.toNat_zero, Int.toNat_one, Int.ofNat_eq_natCast, Nat.reducePow, Nat.le_refl, ge_iff_le, gt_iff_lt, List.mem_cons, List.not_mem_nil, or_false, false_or, or_true, true_or, Option.some.injEq, exists_eq_left', exists_eq_left, exists_eq', exists_eq, exists_and_left, exists_and_right, and_assoc, true_and, and_true, false_and, and_false, exists_false, exists_const, not_true_eq_false, not_false_eq_true, W.int.injEq, W.bl.injEq, W.str.injEq, W.ref.injEq, W.tup.injEq, List.cons.injEq, Bool.true_eq_false, Bool.false_eq_true, decide_eq_true_eq, decide_eq_false_iff_not, Bool.not_eq_true', Bool.not_eq_false', Bool.not_true, Bool.not_false, true_implies, false_implies, implies_true, imp_self, decide_true, decide_false, Bool.and_true, Bool.true_and, Bool.and_false, Bool.false_and, Bool.or_false, Bool.or_true, Bool.false_or, Bool.true_or, beq_self_eq_true, eq_self_iff_true, ne_eq, Int.not_lt, Int.not_le, Nat.not_lt, Nat.not_le, BEq.rfl]) | (with_reducible refine ⟨_, (by first | exact lsAt_i | assumption), ?_⟩) | (with_reducible refine ⟨mty_l, ?_⟩) | (with_reducible refine frz_i ?_) | (with_reducible refine dget_ik ?_) | (with_reducible refine dget_id ?_) | (with_reducible refine ⟨isD_i, ?_⟩) | (with_reducible refine dput_ik (by first | assumption | omega) ?_) | (with_reducible refine ⟨mty_s, ?_⟩) | (with_reducible refine ⟨mty_t, ?_⟩) | (with_reducible refine ⟨_, ty_l (by first | exact lsAt_i | assumption), ?_⟩)))
  refine append_i (by show 6 < 100000; decide) ?_
  (repeat (first | (simp only [exA, mFrzT, mFrz, mFrzV, mSortItems, mUn, mVar, mC, mBin, mNil, mCons, mCB, mTest, mAnd, mOr, mNot, mIf, mAndV, mOrV, mNotV, mTup, mLst, mChain, mCall, mCallK, reord, mYes, sNext, sSeq, sDrop, sRet, sRetN, sIf, sNever, sBreak, sCont, sAsg, sPar, sAug, sStore, gSet, gsNil, gsCons, gTupW, qI2, qI, qNeg, qAbs, qStrI, iLst, iStr, iRgn, iRg2, iEnu, iTpl, mDT, mBM, mBM0, mSl, oNone, oSome, sMatch, mGo, mDNew, mPairs, EndsD, EndsW.turn, win, forall_const, W.ls.injEq, Int.zero_add, List.filterMap_cons, List.filterMap_nil, List.cons_append, List.nil_append, List.length_cons, List.length_nil, List.all_cons, List.all_nil, List.any_cons, List.any_nil, List.getElem?_cons_zero, List.getElem?_cons_succ, List.getElem?_nil, List.set_cons_zero, List.set_cons_succ, reduceIte, reduceCtorEq, Nat.reduceEqDiff, Nat.reduceAdd, Nat.reduceSub, Nat.reduceMul, Nat.reduceLeDiff, Int.reduceToNat, Int.cast_ofNat_Int, Int.natCast_zero, Int.natCast_one, Int.reduceLE, Int.reduceLT, Int.reduceNeg, Int.reduceAdd, Int.reduceSub, Int.reducePow, Int.reduceEq, Int.reduceNe, Int.toNat_zero, Int.toNat_one, Int.ofNat_eq_natCast, Nat.reducePow, Nat.le_refl, ge_iff_le, gt_iff_lt, List.mem_cons, List.not_mem_nil, or_false, false_or, or_true, true_or, Option.some.injEq, exists_eq_left', exists_eq_left, exists_eq', exists_eq, exists_and_left, exists_and_right, and_assoc, true_and, and_true, false_and, and_false, exists_false, exists_const, not_true_eq_false, not_false_eq_true, W.int.injEq, W.bl.injEq, W.str.injEq, W.ref.injEq, W.tup.injEq, List.cons.injEq, Bool.true_eq_false, Bool.false_eq_true, decide_eq_true_eq, decide_eq_false_iff_not, Bool.not_eq_true', Bool.not_eq_false', Bool.not_true, Bool.not_false, true_implies, false_implies, implies_true, imp_self, decide_true, decide_false, Bool.and_true, Bool.true_and, Bool.and_false, Bool.false_and, Bool.or_false, Bool.or_true, Bool.false_or, Bool.true_or, beq_self_eq_true, eq_self_iff_true, ne_eq, Int.not_lt, Int.not_le, Nat.not_lt, Nat.not_le, BEq.rfl]) | (with_reducible refine ⟨_, (by first | exact lsAt_i | assumption), ?_⟩) | (with_reducible refine ⟨mty_l, ?_⟩) | (with_reducible refine frz_i ?_) | (with_reducible refine dget_ik ?_) | (with_reducible refine dget_id ?_) | (with_reducible refine ⟨isD_i, ?_⟩) | (with_reducible refine dput_ik (by first | assumption | omega) ?_) | (with_reducible refine ⟨mty_s, ?_⟩) | (with_reducible refine ⟨mty_t, ?_⟩) | (with_reducible refine ⟨_, ty_l (by first | exact lsAt_i | assumption), ?_⟩)))
  refine ⟨by omega, by omega, ?_⟩
  refine forB_p (C0 := S.at_ q ++ [(p, .lst nmsX)]) inferInstance ?_
  refine forL_i [3, 4, 5, 6, 7] (fun pre ρ' C' => ∃ S, J_law q p pre.length C' S) items_r0 ⟨S, ok, rfl⟩ ?_ ?_
  · rintro pre i post ρ' C' e ⟨S, ⟨ok, rfl⟩⟩
    have hi : pre.length < 11 := by
      have := congrArg List.length e
      rw [List.length_range, List.length_append, List.length_cons] at this
      omega
    (repeat (first | (simp only [exA, mFrzT, mFrz, mFrzV, mSortItems, mUn, mVar, mC, mBin, mNil, mCons, mCB, mTest, mAnd, mOr, mNot, mIf, mAndV, mOrV, mNotV, mTup, mLst, mChain, mCall, mCallK, reord, mYes, sNext, sSeq, sDrop, sRet, sRetN, sIf, sNever, sBreak, sCont, sAsg, sPar, sAug, sStore, gSet, gsNil, gsCons, gTupW, qI2, qI, qNeg, qAbs, qStrI, iLst, iStr, iRgn, iRg2, iEnu, iTpl, mDT, mBM, mBM0, mSl, oNone, oSome, sMatch, mGo, mDNew, mPairs, EndsD, EndsW.turn, win, forall_const, W.ls.injEq, Int.zero_add, List.filterMap_cons, List.filterMap_nil, List.cons_append, List.nil_append, List.length_cons, List.length_nil, List.all_cons, List.all_nil, List.any_cons, List.any_nil, List.getElem?_cons_zero, List.getElem?_cons_succ, List.getElem?_nil, List.set_cons_zero, List.set_cons_succ, reduceIte, reduceCtorEq, Nat.reduceEqDiff, Nat.reduceAdd, Nat.reduceSub, Nat.reduceMul, Nat.reduceLeDiff, Int.reduceToNat, Int.cast_ofNat_Int, Int.natCast_zero, Int.natCast_one, Int.reduceLE, Int.reduceLT, Int.reduceNeg, Int.reduceAdd, Int.reduceSub, Int.reducePow, Int.reduceEq, Int.reduceNe, Int.toNat_zero, Int.toNat_one, Int.ofNat_eq_natCast, Nat.reducePow, Nat.le_refl, ge_iff_le, gt_iff_lt, List.mem_cons, List.not_mem_nil, or_false, false_or, or_true, true_or, Option.some.injEq, exists_eq_left', exists_eq_left, exists_eq', exists_eq, exists_and_left, exists_and_right, and_assoc, true_and, and_true, false_and, and_false, exists_false, exists_const, not_true_eq_false, not_false_eq_true, W.int.injEq, W.bl.injEq, W.str.injEq, W.ref.injEq, W.tup.injEq, List.cons.injEq, Bool.true_eq_false, Bool.false_eq_true, decide_eq_true_eq, decide_eq_false_iff_not, Bool.not_eq_true', Bool.not_eq_false', Bool.not_true, Bool.not_false, true_implies, false_implies, implies_true, imp_self, decide_true, decide_false, Bool.and_true, Bool.true_and, Bool.and_false, Bool.false_and, Bool.or_false, Bool.or_true, Bool.false_or, Bool.true_or, beq_self_eq_true, eq_self_iff_true, ne_eq, Int.not_lt, Int.not_le, Nat.not_lt, Nat.not_le, BEq.rfl]) | (with_reducible refine ⟨_, (by first | exact lsAt_i | assumption), ?_⟩) | (with_reducible refine ⟨mty_l, ?_⟩) | (with_reducible refine frz_i ?_) | (with_reducible refine dget_ik ?_) | (with_reducible refine dget_id ?_) | (with_reducible refine ⟨isD_i, ?_⟩) | (with_reducible refine dput_ik (by first | assumption | omega) ?_) | (with_reducible refine ⟨mty_s, ?_⟩) | (with_reducible refine ⟨mty_t, ?_⟩) | (with_reducible refine ⟨_, ty_l (by first | exact lsAt_i | assumption), ?_⟩)))
    refine draw_i (by decide) (by decide) ok (by omega) fun far S1 a0 a1 ok1 => ?_
    (repeat (first | (simp only [exA, mFrzT, mFrz, mFrzV, mSortItems, mUn, mVar, mC, mBin, mNil, mCons, mCB, mTest, mAnd, mOr, mNot, mIf, mAndV, mOrV, mNotV, mTup, mLst, mChain, mCall, mCallK, reord, mYes, sNext, sSeq, sDrop, sRet, sRetN, sIf, sNever, sBreak, sCont, sAsg, sPar, sAug, sStore, gSet, gsNil, gsCons, gTupW, qI2, qI, qNeg, qAbs, qStrI, iLst, iStr, iRgn, iRg2, iEnu, iTpl, mDT, mBM, mBM0, mSl, oNone, oSome, sMatch, mGo, mDNew, mPairs, EndsD, EndsW.turn, win, forall_const, W.ls.injEq, Int.zero_add, List.filterMap_cons, List.filterMap_nil, List.cons_append, List.nil_append, List.length_cons, List.length_nil, List.all_cons, List.all_nil, List.any_cons, List.any_nil, List.getElem?_cons_zero, List.getElem?_cons_succ, List.getElem?_nil, List.set_cons_zero, List.set_cons_succ, reduceIte, reduceCtorEq, Nat.reduceEqDiff, Nat.reduceAdd, Nat.reduceSub, Nat.reduceMul, Nat.reduceLeDiff, Int.reduceToNat, Int.cast_ofNat_Int, Int.natCast_zero, Int.natCast_one, Int.reduceLE, Int.reduceLT, Int.reduceNeg, Int.reduceAdd, Int.reduceSub, Int.reducePow, Int.reduceEq, Int.reduceNe, Int.toNat_zero, Int.toNat_one, Int.ofNat_eq_natCast, Nat.reducePow, Nat.le_refl, ge_iff_le, gt_iff_lt, List.mem_cons, List.not_mem_nil, or_false, false_or, or_true, true_or, Option.some.injEq, exists_eq_left', exists_eq_left, exists_eq', exists_eq, exists_and_left, exists_and_right, and_assoc, true_and, and_true, false_and, and_false, exists_false, exists_const, not_true_eq_false, not_false_eq_true, W.int.injEq, W.bl.injEq, W.str.injEq, W.ref.injEq, W.tup.injEq, List.cons.injEq, Bool.true_eq_false, Bool.false_eq_true, decide_eq_true_eq, decide_eq_false_iff_not, Bool.not_eq_true', Bool.not_eq_false', Bool.not_true, Bool.not_false, true_implies, false_implies, implies_true, imp_self, decide_true, decide_false, Bool.and_true, Bool.true_and, Bool.and_false, Bool.false_and, Bool.or_false, Bool.or_true, Bool.false_or, Bool.true_or, beq_self_eq_true, eq_self_iff_true, ne_eq, Int.not_lt, Int.not_le, Nat.not_lt, Nat.not_le, BEq.rfl]) | (with_reducible refine ⟨_, (by first | exact lsAt_i | assumption), ?_⟩) | (with_reducible refine ⟨mty_l, ?_⟩) | (with_reducible refine frz_i ?_) | (with_reducible refine dget_ik ?_) | (with_reducible refine dget_id ?_) | (with_reducible refine ⟨isD_i, ?_⟩) | (with_reducible refine dput_ik (by first | assumption | omega) ?_) | (with_reducible refine ⟨mty_s, ?_⟩) | (with_reducible refine ⟨mty_t, ?_⟩) | (with_reducible refine ⟨_, ty_l (by first | exact lsAt_i | assumption), ?_⟩)))
    generalize ew : [W.int 0, W.int far, W.int (0 - far), W.non, W.str (Str.ofString ""), W.str (Str.ofString "1D H"), W.tup [W.int far, W.non], W.ls [W.int far]] = whats
    have hw : ∀ w, w ∈ whats → SzW 6 w := fun w hw => by
      rw [← ew] at hw
      simp only [List.mem_cons, List.not_mem_nil, or_false] at hw
      rcases hw with rfl | rfl | rfl | rfl | rfl | rfl | rfl | rfl
      · exact .int
      · exact .int
      · exact .int
      · exact .non
      · exact .str
      · exact .str
      · exact SzW.tup.mpr ⟨by simp, fun w hw => by
          simp only [List.mem_cons, List.not_mem_nil, or_false] at hw
          rcases hw with rfl | rfl
          · exact .int
          · exact .non⟩
      · exact sz_l1 .int
    have hl : whats.length = 8 := by rw [← ew]; rfl
    clear ew
    refine forL_i [5, 6, 7] (fun pre2 ρ' C' => C' = S1.at_ q ++ [(p, .lst nmsX)]) (items_w hl.symm) rfl ?_ ?_
    · rintro pre2 what post2 ρ2 C2 e2 rfl
      have hm : SzW 6 what := hw what (by rw [e2]; simp)
      (repeat (first | (simp only [exA, mFrzT, mFrz, mFrzV, mSortItems, mUn, mVar, mC, mBin, mNil, mCons, mCB, mTest, mAnd, mOr, mNot, mIf, mAndV, mOrV, mNotV, mTup, mLst, mChain, mCall, mCallK, reord, mYes, sNext, sSeq, sDrop, sRet, sRetN, sIf, sNever, sBreak, sCont, sAsg, sPar, sAug, sStore, gSet, gsNil, gsCons, gTupW, qI2, qI, qNeg, qAbs, qStrI, iLst, iStr, iRgn, iRg2, iEnu, iTpl, mDT, mBM, mBM0, mSl, oNone, oSome, sMatch, mGo, mDNew, mPairs, EndsD, EndsW.turn, win, forall_const, W.ls.injEq, Int.zero_add, List.filterMap_cons, List.filterMap_nil, List.cons_append, List.nil_append, List.length_cons, List.length_nil, List.all_cons, List.all_nil, List.any_cons, List.any_nil, List.getElem?_cons_zero, List.getElem?_cons_succ, List.getElem?_nil, List.set_cons_zero, List.set_cons_succ, reduceIte, reduceCtorEq, Nat.reduceEqDiff, Nat.reduceAdd, Nat.reduceSub, Nat.reduceMul, Nat.reduceLeDiff, Int.reduceToNat, Int.cast_ofNat_Int, Int.natCast_zero, Int.natCast_one, Int.reduceLE, Int.reduceLT, Int.reduceNeg, Int.reduceAdd, Int.reduceSub, Int.reducePow, Int.reduceEq, Int.reduceNe, Int.toNat_zero, Int.toNat_one, Int.ofNat_eq_natCast, Nat.reducePow, Nat.le_refl, ge_iff_le, gt_iff_lt, List.mem_cons, List.not_mem_nil, or_false, false_or, or_true, true_or, Option.some.injEq, exists_eq_left', exists_eq_left, exists_eq', exists_eq, exists_and_left, exists_and_right, and_assoc, true_and, and_true, false_and, and_false, exists_false, exists_const, not_true_eq_false, not_false_eq_true, W.int.injEq, W.bl.injEq, W.str.injEq, W.ref.injEq, W.tup.injEq, List.cons.injEq, Bool.true_eq_false, Bool.false_eq_true, decide_eq_true_eq, decide_eq_false_iff_not, Bool.not_eq_true', Bool.not_eq_false', Bool.not_true, Bool.not_false, true_implies, false_implies, implies_true, imp_self, decide_true, decide_false, Bool.and_true, Bool.true_and, Bool.and_false, Bool.false_and, Bool.or_false, Bool.or_true, Bool.false_or, Bool.true_or, beq_self_eq_true, eq_self_iff_true, ne_eq, Int.not_lt, Int.not_le, Nat.not_lt, Nat.not_le, BEq.rfl]) | (with_reducible refine ⟨_, (by first | exact lsAt_i | assumption), ?_⟩) | (with_reducible refine ⟨mty_l, ?_⟩) | (with_reducible refine frz_i ?_) | (with_reducible refine dget_ik ?_) | (with_reducible refine dget_id ?_) | (with_reducible refine ⟨isD_i, ?_⟩) | (with_reducible refine dput_ik (by first | assumption | omega) ?_) | (with_reducible refine ⟨mty_s, ?_⟩) | (with_reducible refine ⟨mty_t, ?_⟩) | (with_reducible refine ⟨_, ty_l (by first | exact lsAt_i | assumption), ?_⟩)))
      refine forL_i [6, 7] (fun pre3 ρ' C' => C' = S1.at_ q ++ [(p, .lst nmsX)]) items_r0 rfl ?_ ?_
      · rintro pre3 d post3 ρ3 C3 e3 rfl
        have hd : d < 7 := List.mem_range.mp (by rw [e3]; simp)
        (repeat (first | (simp only [exA, mFrzT, mFrz, mFrzV, mSortItems, mUn, mVar, mC, mBin, mNil, mCons, mCB, mTest, mAnd, mOr, mNot, mIf, mAndV, mOrV, mNotV, mTup, mLst, mChain, mCall, mCallK, reord, mYes, sNext, sSeq, sDrop, sRet, sRetN, sIf, sNever, sBreak, sCont, sAsg, sPar, sAug, sStore, gSet, gsNil, gsCons, gTupW, qI2, qI, qNeg, qAbs, qStrI, iLst, iStr, iRgn, iRg2, iEnu, iTpl, mDT, mBM, mBM0, mSl, oNone, oSome, sMatch, mGo, mDNew, mPairs, EndsD, EndsW.turn, win, forall_const, W.ls.injEq, Int.zero_add, List.filterMap_cons, List.filterMap_nil, List.cons_append, List.nil_append, List.length_cons, List.length_nil, List.all_cons, List.all_nil, List.any_cons, List.any_nil, List.getElem?_cons_zero, List.getElem?_cons_succ, List.getElem?_nil, List.set_cons_zero, List.set_cons_succ, reduceIte, reduceCtorEq, Nat.reduceEqDiff, Nat.reduceAdd, Nat.reduceSub, Nat.reduceMul, Nat.reduceLeDiff, Int.reduceToNat, Int.cast_ofNat_Int, Int.natCast_zero, Int.natCast_one, Int.reduceLE, Int.reduceLT, Int.reduceNeg, Int.reduceAdd, Int.reduceSub, Int.reducePow, Int.reduceEq, Int.reduceNe, Int.toNat_zero, Int.toNat_one, Int.ofNat_eq_natCast, Nat.reducePow, Nat.le_refl, ge_iff_le, gt_iff_lt, List.mem_cons, List.not_mem_nil, or_false, false_or, or_true, true_or, Option.some.injEq, exists_eq_left', exists_eq_left, exists_eq', exists_eq, exists_and_left, exists_and_right, and_assoc, true_and, and_true, false_and, and_false, exists_false, exists_const, not_true_eq_false, not_false_eq_true, W.int.injEq, W.bl.injEq, W.str.injEq, W.ref.injEq, W.tup.injEq, List.cons.injEq, Bool.true_eq_false, Bool.false_eq_true, decide_eq_true_eq, decide_eq_false_iff_not, Bool.not_eq_true', Bool.not_eq_false', Bool.not_true, Bool.not_false, true_implies, false_implies, implies_true, imp_self, decide_true, decide_false, Bool.and_true, Bool.true_and, Bool.and_false, Bool.false_and, Bool.or_false, Bool.or_true, Bool.false_or, Bool.true_or, beq_self_eq_true, eq_self_iff_true, ne_eq, Int.not_lt, Int.not_le, Nat.not_lt, Nat.not_le, BEq.rfl]) | (with_reducible refine ⟨_, (by first | exact lsAt_i | assumption), ?_⟩) | (with_reducible refine ⟨mty_l, ?_⟩) | (with_reducible refine frz_i ?_) | (with_reducible refine dget_ik ?_) | (with_reducible refine dget_id ?_) | (with_reducible refine ⟨isD_i, ?_⟩) | (with_reducible refine dput_ik (by first | assumption | omega) ?_) | (with_reducible refine ⟨mty_s, ?_⟩) | (with_reducible refine ⟨mty_t, ?_⟩) | (with_reducible refine ⟨_, ty_l (by first | exact lsAt_i | assumption), ?_⟩)))
        refine forL_i [7] (fun pre4 ρ' C' => C' = S1.at_ q ++ [(p, .lst nmsX)]) (items_l (xs := [false, true]) (enc := W.bl) (n := 2) rfl) rfl ?_ ?_
        · rintro pre4 b post4 ρ4 C4 e4 rfl
          (repeat (first | (simp only [exA, mFrzT, mFrz, mFrzV, mSortItems, mUn, mVar, mC, mBin, mNil, mCons, mCB, mTest, mAnd, mOr, mNot, mIf, mAndV, mOrV, mNotV, mTup, mLst, mChain, mCall, mCallK, reord, mYes, sNext, sSeq, sDrop, sRet, sRetN, sIf, sNever, sBreak, sCont, sAsg, sPar, sAug, sStore, gSet, gsNil, gsCons, gTupW, qI2, qI, qNeg, qAbs, qStrI, iLst, iStr, iRgn, iRg2, iEnu, iTpl, mDT, mBM, mBM0, mSl, oNone, oSome, sMatch, mGo, mDNew, mPairs, EndsD, EndsW.turn, win, forall_const, W.ls.injEq, Int.zero_add, List.filterMap_cons, List.filterMap_nil, List.cons_append, List.nil_append, List.length_cons, List.length_nil, List.all_cons, List.all_nil, List.any_cons, List.any_nil, List.getElem?_cons_zero, List.getElem?_cons_succ, List.getElem?_nil, List.set_cons_zero, List.set_cons_succ, reduceIte, reduceCtorEq, Nat.reduceEqDiff, Nat.reduceAdd, Nat.reduceSub, Nat.reduceMul, Nat.reduceLeDiff, Int.reduceToNat, Int.cast_ofNat_Int, Int.natCast_zero, Int.natCast_one, Int.reduceLE, Int.reduceLT, Int.reduceNeg, Int.reduceAdd, Int.reduceSub, Int.reducePow, Int.reduceEq, Int.reduceNe, Int.toNat_zero, Int.toNat_one, Int.ofNat_eq_natCast, Nat.reducePow, Nat.le_refl, ge_iff_le, gt_iff_lt, List.mem_cons, List.not_mem_nil, or_false, false_or, or_true, true_or, Option.some.injEq, exists_eq_left', exists_eq_left, exists_eq', exists_eq, exists_and_left, exists_and_right, and_assoc, true_and, and_true, false_and, and_false, exists_false, exists_const, not_true_eq_false, not_false_eq_true, W.int.injEq, W.bl.injEq, W.str.injEq, W.ref.injEq, W.tup.injEq, List.cons.injEq, Bool.true_eq_false, Bool.false_eq_true, decide_eq_true_eq, decide_eq_false_iff_not, Bool.not_eq_true', Bool.not_eq_false', Bool.not_true, Bool.not_false, true_implies, false_implies, implies_true, imp_self, decide_true, decide_false, Bool.and_true, Bool.true_and, Bool.and_false, Bool.false_and, Bool.or_false, Bool.or_true, Bool.false_or, Bool.true_or, beq_self_eq_true, eq_self_iff_true, ne_eq, Int.not_lt, Int.not_le, Nat.not_lt, Nat.not_le, BEq.rfl]) | (with_reducible refine ⟨_, (by first | exact lsAt_i | assumption), ?_⟩) | (with_reducible refine ⟨mty_l, ?_⟩) | (with_reducible refine frz_i ?_) | (with_reducible refine dget_ik ?_) | (with_reducible refine dget_id ?_) | (with_reducible refine ⟨isD_i, ?_⟩) | (with_reducible refine dput_ik (by first | assumption | omega) ?_) | (with_reducible refine ⟨mty_s, ?_⟩) | (with_reducible refine ⟨mty_t, ?_⟩) | (with_reducible refine ⟨_, ty_l (by first | exact lsAt_i | assumption), ?_⟩)))
          refine made_i fun a => err_i ?_
          (repeat (first | (simp only [nms_nth hd, exA, mFrzT, mFrz, mFrzV, mSortItems, mUn, mVar, mC, mBin, mNil, mCons, mCB, mTest, mAnd, mOr, mNot, mIf, mAndV, mOrV, mNotV, mTup, mLst, mChain, mCall, mCallK, reord, mYes, sNext, sSeq, sDrop, sRet, sRetN, sIf, sNever, sBreak, sCont, sAsg, sPar, sAug, sStore, gSet, gsNil, gsCons, gTupW, qI2, qI, qNeg, qAbs, qStrI, iLst, iStr, iRgn, iRg2, iEnu, iTpl, mDT, mBM, mBM0, mSl, oNone, oSome, sMatch, mGo, mDNew, mPairs, EndsD, EndsW.turn, win, forall_const, W.ls.injEq, Int.zero_add, List.filterMap_cons, List.filterMap_nil, List.cons_append, List.nil_append, List.length_cons, List.length_nil, List.all_cons, List.all_nil, List.any_cons, List.any_nil, List.getElem?_cons_zero, List.getElem?_cons_succ, List.getElem?_nil, List.set_cons_zero, List.set_cons_succ, reduceIte, reduceCtorEq, Nat.reduceEqDiff, Nat.reduceAdd, Nat.reduceSub, Nat.reduceMul, Nat.reduceLeDiff, Int.reduceToNat, Int.cast_ofNat_Int, Int.natCast_zero, Int.natCast_one, Int.reduceLE, Int.reduceLT, Int.reduceNeg, Int.reduceAdd, Int.reduceSub, Int.reducePow, Int.reduceEq, Int.reduceNe, Int.toNat_zero, Int.toNat_one, Int.ofNat_eq_natCast, Nat.reducePow, Nat.le_refl, ge_iff_le, gt_iff_lt, List.mem_cons, List.not_mem_nil, or_false, false_or, or_true, true_or, Option.some.injEq, exists_eq_left', exists_eq_left, exists_eq', exists_eq, exists_and_left, exists_and_right, and_assoc, true_and, and_true, false_and, and_false, exists_false, exists_const, not_true_eq_false, not_false_eq_true, W.int.injEq, W.bl.injEq, W.str.injEq, W.ref.injEq, W.tup.injEq, List.cons.injEq, Bool.true_eq_false, Bool.false_eq_true, decide_eq_true_eq, decide_eq_false_iff_not, Bool.not_eq_true', Bool.not_eq_false', Bool.not_true, Bool.not_false, true_implies, false_implies, implies_true, imp_self, decide_true, decide_false, Bool.and_true, Bool.true_and, Bool.and_false, Bool.false_and, Bool.or_false, Bool.or_true, Bool.false_or, Bool.true_or, beq_self_eq_true, eq_self_iff_true, ne_eq, Int.not_lt, Int.not_le, Nat.not_lt, Nat.not_le, BEq.rfl]) | (with_reducible refine ⟨_, (by first | exact lsAt_i | assumption), ?_⟩) | (with_reducible refine ⟨mty_l, ?_⟩) | (with_reducible refine frz_i ?_) | (with_reducible refine dget_ik ?_) | (with_reducible refine dget_id ?_) | (with_reducible refine ⟨isD_i, ?_⟩) | (with_reducible refine dput_ik (by first | assumption | omega) ?_) | (with_reducible refine ⟨mty_s, ?_⟩) | (with_reducible refine ⟨mty_t, ?_⟩) | (with_reducible refine ⟨_, ty_l (by first | exact lsAt_i | assumption), ?_⟩)))
          refine same_t (sz_l3 .str hm .bl) ?_
          (repeat (first | (simp only [exA, mFrzT, mFrz, mFrzV, mSortItems, mUn, mVar, mC, mBin, mNil, mCons, mCB, mTest, mAnd, mOr, mNot, mIf, mAndV, mOrV, mNotV, mTup, mLst, mChain, mCall, mCallK, reord, mYes, sNext, sSeq, sDrop, sRet, sRetN, sIf, sNever, sBreak, sCont, sAsg, sPar, sAug, sStore, gSet, gsNil, gsCons, gTupW, qI2, qI, qNeg, qAbs, qStrI, iLst, iStr, iRgn, iRg2, iEnu, iTpl, mDT, mBM, mBM0, mSl, oNone, oSome, sMatch, mGo, mDNew, mPairs, EndsD, EndsW.turn, win, forall_const, W.ls.injEq, Int.zero_add, List.filterMap_cons, List.filterMap_nil, List.cons_append, List.nil_append, List.length_cons, List.length_nil, List.all_cons, List.all_nil, List.any_cons, List.any_nil, List.getElem?_cons_zero, List.getElem?_cons_succ, List.getElem?_nil, List.set_cons_zero, List.set_cons_succ, reduceIte, reduceCtorEq, Nat.reduceEqDiff, Nat.reduceAdd, Nat.reduceSub, Nat.reduceMul, Nat.reduceLeDiff, Int.reduceToNat, Int.cast_ofNat_Int, Int.natCast_zero, Int.natCast_one, Int.reduceLE, Int.reduceLT, Int.reduceNeg, Int.reduceAdd, Int.reduceSub, Int.reducePow, Int.reduceEq, Int.reduceNe, Int.toNat_zero, Int.toNat_one, Int.ofNat_eq_natCast, Nat.reducePow, Nat.le_refl, ge_iff_le, gt_iff_lt, List.mem_cons, List.not_mem_nil, or_false, false_or, or_true, true_or, Option.some.injEq, exists_eq_left', exists_eq_left, exists_eq', exists_eq, exists_and_left, exists_and_right, and_assoc, true_and, and_true, false_and, and_false, exists_false, exists_const, not_true_eq_false, not_false_eq_true, W.int.injEq, W.bl.injEq, W.str.injEq, W.ref.injEq, W.tup.injEq, List.cons.injEq, Bool.true_eq_false, Bool.false_eq_true, decide_eq_true_eq, decide_eq_false_iff_not, Bool.not_eq_true', Bool.not_eq_false', Bool.not_true, Bool.not_false, true_implies, false_implies, implies_true, imp_self, decide_true, decide_false, Bool.and_true, Bool.true_and, Bool.and_false, Bool.false_and, Bool.or_false, Bool.or_true, Bool.false_or, Bool.true_or, beq_self_eq_true, eq_self_iff_true, ne_eq, Int.not_lt, Int.not_le, Nat.not_lt, Nat.not_le, BEq.rfl]) | (with_reducible refine ⟨_, (by first | exact lsAt_i | assumption), ?_⟩) | (with_reducible refine ⟨mty_l, ?_⟩) | (with_reducible refine frz_i ?_) | (with_reducible refine dget_ik ?_) | (with_reducible refine dget_id ?_) | (with_reducible refine ⟨isD_i, ?_⟩) | (with_reducible refine dput_ik (by first | assumption | omega) ?_) | (with_reducible refine ⟨mty_s, ?_⟩) | (with_reducible refine ⟨mty_t, ?_⟩) | (with_reducible refine ⟨_, ty_l (by first | exact lsAt_i | assumption), ?_⟩)))
          exact mx_i (C' := S1.at_ q ++ [(p, .lst nmsX)]) inferInstance rfl
        · rintro ρ4 C4 rfl
          (repeat (first | (simp only [mix_mix, exA, mFrzT, mFrz, mFrzV, mSortItems, mUn, mVar, mC, mBin, mNil, mCons, mCB, mTest, mAnd, mOr, mNot, mIf, mAndV, mOrV, mNotV, mTup, mLst, mChain, mCall, mCallK, reord, mYes, sNext, sSeq, sDrop, sRet, sRetN, sIf, sNever, sBreak, sCont, sAsg, sPar, sAug, sStore, gSet, gsNil, gsCons, gTupW, qI2, qI, qNeg, qAbs, qStrI, iLst, iStr, iRgn, iRg2, iEnu, iTpl, mDT, mBM, mBM0, mSl, oNone, oSome, sMatch, mGo, mDNew, mPairs, EndsD, EndsW.turn, win, forall_const, W.ls.injEq, Int.zero_add, List.filterMap_cons, List.filterMap_nil, List.cons_append, List.nil_append, List.length_cons, List.length_nil, List.all_cons, List.all_nil, List.any_cons, List.any_nil, List.getElem?_cons_zero, List.getElem?_cons_succ, List.getElem?_nil, List.set_cons_zero, List.set_cons_succ, reduceIte, reduceCtorEq, Nat.reduceEqDiff, Nat.reduceAdd, Nat.reduceSub, Nat.reduceMul, Nat.reduceLeDiff, Int.reduceToNat, Int.cast_ofNat_Int, Int.natCast_zero, Int.natCast_one, Int.reduceLE, Int.reduceLT, Int.reduceNeg, Int.reduceAdd, Int.reduceSub, Int.reducePow, Int.reduceEq, Int.reduceNe, Int.toNat_zero, Int.toNat_one, Int.ofNat_eq_natCast, Nat.reducePow, Nat.le_refl, ge_iff_le, gt_iff_lt, List.mem_cons, List.not_mem_nil, or_false, false_or, or_true, true_or, Option.some.injEq, exists_eq_left', exists_eq_left, exists_eq', exists_eq, exists_and_left, exists_and_right, and_assoc, true_and, and_true, false_and, and_false, exists_false, exists_const, not_true_eq_false, not_false_eq_true, W.int.injEq, W.bl.injEq, W.str.injEq, W.ref.injEq, W.tup.injEq, List.cons.injEq, Bool.true_eq_false, Bool.false_eq_true, decide_eq_true_eq, decide_eq_false_iff_not, Bool.not_eq_true', Bool.not_eq_false', Bool.not_true, Bool.not_false, true_implies, false_implies, implies_true, imp_self, decide_true, decide_false, Bool.and_true, Bool.true_and, Bool.and_false, Bool.false_and, Bool.or_false, Bool.or_true, Bool.false_or, Bool.true_or, beq_self_eq_true, eq_self_iff_true, ne_eq, Int.not_lt, Int.not_le, Nat.not_lt, Nat.not_le, BEq.rfl]) | (with_reducible refine ⟨_, (by first | exact lsAt_i | assumption), ?_⟩) | (with_reducible refine ⟨mty_l, ?_⟩) | (with_reducible refine frz_i ?_) | (with_reducible refine dget_ik ?_) | (with_reducible refine dget_id ?_) | (with_reducible refine ⟨isD_i, ?_⟩) | (with_reducible refine dput_ik (by first | assumption | omega) ?_) | (with_reducible refine ⟨mty_s, ?_⟩) | (with_reducible refine ⟨mty_t, ?_⟩) | (with_reducible refine ⟨_, ty_l (by first | exact lsAt_i | assumption), ?_⟩)))
          exact mx_2 (by decide) (by decide) (C' := S1.at_ q ++ [(p, .lst nmsX)]) inferInstance rfl
      · rintro ρ3 C3 rfl
        (repeat (first | (simp only [mix_mix, exA, mFrzT, mFrz, mFrzV, mSortItems, mUn, mVar, mC, mBin, mNil, mCons, mCB, mTest, mAnd, mOr, mNot, mIf, mAndV, mOrV, mNotV, mTup, mLst, mChain, mCall, mCallK, reord, mYes, sNext, sSeq, sDrop, sRet, sRetN, sIf, sNever, sBreak, sCont, sAsg, sPar, sAug, sStore, gSet, gsNil, gsCons, gTupW, qI2, qI, qNeg, qAbs, qStrI, iLst, iStr, iRgn, iRg2, iEnu, iTpl, mDT, mBM, mBM0, mSl, oNone, oSome, sMatch, mGo, mDNew, mPairs, EndsD, EndsW.turn, win, forall_const, W.ls.injEq, Int.zero_add, List.filterMap_cons, List.filterMap_nil, List.cons_append, List.nil_append, List.length_cons, List.length_nil, List.all_cons, List.all_nil, List.any_cons, List.any_nil, List.getElem?_cons_zero, List.getElem?_cons_succ, List.getElem?_nil, List.set_cons_zero, List.set_cons_succ, reduceIte, reduceCtorEq, Nat.reduceEqDiff, Nat.reduceAdd, Nat.reduceSub, Nat.reduceMul, Nat.reduceLeDiff, Int.reduceToNat, Int.cast_ofNat_Int, Int.natCast_zero, Int.natCast_one, Int.reduceLE, Int.reduceLT, Int.reduceNeg, Int.reduceAdd, Int.reduceSub, Int.reducePow, Int.reduceEq, Int.reduceNe, Int.toNat_zero, Int.toNat_one, Int.ofNat_eq_natCast, Nat.reducePow, Nat.le_refl, ge_iff_le, gt_iff_lt, List.mem_cons, List.not_mem_nil, or_false, false_or, or_true, true_or, Option.some.injEq, exists_eq_left', exists_eq_left, exists_eq', exists_eq, exists_and_left, exists_and_right, and_assoc, true_and, and_true, false_and, and_false, exists_false, exists_const, not_true_eq_false, not_false_eq_true, W.int.injEq, W.bl.injEq, W.str.injEq, W.ref.injEq, W.tup.injEq, List.cons.injEq, Bool.true_eq_false, Bool.false_eq_true, decide_eq_true_eq, decide_eq_false_iff_not, Bool.not_eq_true', Bool.not_eq_false', Bool.not_true, Bool.not_false, true_implies, false_implies, implies_true, imp_self, decide_true, decide_false, Bool.and_true, Bool.true_and, Bool.and_false, Bool.false_and, Bool.or_false, Bool.or_true, Bool.false_or, Bool.true_or, beq_self_eq_true, eq_self_iff_true, ne_eq, Int.not_lt, Int.not_le, Nat.not_lt, Nat.not_le, BEq.rfl]) | (with_reducible refine ⟨_, (by first | exact lsAt_i | assumption), ?_⟩) | (with_reducible refine ⟨mty_l, ?_⟩) | (with_reducible refine frz_i ?_) | (with_reducible refine dget_ik ?_) | (with_reducible refine dget_id ?_) | (with_reducible refine ⟨isD_i, ?_⟩) | (with_reducible refine dput_ik (by first | assumption | omega) ?_) | (with_reducible refine ⟨mty_s, ?_⟩) | (with_reducible refine ⟨mty_t, ?_⟩) | (with_reducible refine ⟨_, ty_l (by first | exact lsAt_i | assumption), ?_⟩)))
        exact mx_1 (by decide) (C' := S1.at_ q ++ [(p, .lst nmsX)]) inferInstance rfl
    · rintro ρ2 C2 rfl
      (repeat (first | (simp only [mix_mix, exA, mFrzT, mFrz, mFrzV, mSortItems, mUn, mVar, mC, mBin, mNil, mCons, mCB, mTest, mAnd, mOr, mNot, mIf, mAndV, mOrV, mNotV, mTup, mLst, mChain, mCall, mCallK, reord, mYes, sNext, sSeq, sDrop, sRet, sRetN, sIf, sNever, sBreak, sCont, sAsg, sPar, sAug, sStore, gSet, gsNil, gsCons, gTupW, qI2, qI, qNeg, qAbs, qStrI, iLst, iStr, iRgn, iRg2, iEnu, iTpl, mDT, mBM, mBM0, mSl, oNone, oSome, sMatch, mGo, mDNew, mPairs, EndsD, EndsW.turn, win, forall_const, W.ls.injEq, Int.zero_add, List.filterMap_cons, List.filterMap_nil, List.cons_append, List.nil_append, List.length_cons, List.length_nil, List.all_cons, List.all_nil, List.any_cons, List.any_nil, List.getElem?_cons_zero, List.getElem?_cons_succ, List.getElem?_nil, List.set_cons_zero, List.set_cons_succ, reduceIte, reduceCtorEq, Nat.reduceEqDiff, Nat.reduceAdd, Nat.reduceSub, Nat.reduceMul, Nat.reduceLeDiff, Int.reduceToNat, Int.cast_ofNat_Int, Int.natCast_zero, Int.natCast_one, Int.reduceLE, Int.reduceLT, Int.reduceNeg, Int.reduceAdd, Int.reduceSub, Int.reducePow, Int.reduceEq, Int.reduceNe, Int.toNat_zero, Int.toNat_one, Int.ofNat_eq_natCast, Nat.reducePow, Nat.le_refl, ge_iff_le, gt_iff_lt, List.mem_cons, List.not_mem_nil, or_false, false_or, or_true, true_or, Option.some.injEq, exists_eq_left', exists_eq_left, exists_eq', exists_eq, exists_and_left, exists_and_right, and_assoc, true_and, and_true, false_and, and_false, exists_false, exists_const, not_true_eq_false, not_false_eq_true, W.int.injEq, W.bl.injEq, W.str.injEq, W.ref.injEq, W.tup.injEq, List.cons.injEq, Bool.true_eq_false, Bool.false_eq_true, decide_eq_true_eq, decide_eq_false_iff_not, Bool.not_eq_true', Bool.not_eq_false', Bool.not_true, Bool.not_false, true_implies, false_implies, implies_true, imp_self, decide_true, decide_false, Bool.and_true, Bool.true_and, Bool.and_false, Bool.false_and, Bool.or_false, Bool.or_true, Bool.false_or, Bool.true_or, beq_self_eq_true, eq_self_iff_true, ne_eq, Int.not_lt, Int.not_le, Nat.not_lt, Nat.not_le, BEq.rfl]) | (with_reducible refine ⟨_, (by first | exact lsAt_i | assumption), ?_⟩) | (with_reducible refine ⟨mty_l, ?_⟩) | (with_reducible refine frz_i ?_) | (with_reducible refine dget_ik ?_) | (with_reducible refine dget_id ?_) | (with_reducible refine ⟨isD_i, ?_⟩) | (with_reducible refine dput_ik (by first | assumption | omega) ?_) | (with_reducible refine ⟨mty_s, ?_⟩) | (with_reducible refine ⟨mty_t, ?_⟩) | (with_reducible refine ⟨_, ty_l (by first | exact lsAt_i | assumption), ?_⟩)))
      exact mx_i (C' := S1.at_ q ++ [(p, .lst nmsX)]) inferInstance ⟨S1, ok1.up (by rw [List.length_append, List.length_singleton]; omega), rfl⟩
  · rintro ρ' C' ⟨S, ⟨ok, rfl⟩⟩
    (repeat (first | (simp only [exA, mFrzT, mFrz, mFrzV, mSortItems, mUn, mVar, mC, mBin, mNil, mCons, mCB, mTest, mAnd, mOr, mNot, mIf, mAndV, mOrV, mNotV, mTup, mLst, mChain, mCall, mCallK, reord, mYes, sNext, sSeq, sDrop, sRet, sRetN, sIf, sNever, sBreak, sCont, sAsg, sPar, sAug, sStore, gSet, gsNil, gsCons, gTupW, qI2, qI, qNeg, qAbs, qStrI, iLst, iStr, iRgn, iRg2, iEnu, iTpl, mDT, mBM, mBM0, mSl, oNone, oSome, sMatch, mGo, mDNew, mPairs, EndsD, EndsW.turn, win, forall_const, W.ls.injEq, Int.zero_add, List.filterMap_cons, List.filterMap_nil, List.cons_append, List.nil_append, List.length_cons, List.length_nil, List.all_cons, List.all_nil, List.any_cons, List.any_nil, List.getElem?_cons_zero, List.getElem?_cons_succ, List.getElem?_nil, List.set_cons_zero, List.set_cons_succ, reduceIte, reduceCtorEq, Nat.reduceEqDiff, Nat.reduceAdd, Nat.reduceSub, Nat.reduceMul, Nat.reduceLeDiff, Int.reduceToNat, Int.cast_ofNat_Int, Int.natCast_zero, Int.natCast_one, Int.reduceLE, Int.reduceLT, Int.reduceNeg, Int.reduceAdd, Int.reduceSub, Int.reducePow, Int.reduceEq, Int.reduceNe, Int.toNat_zero, Int.toNat_one, Int.ofNat_eq_natCast, Nat.reducePow, Nat.le_refl, ge_iff_le, gt_iff_lt, List.mem_cons, List.not_mem_nil, or_false, false_or, or_true, true_or, Option.some.injEq, exists_eq_left', exists_eq_left, exists_eq', exists_eq, exists_and_left, exists_and_right, and_assoc, true_and, and_true, false_and, and_false, exists_false, exists_const, not_true_eq_false, not_false_eq_true, W.int.injEq, W.bl.injEq, W.str.injEq, W.ref.injEq, W.tup.injEq, List.cons.injEq, Bool.true_eq_false, Bool.false_eq_true, decide_eq_true_eq, decide_eq_false_iff_not, Bool.not_eq_true', Bool.not_eq_false', Bool.not_true, Bool.not_false, true_implies, false_implies, implies_true, imp_self, decide_true, decide_false, Bool.and_true, Bool.true_and, Bool.and_false, Bool.false_and, Bool.or_false, Bool.or_true, Bool.false_or, Bool.true_or, beq_self_eq_true, eq_self_iff_true, ne_eq, Int.not_lt, Int.not_le, Nat.not_lt, Nat.not_le, BEq.rfl]) | (with_reducible refine ⟨_, (by first | exact lsAt_i | assumption), ?_⟩) | (with_reducible refine ⟨mty_l, ?_⟩) | (with_reducible refine frz_i ?_) | (with_reducible refine dget_ik ?_) | (with_reducible refine dget_id ?_) | (with_reducible refine ⟨isD_i, ?_⟩) | (with_reducible refine dput_ik (by first | assumption | omega) ?_) | (with_reducible refine ⟨mty_s, ?_⟩) | (with_reducible refine ⟨mty_t, ?_⟩) | (with_reducible refine ⟨_, ty_l (by first | exact lsAt_i | assumption), ?_⟩)))
    exact ⟨_, inferInstance, k⟩
end SL
namespace SL
open PySem PySem.Spec PyProof.Rows L2
variable [clz : Cls]
def kb__law_source : List KSig := []
def kb__law_draw : List KSig := []
def kb__law_same : List KSig := []
def kb__law_error : List KSig := []
def kb__law_made : List KSig := []
def kb_law : List KSig := []
def topS (i : Nat) : Stmt := PySem.Challenge.pw_goalcolumn_k01_errors_and_their_values.main.body.getD i (.Pass ⟨0, 0, 0, 0⟩)
abbrev s__law_source : Stmt := topS 10
theorem sc__law_source : FnScope ["script", "mix", "digits", "cell", "size"] ["script"] (defScope s__law_source) := ⟨rfl, rfl, rfl, by decide +kernel, rfl, by decide +kernel, by decide +kernel⟩
abbrev s__law_draw : Stmt := topS 11
theorem sc__law_draw : FnScope ["source", "many", "drawn", "mixed"] ["source", "many"] (defScope s__law_draw) := ⟨rfl, rfl, rfl, by decide +kernel, rfl, by decide +kernel, by decide +kernel⟩
abbrev s__law_same : Stmt := topS 12
theorem sc__law_same : FnScope ["found", "wanted", "k"] ["found", "wanted"] (defScope s__law_same) := ⟨rfl, rfl, rfl, by decide +kernel, rfl, by decide +kernel, by decide +kernel⟩
abbrev s__law_error : Stmt := topS 13
theorem sc__law_error : FnScope ["e", "held", "names", "name", "is_one"] ["e"] (defScope s__law_error) := ⟨rfl, rfl, rfl, by decide +kernel, rfl, by decide +kernel, by decide +kernel⟩
abbrev s__law_made : Stmt := topS 14
theorem sc__law_made : FnScope ["door", "what", "by_name"] ["door", "what", "by_name"] (defScope s__law_made) := ⟨rfl, rfl, rfl, by decide +kernel, rfl, by decide +kernel, by decide +kernel⟩
abbrev s_law : Stmt := topS 15
theorem sc_law : FnScope ["script", "source", "names", "k", "far", "what", "door", "by_name"] ["script"] (defScope s_law) := ⟨rfl, rfl, rfl, by decide +kernel, rfl, by decide +kernel, by decide +kernel⟩
abbrev si_tx : Stmt := inClass (topS 2) 0
theorem sci_tx : FnScope ["self", "value"] ["self", "value"] (defScope si_tx) := ⟨rfl, rfl, rfl, by decide +kernel, rfl, by decide +kernel, by decide +kernel⟩
abbrev si_cu : Stmt := inClass (topS 3) 0
theorem sci_cu : FnScope ["self", "value"] ["self", "value"] (defScope si_cu) := ⟨rfl, rfl, rfl, by decide +kernel, rfl, by decide +kernel, by decide +kernel⟩
abbrev si_cm : Stmt := inClass (topS 4) 0
theorem sci_cm : FnScope ["self", "value"] ["self", "value"] (defScope si_cm) := ⟨rfl, rfl, rfl, by decide +kernel, rfl, by decide +kernel, by decide +kernel⟩
abbrev si_im : Stmt := inClass (topS 5) 0
theorem sci_im : FnScope ["self", "value"] ["self", "value"] (defScope si_im) := ⟨rfl, rfl, rfl, by decide +kernel, rfl, by decide +kernel, by decide +kernel⟩
abbrev si_nu : Stmt := inClass (topS 6) 0
theorem sci_nu : FnScope ["self", "value"] ["self", "value"] (defScope si_nu) := ⟨rfl, rfl, rfl, by decide +kernel, rfl, by decide +kernel, by decide +kernel⟩
abbrev si_un : Stmt := inClass (topS 7) 0
theorem sci_un : FnScope ["self", "value"] ["self", "value"] (defScope si_un) := ⟨rfl, rfl, rfl, by decide +kernel, rfl, by decide +kernel, by decide +kernel⟩
abbrev si_ur : Stmt := inClass (topS 8) 0
theorem sci_ur : FnScope ["self", "value"] ["self", "value"] (defScope si_ur) := ⟨rfl, rfl, rfl, by decide +kernel, rfl, by decide +kernel, by decide +kernel⟩
structure Top (K : PySem.W.Frag) (w : World) (mg : Str → Option Value) : Prop where
  m_base : mg "CursorError" = some (.ref Cls.base)
  b_base : BaseK K Cls.base
  m_cm : mg "InvalidCommand" = some (.ref (Cls.ad .cm))
  a_cm : AskK K (Cls.ad .cm)
  m_cu : mg "InvalidCursor" = some (.ref (Cls.ad .cu))
  a_cu : AskK K (Cls.ad .cu)
  m_im : mg "Impossible" = some (.ref (Cls.ad .im))
  a_im : AskK K (Cls.ad .im)
  m_nu : mg "InvalidNumber" = some (.ref (Cls.ad .nu))
  a_nu : AskK K (Cls.ad .nu)
  m_tx : mg "InvalidText" = some (.ref (Cls.ad .tx))
  a_tx : AskK K (Cls.ad .tx)
  m_un : mg "NothingToUndo" = some (.ref (Cls.ad .un))
  a_un : AskK K (Cls.ad .un)
  m_ur : mg "Unreadable" = some (.ref (Cls.ad .ur))
  a_ur : AskK K (Cls.ad .ur)
  r_tx : RaisK K (Cls.ad .tx)
  i_tx : ∃ fI fd, PySem.W.findIn K (.ref (Cls.ad .tx)) "__init__" = some (some (.ref fI)) ∧ PySem.W.typeIn K (.ref fI) = some (.type "function") ∧ Fun K "__init__" "InvalidText.__init__" si_tx fI fd
  s_tx_base : PySem.W.subIn K (.ref (Cls.ad .tx)) (.ref Cls.base) = some true
  e_tx_base : (Cls.ad .tx == Cls.base) = false
  ns_tx : NS K (.ref (Cls.ad .tx))
  s_tx_cm : PySem.W.subIn K (.ref (Cls.ad .tx)) (.ref (Cls.ad .cm)) = some false
  e_tx_cm : (Cls.ad .tx == Cls.ad .cm) = false
  s_tx_cu : PySem.W.subIn K (.ref (Cls.ad .tx)) (.ref (Cls.ad .cu)) = some false
  e_tx_cu : (Cls.ad .tx == Cls.ad .cu) = false
  s_tx_im : PySem.W.subIn K (.ref (Cls.ad .tx)) (.ref (Cls.ad .im)) = some false
  e_tx_im : (Cls.ad .tx == Cls.ad .im) = false
  s_tx_nu : PySem.W.subIn K (.ref (Cls.ad .tx)) (.ref (Cls.ad .nu)) = some false
  e_tx_nu : (Cls.ad .tx == Cls.ad .nu) = false
  s_tx_un : PySem.W.subIn K (.ref (Cls.ad .tx)) (.ref (Cls.ad .un)) = some false
  e_tx_un : (Cls.ad .tx == Cls.ad .un) = false
  s_tx_ur : PySem.W.subIn K (.ref (Cls.ad .tx)) (.ref (Cls.ad .ur)) = some false
  e_tx_ur : (Cls.ad .tx == Cls.ad .ur) = false
  r_cu : RaisK K (Cls.ad .cu)
  i_cu : ∃ fI fd, PySem.W.findIn K (.ref (Cls.ad .cu)) "__init__" = some (some (.ref fI)) ∧ PySem.W.typeIn K (.ref fI) = some (.type "function") ∧ Fun K "__init__" "InvalidCursor.__init__" si_cu fI fd
  s_cu_base : PySem.W.subIn K (.ref (Cls.ad .cu)) (.ref Cls.base) = some true
  e_cu_base : (Cls.ad .cu == Cls.base) = false
  ns_cu : NS K (.ref (Cls.ad .cu))
  s_cu_cm : PySem.W.subIn K (.ref (Cls.ad .cu)) (.ref (Cls.ad .cm)) = some false
  e_cu_cm : (Cls.ad .cu == Cls.ad .cm) = false
  s_cu_im : PySem.W.subIn K (.ref (Cls.ad .cu)) (.ref (Cls.ad .im)) = some false
  e_cu_im : (Cls.ad .cu == Cls.ad .im) = false
  s_cu_nu : PySem.W.subIn K (.ref (Cls.ad .cu)) (.ref (Cls.ad .nu)) = some false
  e_cu_nu : (Cls.ad .cu == Cls.ad .nu) = false
  s_cu_tx : PySem.W.subIn K (.ref (Cls.ad .cu)) (.ref (Cls.ad .tx)) = some false
  e_cu_tx : (Cls.ad .cu == Cls.ad .tx) = false
  s_cu_un : PySem.W.subIn K (.ref (Cls.ad .cu)) (.ref (Cls.ad .un)) = some false
  e_cu_un : (Cls.ad .cu == Cls.ad .un) = false
  s_cu_ur : PySem.W.subIn K (.ref (Cls.ad .cu)) (.ref (Cls.ad .ur)) = some false
  e_cu_ur : (Cls.ad .cu == Cls.ad .ur) = false
  r_cm : RaisK K (Cls.ad .cm)
  i_cm : ∃ fI fd, PySem.W.findIn K (.ref (Cls.ad .cm)) "__init__" = some (some (.ref fI)) ∧ PySem.W.typeIn K (.ref fI) = some (.type "function") ∧ Fun K "__init__" "InvalidCommand.__init__" si_cm fI fd
  s_cm_base : PySem.W.subIn K (.ref (Cls.ad .cm)) (.ref Cls.base) = some true
  e_cm_base : (Cls.ad .cm == Cls.base) = false
  ns_cm : NS K (.ref (Cls.ad .cm))
  s_cm_cu : PySem.W.subIn K (.ref (Cls.ad .cm)) (.ref (Cls.ad .cu)) = some false
  e_cm_cu : (Cls.ad .cm == Cls.ad .cu) = false
  s_cm_im : PySem.W.subIn K (.ref (Cls.ad .cm)) (.ref (Cls.ad .im)) = some false
  e_cm_im : (Cls.ad .cm == Cls.ad .im) = false
  s_cm_nu : PySem.W.subIn K (.ref (Cls.ad .cm)) (.ref (Cls.ad .nu)) = some false
  e_cm_nu : (Cls.ad .cm == Cls.ad .nu) = false
  s_cm_tx : PySem.W.subIn K (.ref (Cls.ad .cm)) (.ref (Cls.ad .tx)) = some false
  e_cm_tx : (Cls.ad .cm == Cls.ad .tx) = false
  s_cm_un : PySem.W.subIn K (.ref (Cls.ad .cm)) (.ref (Cls.ad .un)) = some false
  e_cm_un : (Cls.ad .cm == Cls.ad .un) = false
  s_cm_ur : PySem.W.subIn K (.ref (Cls.ad .cm)) (.ref (Cls.ad .ur)) = some false
  e_cm_ur : (Cls.ad .cm == Cls.ad .ur) = false
  r_im : RaisK K (Cls.ad .im)
  i_im : ∃ fI fd, PySem.W.findIn K (.ref (Cls.ad .im)) "__init__" = some (some (.ref fI)) ∧ PySem.W.typeIn K (.ref fI) = some (.type "function") ∧ Fun K "__init__" "Impossible.__init__" si_im fI fd
  s_im_base : PySem.W.subIn K (.ref (Cls.ad .im)) (.ref Cls.base) = some true
  e_im_base : (Cls.ad .im == Cls.base) = false
  ns_im : NS K (.ref (Cls.ad .im))
  s_im_cm : PySem.W.subIn K (.ref (Cls.ad .im)) (.ref (Cls.ad .cm)) = some false
  e_im_cm : (Cls.ad .im == Cls.ad .cm) = false
  s_im_cu : PySem.W.subIn K (.ref (Cls.ad .im)) (.ref (Cls.ad .cu)) = some false
  e_im_cu : (Cls.ad .im == Cls.ad .cu) = false
  s_im_nu : PySem.W.subIn K (.ref (Cls.ad .im)) (.ref (Cls.ad .nu)) = some false
  e_im_nu : (Cls.ad .im == Cls.ad .nu) = false
  s_im_tx : PySem.W.subIn K (.ref (Cls.ad .im)) (.ref (Cls.ad .tx)) = some false
  e_im_tx : (Cls.ad .im == Cls.ad .tx) = false
  s_im_un : PySem.W.subIn K (.ref (Cls.ad .im)) (.ref (Cls.ad .un)) = some false
  e_im_un : (Cls.ad .im == Cls.ad .un) = false
  s_im_ur : PySem.W.subIn K (.ref (Cls.ad .im)) (.ref (Cls.ad .ur)) = some false
  e_im_ur : (Cls.ad .im == Cls.ad .ur) = false
  r_nu : RaisK K (Cls.ad .nu)
  i_nu : ∃ fI fd, PySem.W.findIn K (.ref (Cls.ad .nu)) "__init__" = some (some (.ref fI)) ∧ PySem.W.typeIn K (.ref fI) = some (.type "function") ∧ Fun K "__init__" "InvalidNumber.__init__" si_nu fI fd
  s_nu_base : PySem.W.subIn K (.ref (Cls.ad .nu)) (.ref Cls.base) = some true
  e_nu_base : (Cls.ad .nu == Cls.base) = false
  ns_nu : NS K (.ref (Cls.ad .nu))
  s_nu_cm : PySem.W.subIn K (.ref (Cls.ad .nu)) (.ref (Cls.ad .cm)) = some false
  e_nu_cm : (Cls.ad .nu == Cls.ad .cm) = false
  s_nu_cu : PySem.W.subIn K (.ref (Cls.ad .nu)) (.ref (Cls.ad .cu)) = some false
  e_nu_cu : (Cls.ad .nu == Cls.ad .cu) = false
  s_nu_im : PySem.W.subIn K (.ref (Cls.ad .nu)) (.ref (Cls.ad .im)) = some false
  e_nu_im : (Cls.ad .nu == Cls.ad .im) = false
  s_nu_tx : PySem.W.subIn K (.ref (Cls.ad .nu)) (.ref (Cls.ad .tx)) = some false
  e_nu_tx : (Cls.ad .nu == Cls.ad .tx) = false
  s_nu_un : PySem.W.subIn K (.ref (Cls.ad .nu)) (.ref (Cls.ad .un)) = some false
  e_nu_un : (Cls.ad .nu == Cls.ad .un) = false
  s_nu_ur : PySem.W.subIn K (.ref (Cls.ad .nu)) (.ref (Cls.ad .ur)) = some false
  e_nu_ur : (Cls.ad .nu == Cls.ad .ur) = false
  r_un : RaisK K (Cls.ad .un)
  i_un : ∃ fI fd, PySem.W.findIn K (.ref (Cls.ad .un)) "__init__" = some (some (.ref fI)) ∧ PySem.W.typeIn K (.ref fI) = some (.type "function") ∧ Fun K "__init__" "NothingToUndo.__init__" si_un fI fd
  s_un_base : PySem.W.subIn K (.ref (Cls.ad .un)) (.ref Cls.base) = some true
  e_un_base : (Cls.ad .un == Cls.base) = false
  ns_un : NS K (.ref (Cls.ad .un))
  s_un_cm : PySem.W.subIn K (.ref (Cls.ad .un)) (.ref (Cls.ad .cm)) = some false
  e_un_cm : (Cls.ad .un == Cls.ad .cm) = false
  s_un_cu : PySem.W.subIn K (.ref (Cls.ad .un)) (.ref (Cls.ad .cu)) = some false
  e_un_cu : (Cls.ad .un == Cls.ad .cu) = false
  s_un_im : PySem.W.subIn K (.ref (Cls.ad .un)) (.ref (Cls.ad .im)) = some false
  e_un_im : (Cls.ad .un == Cls.ad .im) = false
  s_un_nu : PySem.W.subIn K (.ref (Cls.ad .un)) (.ref (Cls.ad .nu)) = some false
  e_un_nu : (Cls.ad .un == Cls.ad .nu) = false
  s_un_tx : PySem.W.subIn K (.ref (Cls.ad .un)) (.ref (Cls.ad .tx)) = some false
  e_un_tx : (Cls.ad .un == Cls.ad .tx) = false
  s_un_ur : PySem.W.subIn K (.ref (Cls.ad .un)) (.ref (Cls.ad .ur)) = some false
  e_un_ur : (Cls.ad .un == Cls.ad .ur) = false
  r_ur : RaisK K (Cls.ad .ur)
  i_ur : ∃ fI fd, PySem.W.findIn K (.ref (Cls.ad .ur)) "__init__" = some (some (.ref fI)) ∧ PySem.W.typeIn K (.ref fI) = some (.type "function") ∧ Fun K "__init__" "Unreadable.__init__" si_ur fI fd
  s_ur_base : PySem.W.subIn K (.ref (Cls.ad .ur)) (.ref Cls.base) = some true
  e_ur_base : (Cls.ad .ur == Cls.base) = false
  ns_ur : NS K (.ref (Cls.ad .ur))
  s_ur_cm : PySem.W.subIn K (.ref (Cls.ad .ur)) (.ref (Cls.ad .cm)) = some false
  e_ur_cm : (Cls.ad .ur == Cls.ad .cm) = false
  s_ur_cu : PySem.W.subIn K (.ref (Cls.ad .ur)) (.ref (Cls.ad .cu)) = some false
  e_ur_cu : (Cls.ad .ur == Cls.ad .cu) = false
  s_ur_im : PySem.W.subIn K (.ref (Cls.ad .ur)) (.ref (Cls.ad .im)) = some false
  e_ur_im : (Cls.ad .ur == Cls.ad .im) = false
  s_ur_nu : PySem.W.subIn K (.ref (Cls.ad .ur)) (.ref (Cls.ad .nu)) = some false
  e_ur_nu : (Cls.ad .ur == Cls.ad .nu) = false
  s_ur_tx : PySem.W.subIn K (.ref (Cls.ad .ur)) (.ref (Cls.ad .tx)) = some false
  e_ur_tx : (Cls.ad .ur == Cls.ad .tx) = false
  s_ur_un : PySem.W.subIn K (.ref (Cls.ad .ur)) (.ref (Cls.ad .un)) = some false
  e_ur_un : (Cls.ad .ur == Cls.ad .un) = false
  h__law_source : Has K mg "_law_source" s__law_source
  h__law_draw : Has K mg "_law_draw" s__law_draw
  h__law_same : Has K mg "_law_same" s__law_same
  h__law_error : Has K mg "_law_error" s__law_error
  h__law_made : Has K mg "_law_made" s__law_made
  h_law : Has K mg "law" s_law
  n_ValueError : mg "ValueError" = none
  n_bool : mg "bool" = none
  n_int : mg "int" = none
  n_isinstance : mg "isinstance" = none
  n_len : mg "len" = none
  n_list : mg "list" = none
  n_max : mg "max" = none
  n_min : mg "min" = none
  n_range : mg "range" = none
  n_str : mg "str" = none
  n_tuple : mg "tuple" = none
section
variable {P : Program} {w : World} {K : PySem.W.Frag} {mg : Str → Option Value} {base : Heap}
theorem Top.x_all (T : Top K w mg) : ∀ k, k ∈ [.tx, .cu, .cm, .im, .nu, .un, .ur] → ExcK K (Cls.ad k) := cons_k (T.r_tx.ex) (cons_k (T.r_cu.ex) (cons_k (T.r_cm.ex) (cons_k (T.r_im.ex) (cons_k (T.r_nu.ex) (cons_k (T.r_un.ex) (cons_k (T.r_ur.ex) (nil_k)))))))
theorem Top.ns_all (T : Top K w mg) : ∀ k, k ∈ [.tx, .cu, .cm, .im, .nu, .un, .ur] → NS K (.ref (Cls.ad k)) := cons_k (T.ns_tx) (cons_k (T.ns_cu) (cons_k (T.ns_cm) (cons_k (T.ns_im) (cons_k (T.ns_nu) (cons_k (T.ns_un) (cons_k (T.ns_ur) (nil_k)))))))
theorem kit_cm (T : Top K w mg) : ∀ k, k ∈ [.tx, .cu, .cm, .im, .nu, .un, .ur] → PySem.W.kitOne K (.ref (Cls.ad k)) (.ref (Cls.ad .cm)) = some (k == .cm) := cons_k (kit_other T.e_tx_cm T.a_cm.hd T.a_cm.ty T.s_tx_cm) (cons_k (kit_other T.e_cu_cm T.a_cm.hd T.a_cm.ty T.s_cu_cm) (cons_k (kit_self) (cons_k (kit_other T.e_im_cm T.a_cm.hd T.a_cm.ty T.s_im_cm) (cons_k (kit_other T.e_nu_cm T.a_cm.hd T.a_cm.ty T.s_nu_cm) (cons_k (kit_other T.e_un_cm T.a_cm.hd T.a_cm.ty T.s_un_cm) (cons_k (kit_other T.e_ur_cm T.a_cm.hd T.a_cm.ty T.s_ur_cm) (nil_k)))))))
theorem kit_cu (T : Top K w mg) : ∀ k, k ∈ [.tx, .cu, .cm, .im, .nu, .un, .ur] → PySem.W.kitOne K (.ref (Cls.ad k)) (.ref (Cls.ad .cu)) = some (k == .cu) := cons_k (kit_other T.e_tx_cu T.a_cu.hd T.a_cu.ty T.s_tx_cu) (cons_k (kit_self) (cons_k (kit_other T.e_cm_cu T.a_cu.hd T.a_cu.ty T.s_cm_cu) (cons_k (kit_other T.e_im_cu T.a_cu.hd T.a_cu.ty T.s_im_cu) (cons_k (kit_other T.e_nu_cu T.a_cu.hd T.a_cu.ty T.s_nu_cu) (cons_k (kit_other T.e_un_cu T.a_cu.hd T.a_cu.ty T.s_un_cu) (cons_k (kit_other T.e_ur_cu T.a_cu.hd T.a_cu.ty T.s_ur_cu) (nil_k)))))))
theorem kit_im (T : Top K w mg) : ∀ k, k ∈ [.tx, .cu, .cm, .im, .nu, .un, .ur] → PySem.W.kitOne K (.ref (Cls.ad k)) (.ref (Cls.ad .im)) = some (k == .im) := cons_k (kit_other T.e_tx_im T.a_im.hd T.a_im.ty T.s_tx_im) (cons_k (kit_other T.e_cu_im T.a_im.hd T.a_im.ty T.s_cu_im) (cons_k (kit_other T.e_cm_im T.a_im.hd T.a_im.ty T.s_cm_im) (cons_k (kit_self) (cons_k (kit_other T.e_nu_im T.a_im.hd T.a_im.ty T.s_nu_im) (cons_k (kit_other T.e_un_im T.a_im.hd T.a_im.ty T.s_un_im) (cons_k (kit_other T.e_ur_im T.a_im.hd T.a_im.ty T.s_ur_im) (nil_k)))))))
theorem kit_nu (T : Top K w mg) : ∀ k, k ∈ [.tx, .cu, .cm, .im, .nu, .un, .ur] → PySem.W.kitOne K (.ref (Cls.ad k)) (.ref (Cls.ad .nu)) = some (k == .nu) := cons_k (kit_other T.e_tx_nu T.a_nu.hd T.a_nu.ty T.s_tx_nu) (cons_k (kit_other T.e_cu_nu T.a_nu.hd T.a_nu.ty T.s_cu_nu) (cons_k (kit_other T.e_cm_nu T.a_nu.hd T.a_nu.ty T.s_cm_nu) (cons_k (kit_other T.e_im_nu T.a_nu.hd T.a_nu.ty T.s_im_nu) (cons_k (kit_self) (cons_k (kit_other T.e_un_nu T.a_nu.hd T.a_nu.ty T.s_un_nu) (cons_k (kit_other T.e_ur_nu T.a_nu.hd T.a_nu.ty T.s_ur_nu) (nil_k)))))))
theorem kit_tx (T : Top K w mg) : ∀ k, k ∈ [.tx, .cu, .cm, .im, .nu, .un, .ur] → PySem.W.kitOne K (.ref (Cls.ad k)) (.ref (Cls.ad .tx)) = some (k == .tx) := cons_k (kit_self) (cons_k (kit_other T.e_cu_tx T.a_tx.hd T.a_tx.ty T.s_cu_tx) (cons_k (kit_other T.e_cm_tx T.a_tx.hd T.a_tx.ty T.s_cm_tx) (cons_k (kit_other T.e_im_tx T.a_tx.hd T.a_tx.ty T.s_im_tx) (cons_k (kit_other T.e_nu_tx T.a_tx.hd T.a_tx.ty T.s_nu_tx) (cons_k (kit_other T.e_un_tx T.a_tx.hd T.a_tx.ty T.s_un_tx) (cons_k (kit_other T.e_ur_tx T.a_tx.hd T.a_tx.ty T.s_ur_tx) (nil_k)))))))
theorem kit_un (T : Top K w mg) : ∀ k, k ∈ [.tx, .cu, .cm, .im, .nu, .un, .ur] → PySem.W.kitOne K (.ref (Cls.ad k)) (.ref (Cls.ad .un)) = some (k == .un) := cons_k (kit_other T.e_tx_un T.a_un.hd T.a_un.ty T.s_tx_un) (cons_k (kit_other T.e_cu_un T.a_un.hd T.a_un.ty T.s_cu_un) (cons_k (kit_other T.e_cm_un T.a_un.hd T.a_un.ty T.s_cm_un) (cons_k (kit_other T.e_im_un T.a_un.hd T.a_un.ty T.s_im_un) (cons_k (kit_other T.e_nu_un T.a_un.hd T.a_un.ty T.s_nu_un) (cons_k (kit_self) (cons_k (kit_other T.e_ur_un T.a_un.hd T.a_un.ty T.s_ur_un) (nil_k)))))))
theorem kit_ur (T : Top K w mg) : ∀ k, k ∈ [.tx, .cu, .cm, .im, .nu, .un, .ur] → PySem.W.kitOne K (.ref (Cls.ad k)) (.ref (Cls.ad .ur)) = some (k == .ur) := cons_k (kit_other T.e_tx_ur T.a_ur.hd T.a_ur.ty T.s_tx_ur) (cons_k (kit_other T.e_cu_ur T.a_ur.hd T.a_ur.ty T.s_cu_ur) (cons_k (kit_other T.e_cm_ur T.a_ur.hd T.a_ur.ty T.s_cm_ur) (cons_k (kit_other T.e_im_ur T.a_ur.hd T.a_ur.ty T.s_im_ur) (cons_k (kit_other T.e_nu_ur T.a_ur.hd T.a_ur.ty T.s_nu_ur) (cons_k (kit_other T.e_un_ur T.a_ur.hd T.a_ur.ty T.s_un_ur) (cons_k (kit_self) (nil_k)))))))
theorem kit_base (T : Top K w mg) : ∀ k, k ∈ [.tx, .cu, .cm, .im, .nu, .un, .ur] → PySem.W.kitOne K (.ref (Cls.ad k)) (.ref Cls.base) = some true := cons_k (kit_other T.e_tx_base T.b_base.hd T.b_base.ty T.s_tx_base) (cons_k (kit_other T.e_cu_base T.b_base.hd T.b_base.ty T.s_cu_base) (cons_k (kit_other T.e_cm_base T.b_base.hd T.b_base.ty T.s_cm_base) (cons_k (kit_other T.e_im_base T.b_base.hd T.b_base.ty T.s_im_base) (cons_k (kit_other T.e_nu_base T.b_base.hd T.b_base.ty T.s_nu_base) (cons_k (kit_other T.e_un_base T.b_base.hd T.b_base.ty T.s_un_base) (cons_k (kit_other T.e_ur_base T.b_base.hd T.b_base.ty T.s_ur_base) (nil_k)))))))
theorem kit_VE (T : Top K w mg) : ∀ k, k ∈ [.tx, .cu, .cm, .im, .nu, .un, .ur] → PySem.W.kitOne K (.ref (Cls.ad k)) (.type "ValueError") = some true := cons_k (kit_ve T.r_tx.sv) (cons_k (kit_ve T.r_cu.sv) (cons_k (kit_ve T.r_cm.sv) (cons_k (kit_ve T.r_im.sv) (cons_k (kit_ve T.r_nu.sv) (cons_k (kit_ve T.r_un.sv) (cons_k (kit_ve T.r_ur.sv) (nil_k)))))))
theorem exm_base (T : Top K w mg) : ∀ k, k ∈ [.tx, .cu, .cm, .im, .nu, .un, .ur] → PySem.W.exmOne K (.ref (Cls.ad k)) (.ref Cls.base) = some true := cons_k (exm_cls T.b_base.be T.b_base.hd T.b_base.ty T.s_tx_base) (cons_k (exm_cls T.b_base.be T.b_base.hd T.b_base.ty T.s_cu_base) (cons_k (exm_cls T.b_base.be T.b_base.hd T.b_base.ty T.s_cm_base) (cons_k (exm_cls T.b_base.be T.b_base.hd T.b_base.ty T.s_im_base) (cons_k (exm_cls T.b_base.be T.b_base.hd T.b_base.ty T.s_nu_base) (cons_k (exm_cls T.b_base.be T.b_base.hd T.b_base.ty T.s_un_base) (cons_k (exm_cls T.b_base.be T.b_base.hd T.b_base.ty T.s_ur_base) (nil_k)))))))
theorem initn_tx (T : Top K w mg) : InitN K P w mg base (Cls.ad .tx) := ⟨by
  obtain ⟨fI, fd, h1, h2, F⟩ := T.i_tx
  refine ⟨fI, fd, h1, h2, SL.Fun.okN F sci_tx len_init (fun cdv A outer s H vs Q E hr h => ⟨tInit K "a text is not valid", ?_, init_pure T.r_tx h⟩), F.binds (fun _ _ _ _ _ _ us hl => match us, hl with | [_, _], _ => rfl), ?kb⟩
  case kb =>
    obtain ⟨oc, od, kV, doc, pm, an, cdv, ct, osl, e, _⟩ := F.ex
    rw [e]
    exact fun s us ws h1 h2 => match us, ws, h1, h2 with | [_], [_], _, _ => .of_eq rfl
  exact pss_cons (ps_expr (pe_cinit (by rfl) T.m_base T.b_base.ga T.b_base.ri T.b_base.fc (pa_cons (pe_var (i := 0) rfl (by first | exact .inl rfl | exact .inr (.inl rfl) | exact .inr (.inr rfl))) (pa_cons pe_str pa_nil)))) (pss_one (ps_ost (pe_var (i := 0) rfl (by first | exact .inl rfl | exact .inr (.inl rfl) | exact .inr (.inr rfl))) (pe_var (i := 1) rfl (by first | exact .inl rfl | exact .inr (.inl rfl) | exact .inr (.inr rfl)))))⟩
theorem init_tx (T : Top K w mg) : InitK K P w mg base (Cls.ad .tx) := by
  obtain ⟨fI, fd, h1, h2, h3, h4, _⟩ := (initn_tx T).ex
  exact ⟨⟨fI, fd, h1, h2, h3, h4⟩⟩
theorem initn_cu (T : Top K w mg) : InitN K P w mg base (Cls.ad .cu) := ⟨by
  obtain ⟨fI, fd, h1, h2, F⟩ := T.i_cu
  refine ⟨fI, fd, h1, h2, SL.Fun.okN F sci_cu len_init (fun cdv A outer s H vs Q E hr h => ⟨tInit K "a cursor is not valid", ?_, init_pure T.r_cu h⟩), F.binds (fun _ _ _ _ _ _ us hl => match us, hl with | [_, _], _ => rfl), ?kb⟩
  case kb =>
    obtain ⟨oc, od, kV, doc, pm, an, cdv, ct, osl, e, _⟩ := F.ex
    rw [e]
    exact fun s us ws h1 h2 => match us, ws, h1, h2 with | [_], [_], _, _ => .of_eq rfl
  exact pss_cons (ps_expr (pe_cinit (by rfl) T.m_base T.b_base.ga T.b_base.ri T.b_base.fc (pa_cons (pe_var (i := 0) rfl (by first | exact .inl rfl | exact .inr (.inl rfl) | exact .inr (.inr rfl))) (pa_cons pe_str pa_nil)))) (pss_one (ps_ost (pe_var (i := 0) rfl (by first | exact .inl rfl | exact .inr (.inl rfl) | exact .inr (.inr rfl))) (pe_var (i := 1) rfl (by first | exact .inl rfl | exact .inr (.inl rfl) | exact .inr (.inr rfl)))))⟩
theorem init_cu (T : Top K w mg) : InitK K P w mg base (Cls.ad .cu) := by
  obtain ⟨fI, fd, h1, h2, h3, h4, _⟩ := (initn_cu T).ex
  exact ⟨⟨fI, fd, h1, h2, h3, h4⟩⟩
theorem initn_cm (T : Top K w mg) : InitN K P w mg base (Cls.ad .cm) := ⟨by
  obtain ⟨fI, fd, h1, h2, F⟩ := T.i_cm
  refine ⟨fI, fd, h1, h2, SL.Fun.okN F sci_cm len_init (fun cdv A outer s H vs Q E hr h => ⟨tInit K "a tuple is not a command", ?_, init_pure T.r_cm h⟩), F.binds (fun _ _ _ _ _ _ us hl => match us, hl with | [_, _], _ => rfl), ?kb⟩
  case kb =>
    obtain ⟨oc, od, kV, doc, pm, an, cdv, ct, osl, e, _⟩ := F.ex
    rw [e]
    exact fun s us ws h1 h2 => match us, ws, h1, h2 with | [_], [_], _, _ => .of_eq rfl
  exact pss_cons (ps_expr (pe_cinit (by rfl) T.m_base T.b_base.ga T.b_base.ri T.b_base.fc (pa_cons (pe_var (i := 0) rfl (by first | exact .inl rfl | exact .inr (.inl rfl) | exact .inr (.inr rfl))) (pa_cons pe_str pa_nil)))) (pss_one (ps_ost (pe_var (i := 0) rfl (by first | exact .inl rfl | exact .inr (.inl rfl) | exact .inr (.inr rfl))) (pe_var (i := 1) rfl (by first | exact .inl rfl | exact .inr (.inl rfl) | exact .inr (.inr rfl)))))⟩
theorem init_cm (T : Top K w mg) : InitK K P w mg base (Cls.ad .cm) := by
  obtain ⟨fI, fd, h1, h2, h3, h4, _⟩ := (initn_cm T).ex
  exact ⟨⟨fI, fd, h1, h2, h3, h4⟩⟩
theorem initn_im (T : Top K w mg) : InitN K P w mg base (Cls.ad .im) := ⟨by
  obtain ⟨fI, fd, h1, h2, F⟩ := T.i_im
  refine ⟨fI, fd, h1, h2, SL.Fun.okN F sci_im len_init (fun cdv A outer s H vs Q E hr h => ⟨tInit K "a command would leave the text", ?_, init_pure T.r_im h⟩), F.binds (fun _ _ _ _ _ _ us hl => match us, hl with | [_, _], _ => rfl), ?kb⟩
  case kb =>
    obtain ⟨oc, od, kV, doc, pm, an, cdv, ct, osl, e, _⟩ := F.ex
    rw [e]
    exact fun s us ws h1 h2 => match us, ws, h1, h2 with | [_], [_], _, _ => .of_eq rfl
  exact pss_cons (ps_expr (pe_cinit (by rfl) T.m_base T.b_base.ga T.b_base.ri T.b_base.fc (pa_cons (pe_var (i := 0) rfl (by first | exact .inl rfl | exact .inr (.inl rfl) | exact .inr (.inr rfl))) (pa_cons pe_str pa_nil)))) (pss_one (ps_ost (pe_var (i := 0) rfl (by first | exact .inl rfl | exact .inr (.inl rfl) | exact .inr (.inr rfl))) (pe_var (i := 1) rfl (by first | exact .inl rfl | exact .inr (.inl rfl) | exact .inr (.inr rfl)))))⟩
theorem init_im (T : Top K w mg) : InitK K P w mg base (Cls.ad .im) := by
  obtain ⟨fI, fd, h1, h2, h3, h4, _⟩ := (initn_im T).ex
  exact ⟨⟨fI, fd, h1, h2, h3, h4⟩⟩
theorem initn_nu (T : Top K w mg) : InitN K P w mg base (Cls.ad .nu) := ⟨by
  obtain ⟨fI, fd, h1, h2, F⟩ := T.i_nu
  refine ⟨fI, fd, h1, h2, SL.Fun.okN F sci_nu len_init (fun cdv A outer s H vs Q E hr h => ⟨tInit K "a number is out of range", ?_, init_pure T.r_nu h⟩), F.binds (fun _ _ _ _ _ _ us hl => match us, hl with | [_, _], _ => rfl), ?kb⟩
  case kb =>
    obtain ⟨oc, od, kV, doc, pm, an, cdv, ct, osl, e, _⟩ := F.ex
    rw [e]
    exact fun s us ws h1 h2 => match us, ws, h1, h2 with | [_], [_], _, _ => .of_eq rfl
  exact pss_cons (ps_expr (pe_cinit (by rfl) T.m_base T.b_base.ga T.b_base.ri T.b_base.fc (pa_cons (pe_var (i := 0) rfl (by first | exact .inl rfl | exact .inr (.inl rfl) | exact .inr (.inr rfl))) (pa_cons pe_str pa_nil)))) (pss_one (ps_ost (pe_var (i := 0) rfl (by first | exact .inl rfl | exact .inr (.inl rfl) | exact .inr (.inr rfl))) (pe_var (i := 1) rfl (by first | exact .inl rfl | exact .inr (.inl rfl) | exact .inr (.inr rfl)))))⟩
theorem init_nu (T : Top K w mg) : InitK K P w mg base (Cls.ad .nu) := by
  obtain ⟨fI, fd, h1, h2, h3, h4, _⟩ := (initn_nu T).ex
  exact ⟨⟨fI, fd, h1, h2, h3, h4⟩⟩
theorem initn_un (T : Top K w mg) : InitN K P w mg base (Cls.ad .un) := ⟨by
  obtain ⟨fI, fd, h1, h2, F⟩ := T.i_un
  refine ⟨fI, fd, h1, h2, SL.Fun.okN F sci_un len_init (fun cdv A outer s H vs Q E hr h => ⟨tInit K "there is nothing to undo", ?_, init_pure T.r_un h⟩), F.binds (fun _ _ _ _ _ _ us hl => match us, hl with | [_, _], _ => rfl), ?kb⟩
  case kb =>
    obtain ⟨oc, od, kV, doc, pm, an, cdv, ct, osl, e, _⟩ := F.ex
    rw [e]
    exact fun s us ws h1 h2 => match us, ws, h1, h2 with | [_], [_], _, _ => .of_eq rfl
  exact pss_cons (ps_expr (pe_cinit (by rfl) T.m_base T.b_base.ga T.b_base.ri T.b_base.fc (pa_cons (pe_var (i := 0) rfl (by first | exact .inl rfl | exact .inr (.inl rfl) | exact .inr (.inr rfl))) (pa_cons pe_str pa_nil)))) (pss_one (ps_ost (pe_var (i := 0) rfl (by first | exact .inl rfl | exact .inr (.inl rfl) | exact .inr (.inr rfl))) (pe_var (i := 1) rfl (by first | exact .inl rfl | exact .inr (.inl rfl) | exact .inr (.inr rfl)))))⟩
theorem init_un (T : Top K w mg) : InitK K P w mg base (Cls.ad .un) := by
  obtain ⟨fI, fd, h1, h2, h3, h4, _⟩ := (initn_un T).ex
  exact ⟨⟨fI, fd, h1, h2, h3, h4⟩⟩
theorem initn_ur (T : Top K w mg) : InitN K P w mg base (Cls.ad .ur) := ⟨by
  obtain ⟨fI, fd, h1, h2, F⟩ := T.i_ur
  refine ⟨fI, fd, h1, h2, SL.Fun.okN F sci_ur len_init (fun cdv A outer s H vs Q E hr h => ⟨tInit K "a text has no meaning", ?_, init_pure T.r_ur h⟩), F.binds (fun _ _ _ _ _ _ us hl => match us, hl with | [_, _], _ => rfl), ?kb⟩
  case kb =>
    obtain ⟨oc, od, kV, doc, pm, an, cdv, ct, osl, e, _⟩ := F.ex
    rw [e]
    exact fun s us ws h1 h2 => match us, ws, h1, h2 with | [_], [_], _, _ => .of_eq rfl
  exact pss_cons (ps_expr (pe_cinit (by rfl) T.m_base T.b_base.ga T.b_base.ri T.b_base.fc (pa_cons (pe_var (i := 0) rfl (by first | exact .inl rfl | exact .inr (.inl rfl) | exact .inr (.inr rfl))) (pa_cons pe_str pa_nil)))) (pss_one (ps_ost (pe_var (i := 0) rfl (by first | exact .inl rfl | exact .inr (.inl rfl) | exact .inr (.inr rfl))) (pe_var (i := 1) rfl (by first | exact .inl rfl | exact .inr (.inl rfl) | exact .inr (.inr rfl)))))⟩
theorem init_ur (T : Top K w mg) : InitK K P w mg base (Cls.ad .ur) := by
  obtain ⟨fI, fd, h1, h2, h3, h4, _⟩ := (initn_ur T).ex
  exact ⟨⟨fI, fd, h1, h2, h3, h4⟩⟩
set_option maxHeartbeats 4000000 in
theorem ok__law_source (T : Top K w mg) : Cal P w K mg base 1 "_law_source" sp__law_source kb__law_source :=
  okC T.h__law_source sc__law_source (fun _ _ _ _ _ _ us hl => match us, hl with | [_], _ => rfl)
    (fun t ht => (nomatch ht))
    len__law_source (fun f cdv A outer s H E hr hgu =>
    qss_cons (qs_set 1 sc__law_source.nd (qe_int)) (qss_cons (qs_set 2 sc__law_source.nd (qe_lst (qa_nil))) (qss_cons (qs_for (passes_of rfl) rfl (qi_lst (qe_var 0)) (qg_name 3 sc__law_source.nd) (qss_cons (qs_set 1 sc__law_source.nd (qe_bin op_mod lk_mod (qe_bin op_addU lk_addU (qe_bin op_mulU lk_mulU (qe_var 1) (qe_int)) (qe_var 3)) (qe_bin op_sub lk_sub (qe_bin op_powA lk_pow (qe_int) (qe_int)) (qe_int)))) (qss_cons (qs_set 4 sc__law_source.nd (qe_callB (call_maxU rfl) lk_maxU (by rfl) T.n_max bt_max (qa_cons (qe_var 3) (qa_cons (qe_bin op_sub lk_sub (qe_int) (qe_var 3)) (qa_nil))))) (qss_one (qs_if (qt_cmp op_ge lk_ge (qe_var 4) (qe_bin op_powA lk_pow (qe_int) (qe_int)) (nomark _)) (qss_one (qs_expr (qe_bm PySem.F.plainAttrs_list PySem.F.slot_list_append PySem.F.type_list_append mt_append lk_append (qe_var 2) (qa_cons (qe_bin op_sub lk_sub (qe_var 4) (qe_bin op_powA lk_pow (qe_int) (qe_int))) (qa_nil))))) (qss_nil)))))) (qss_one (qs_ret (qe_lst (qa_cons (qe_var 2) (qa_cons (qe_int) (qa_cons (qe_var 1) (qa_cons (qe_int) (qa_nil))))))))))) pure__law_source
theorem c__law_source (T : Top K w mg) : Cal P w K mg base 1 "_law_source" sp__law_source kb__law_source := ok__law_source T 
set_option maxHeartbeats 4000000 in
theorem ok__law_draw (T : Top K w mg) : Cal P w K mg base 1 "_law_draw" sp__law_draw kb__law_draw :=
  okC T.h__law_draw sc__law_draw (fun _ _ _ _ _ _ us hl => match us, hl with | [_, _], _ => rfl)
    (fun t ht => (nomatch ht))
    len__law_draw (fun f cdv A outer s H E hr hgu =>
    qss_cons (qs_while (passes_of rfl) ((qw_and (qt_cmp op_lt lk_lt (qe_ix ix_seq lk_ixU (qe_var 0) (qe_int) (fun _ _ => rfl)) (qe_int) (nomark _)) (qw_and1 (qt_cmp (op_neU hr.units) lk_neU (qe_ix ix_seq lk_ixU (qe_var 0) (qe_int) (fun _ _ => rfl)) (qe_frz (qe_lst (qa_nil))) (nomark _)))).qt) (qss_one (qs_store (qe_bm PySem.F.plainAttrs_list PySem.F.slot_list_pop PySem.F.type_list_pop mt_popAt lk_pop0 (qe_ix ix_seq lk_ixU (qe_var 0) (qe_int) (fun _ _ => rfl)) (qa_cons (qe_int) (qa_nil))) (qe_var 0) (qe_int) set_list lk_setL))) (qss_cons (qs_if (qt_cmp op_ge lk_ge (qe_ix ix_seq lk_ixU (qe_var 0) (qe_int) (fun _ _ => rfl)) (qe_int) (nomark _)) (qss_cons (qs_set 2 sc__law_draw.nd (qe_bin op_mod lk_mod (qe_ix ix_seq lk_ixU (qe_var 0) (qe_int) (fun _ _ => rfl)) (qe_var 1))) (qss_cons (qs_store (qe_bin op_fdivW lk_fdiv (qe_ix ix_seq lk_ixU (qe_var 0) (qe_int) (fun _ _ => rfl)) (qe_var 1)) (qe_var 0) (qe_int) set_list lk_setL) (qss_one (qs_ret (qe_var 2))))) (qss_nil)) (qss_cons (qs_store (qe_bin op_addU lk_addU (qe_ix ix_seq lk_ixU (qe_var 0) (qe_int) (fun _ _ => rfl)) (qe_int)) (qe_var 0) (qe_int) set_list lk_setL) (qss_cons (qs_set 3 sc__law_draw.nd (qe_bin op_mulU lk_mulU (qe_bin op_addU lk_addU (qe_ix ix_seq lk_ixU (qe_var 0) (qe_int) (fun _ _ => rfl)) (qe_int)) (qe_bin op_powA lk_pow (qe_bin op_addU lk_addU (qe_ix ix_seq lk_ixU (qe_var 0) (qe_int) (fun _ _ => rfl)) (qe_int)) (qe_int)))) (qss_cons (qs_set 3 sc__law_draw.nd (qe_bin op_mod lk_mod (qe_bin op_addU lk_addU (qe_var 3) (qe_bin op_mulU lk_mulU (qe_int) (qe_ix ix_seq lk_ixU (qe_var 0) (qe_int) (fun _ _ => rfl)))) (qe_bin op_sub lk_sub (qe_bin op_powA lk_pow (qe_int) (qe_int)) (qe_int)))) (qss_one (qs_ret (qe_bin op_mod lk_mod (qe_bin op_fdivW lk_fdiv (qe_bin op_mod lk_mod (qe_bin op_powA lk_pow (qe_var 3) (qe_int)) (qe_bin op_addU lk_addU (qe_bin op_powA lk_pow (qe_int) (qe_int)) (qe_int))) (qe_int)) (qe_var 1))))))))) pure__law_draw
theorem c__law_draw (T : Top K w mg) : Cal P w K mg base 1 "_law_draw" (cl sp__law_draw) kb__law_draw := (ok__law_draw T ).close
set_option maxHeartbeats 4000000 in
theorem ok__law_same (T : Top K w mg) {j : Nat} {n : Nat} (hj : 0 ≤ j) (cself : Cal P w K mg base j "_law_same" (cl (sp__law_same n)) kb__law_same) : Cal P w K mg base (j + 1) "_law_same" (sp__law_same (n + 1)) kb__law_same :=
  okC T.h__law_same sc__law_same (fun _ _ _ _ _ _ us hl => match us, hl with | [_, _], _ => rfl)
    (fun t ht => (nomatch ht))
    (len__law_same (n + 1)) (fun f cdv A outer s H E hr hgu =>
    qss_cons (qs_if (qt_cmp op_isN lk_isN (qe_var 1) (qe_non) (nomark _)) (qss_one (qs_ret (qe_cmp op_isN lk_isN (qe_var 0) (qe_non) (nomark _)))) (qss_nil)) (qss_cons (qs_if (qt_val (qe_callB call_isi lk_isiU (by rfl) T.n_isinstance bt_isinstance (qa_cons (qe_var 1) (qa_cons (qe_ty T.n_bool bt_bool) (qa_nil))))) (qss_one (qs_ret (qe_and (qe_callB call_isi lk_isiU (by rfl) T.n_isinstance bt_isinstance (qa_cons (qe_var 0) (qa_cons (qe_ty T.n_bool bt_bool) (qa_nil)))) (qe_one (qe_cmp (op_eqU hr.units) lk_eqU (qe_var 0) (qe_var 1) (nomark _)))))) (qss_nil)) (qss_cons (qs_if (qt_val (qe_callB call_isi lk_isiU (by rfl) T.n_isinstance bt_isinstance (qa_cons (qe_var 1) (qa_cons (qe_ty T.n_int bt_int) (qa_nil))))) (qss_one (qs_ret (qe_and (qe_callB call_isi lk_isiU (by rfl) T.n_isinstance bt_isinstance (qa_cons (qe_var 0) (qa_cons (qe_ty T.n_int bt_int) (qa_nil)))) (qe_and (qe_not (qe_callB call_isi lk_isiU (by rfl) T.n_isinstance bt_isinstance (qa_cons (qe_var 0) (qa_cons (qe_ty T.n_bool bt_bool) (qa_nil))))) (qe_one (qe_cmp (op_eqU hr.units) lk_eqU (qe_var 0) (qe_var 1) (nomark _))))))) (qss_nil)) (qss_cons (qs_if (qt_val (qe_callB call_isi lk_isiU (by rfl) T.n_isinstance bt_isinstance (qa_cons (qe_var 1) (qa_cons (qe_ty T.n_str bt_str) (qa_nil))))) (qss_one (qs_ret (qe_and (qe_callB call_isi lk_isiU (by rfl) T.n_isinstance bt_isinstance (qa_cons (qe_var 0) (qa_cons (qe_ty T.n_str bt_str) (qa_nil)))) (qe_one (qe_cmp (op_eqU hr.units) lk_eqU (qe_var 0) (qe_var 1) (nomark _)))))) (qss_nil)) (qss_cons (qs_if (qt_cmp (op_neU hr.units) lk_neU (qe_callB call_isi lk_isiU (by rfl) T.n_isinstance bt_isinstance (qa_cons (qe_var 0) (qa_cons (qe_ty T.n_list bt_list) (qa_nil)))) (qe_callB call_isi lk_isiU (by rfl) T.n_isinstance bt_isinstance (qa_cons (qe_var 1) (qa_cons (qe_ty T.n_list bt_list) (qa_nil)))) (nomark _)) (qss_one (qs_ret (qe_bl))) (qss_nil)) (qss_cons (qs_if ((qw_or (qt_cmp (op_neU hr.units) lk_neU (qe_callB call_isi lk_isiU (by rfl) T.n_isinstance bt_isinstance (qa_cons (qe_var 0) (qa_cons (qe_ty T.n_tuple bt_tuple) (qa_nil)))) (qe_callB call_isi lk_isiU (by rfl) T.n_isinstance bt_isinstance (qa_cons (qe_var 1) (qa_cons (qe_ty T.n_tuple bt_tuple) (qa_nil)))) (nomark _)) (qw_or1 (qt_cmp (op_neU hr.units) lk_neU (qe_callB call_lenU lk_lenU (by rfl) T.n_len bt_len (qa_cons (qe_var 0) (qa_nil))) (qe_callB call_lenU lk_lenU (by rfl) T.n_len bt_len (qa_cons (qe_var 1) (qa_nil))) (nomark _)))).qt) (qss_one (qs_ret (qe_bl))) (qss_nil)) (qss_one (qs_ret (qe_cmp (op_eqU hr.units) lk_eqU (qe_frz (qe_lc [("k", 2)] rfl sc__law_same.nd (qi_range (by rfl) T.n_range (qa_cons (qe_callB call_lenU lk_lenU (by rfl) T.n_len bt_len (qa_cons (qe_var 1) (qa_nil))) (qa_nil))) (blkOf (by rfl)) (fun s H C cl fp => qg_name 2 sc__law_same.nd) (fun s H C cl fp => qts_one (qt_not (qt_val (qe_c cself (by omega) hr hgu (qa_cons (qe_ix ix_seq lk_ixU (qe_var 0) (qe_var 2) (fun _ _ => rfl)) (qa_cons (qe_ix ix_seq lk_ixU (qe_var 1) (qe_var 2) (fun _ _ => rfl)) (qa_nil))))))) (fun s H C cl fp => qe_var 2))) (qe_frz (qe_lst (qa_nil))) (nomark _)))))))))) (pure__law_same n)
theorem no__law_same (T : Top K w mg) : Cal P w K mg base 0 "_law_same" (sp__law_same 0) kb__law_same :=
  noC (ps := ["found", "wanted"]) T.h__law_same (fun _ _ _ _ _ _ us hl => match us, hl with | [_, _], _ => rfl)
    (fun t ht => (nomatch ht))
theorem c0__law_same (T : Top K w mg) : ∀ n : Nat, Cal P w K mg base (0 + n) "_law_same" (sp__law_same n) kb__law_same
  | 0 => no__law_same T
  | n + 1 => ok__law_same T  (Nat.le_add_right _ _) (c0__law_same T n).close
theorem c__law_same (T : Top K w mg) : Cal P w K mg base 8 "_law_same" (sp__law_same 8) kb__law_same := c0__law_same T 8
set_option maxHeartbeats 4000000 in
theorem ok__law_error (T : Top K w mg) : Cal P w K mg base 1 "_law_error" sp__law_error kb__law_error :=
  okC T.h__law_error sc__law_error (fun _ _ _ _ _ _ us hl => match us, hl with | [_], _ => rfl)
    (fun t ht => (nomatch ht))
    len__law_error (fun f cdv A outer s H E hr hgu =>
    qss_cons (qs_set 1 sc__law_error.nd (qe_frz (qe_lst (qa_cons (qe_tup (qa_cons (qe_str) (qa_cons (qe_callB call_isX (lk_isC T.x_all (.own _) (kit_tx T)) (by rfl) T.n_isinstance bt_isinstance (qa_cons (qe_var 0) (qa_cons (qe_gcls T.m_tx) (qa_nil)))) (qa_nil)))) (qa_cons (qe_tup (qa_cons (qe_str) (qa_cons (qe_callB call_isX (lk_isC T.x_all (.own _) (kit_cu T)) (by rfl) T.n_isinstance bt_isinstance (qa_cons (qe_var 0) (qa_cons (qe_gcls T.m_cu) (qa_nil)))) (qa_nil)))) (qa_nil)))))) (qss_cons (qs_set 1 sc__law_error.nd (qe_frz (qe_bin op_addU lk_addU (qe_var 1) (qe_frz (qe_lst (qa_cons (qe_tup (qa_cons (qe_str) (qa_cons (qe_callB call_isX (lk_isC T.x_all (.own _) (kit_cm T)) (by rfl) T.n_isinstance bt_isinstance (qa_cons (qe_var 0) (qa_cons (qe_gcls T.m_cm) (qa_nil)))) (qa_nil)))) (qa_cons (qe_tup (qa_cons (qe_str) (qa_cons (qe_callB call_isX (lk_isC T.x_all (.own _) (kit_im T)) (by rfl) T.n_isinstance bt_isinstance (qa_cons (qe_var 0) (qa_cons (qe_gcls T.m_im) (qa_nil)))) (qa_nil)))) (qa_nil)))))))) (qss_cons (qs_set 1 sc__law_error.nd (qe_frz (qe_bin op_addU lk_addU (qe_var 1) (qe_frz (qe_lst (qa_cons (qe_tup (qa_cons (qe_str) (qa_cons (qe_callB call_isX (lk_isC T.x_all (.own _) (kit_nu T)) (by rfl) T.n_isinstance bt_isinstance (qa_cons (qe_var 0) (qa_cons (qe_gcls T.m_nu) (qa_nil)))) (qa_nil)))) (qa_cons (qe_tup (qa_cons (qe_str) (qa_cons (qe_callB call_isX (lk_isC T.x_all (.own _) (kit_un T)) (by rfl) T.n_isinstance bt_isinstance (qa_cons (qe_var 0) (qa_cons (qe_gcls T.m_un) (qa_nil)))) (qa_nil)))) (qa_nil)))))))) (qss_cons (qs_frzSet (qs_setLc 2 [("name", 3), ("is_one", 4)] rfl sc__law_error.nd (sw_true rfl rfl rfl (by decide +kernel)) (qi_lst (qe_frz (qe_bin op_addU lk_addU (qe_var 1) (qe_frz (qe_lst (qa_cons (qe_tup (qa_cons (qe_str) (qa_cons (qe_callB call_isX (lk_isC T.x_all (.own _) (kit_ur T)) (by rfl) T.n_isinstance bt_isinstance (qa_cons (qe_var 0) (qa_cons (qe_gcls T.m_ur) (qa_nil)))) (qa_nil)))) (qa_nil))))))) (blkOf (by rfl)) (fun s H C cl fp => qg_tup rfl (qgs_cons (qg_name 3 sc__law_error.nd) (qgs_cons (qg_name 4 sc__law_error.nd) (qgs_nil)))) (fun s H C cl fp => qts_one (qt_val (qe_var 4))) (fun s H C cl fp => qe_var 3))) (qss_one (qs_ret (qe_frz (qe_bin op_addU lk_addU (qe_var 2) (qe_frz (qe_lst (qa_cons (qe_xv T.x_all (qe_var 0)) (qa_cons (qe_and (qe_callB call_isX (lk_isC T.x_all (.own _) (kit_base T)) (by rfl) T.n_isinstance bt_isinstance (qa_cons (qe_var 0) (qa_cons (qe_gcls T.m_base) (qa_nil)))) (qe_one (qe_callB call_isX (lk_isC T.x_all (.ty _) (kit_VE T)) (by rfl) T.n_isinstance bt_isinstance (qa_cons (qe_var 0) (qa_cons (qe_ty T.n_ValueError bt_ValueError) (qa_nil)))))) (qa_nil))))))))))))) pure__law_error
theorem c__law_error (T : Top K w mg) : Cal P w K mg base 1 "_law_error" sp__law_error kb__law_error := ok__law_error T 
set_option maxHeartbeats 4000000 in
theorem ok__law_made (T : Top K w mg) : Cal P w K mg base 3 "_law_made" sp__law_made kb__law_made :=
  okC T.h__law_made sc__law_made (fun _ _ _ _ _ _ us hl => match us, hl with | [_, _, _], _ => rfl)
    (fun t ht => (nomatch ht))
    len__law_made (fun f cdv A outer s H E hr hgu =>
    qss_cons (qs_if (qt_cmp (op_eqU hr.units) lk_eqU (qe_var 0) (qe_int) (nomark _)) (qss_one (qs_ret (qe_if (qt_val (qe_var 2)) (qe_mkxn T.r_tx (initn_tx T) (by decide) hr T.m_tx (qk_cons (qe_var 1) qk_nil)) (qe_mkx1 T.r_tx (initn_tx T) (by decide) hr T.m_tx (qa_cons (qe_var 1) (qa_nil)))))) (qss_nil)) (qss_cons (qs_if (qt_cmp (op_eqU hr.units) lk_eqU (qe_var 0) (qe_int) (nomark _)) (qss_one (qs_ret (qe_if (qt_val (qe_var 2)) (qe_mkxn T.r_cu (initn_cu T) (by decide) hr T.m_cu (qk_cons (qe_var 1) qk_nil)) (qe_mkx1 T.r_cu (initn_cu T) (by decide) hr T.m_cu (qa_cons (qe_var 1) (qa_nil)))))) (qss_nil)) (qss_cons (qs_if (qt_cmp (op_eqU hr.units) lk_eqU (qe_var 0) (qe_int) (nomark _)) (qss_one (qs_ret (qe_if (qt_val (qe_var 2)) (qe_mkxn T.r_cm (initn_cm T) (by decide) hr T.m_cm (qk_cons (qe_var 1) qk_nil)) (qe_mkx1 T.r_cm (initn_cm T) (by decide) hr T.m_cm (qa_cons (qe_var 1) (qa_nil)))))) (qss_nil)) (qss_cons (qs_if (qt_cmp (op_eqU hr.units) lk_eqU (qe_var 0) (qe_int) (nomark _)) (qss_one (qs_ret (qe_if (qt_val (qe_var 2)) (qe_mkxn T.r_im (initn_im T) (by decide) hr T.m_im (qk_cons (qe_var 1) qk_nil)) (qe_mkx1 T.r_im (initn_im T) (by decide) hr T.m_im (qa_cons (qe_var 1) (qa_nil)))))) (qss_nil)) (qss_cons (qs_if (qt_cmp (op_eqU hr.units) lk_eqU (qe_var 0) (qe_int) (nomark _)) (qss_one (qs_ret (qe_if (qt_val (qe_var 2)) (qe_mkxn T.r_nu (initn_nu T) (by decide) hr T.m_nu (qk_cons (qe_var 1) qk_nil)) (qe_mkx1 T.r_nu (initn_nu T) (by decide) hr T.m_nu (qa_cons (qe_var 1) (qa_nil)))))) (qss_nil)) (qss_cons (qs_if (qt_cmp (op_eqU hr.units) lk_eqU (qe_var 0) (qe_int) (nomark _)) (qss_one (qs_ret (qe_if (qt_val (qe_var 2)) (qe_mkxn T.r_un (initn_un T) (by decide) hr T.m_un (qk_cons (qe_var 1) qk_nil)) (qe_mkx1 T.r_un (initn_un T) (by decide) hr T.m_un (qa_cons (qe_var 1) (qa_nil)))))) (qss_nil)) (qss_one (qs_ret (qe_if (qt_val (qe_var 2)) (qe_mkxn T.r_ur (initn_ur T) (by decide) hr T.m_ur (qk_cons (qe_var 1) qk_nil)) (qe_mkx1 T.r_ur (initn_ur T) (by decide) hr T.m_ur (qa_cons (qe_var 1) (qa_nil)))))))))))) pure__law_made
theorem c__law_made (T : Top K w mg) : Cal P w K mg base 3 "_law_made" sp__law_made kb__law_made := ok__law_made T 
end
set_option maxHeartbeats 4000000 in
theorem fin {P : Program} {w : World} {K : PySem.W.Frag} {mg : Str → Option Value} {fa : Addr} (T : Top K w mg) (hmg : mg "law" = some (.ref fa)) :
    ∃ fd : FuncData, (∀ (s : Shared) (u : Value), BindsTo s fd ⟨[u], []⟩ [("script", u)]) ∧ ∀ base : Heap, K.In base → base.Ns mainGlobals mg → FnG P w K mg base 9 fa fd ["script"] (spOf K spLawW) :=
  okL T.h_law sc_law hmg (fun _ _ _ _ _ _ _ => rfl) (fun base f cdv A outer s H E hr hgu =>
    qss_cons (qs_set 1 sc_law.nd (qe_c (c__law_source T) (by decide) hr hgu (qa_cons (qe_var 0) (qa_nil)))) (qss_cons (qs_set 2 sc_law.nd (qe_lst (qa_cons (qe_str) (qa_cons (qe_str) (qa_cons (qe_str) (qa_cons (qe_str) (qa_cons (qe_str) (qa_cons (qe_str) (qa_nil))))))))) (qss_cons (qs_expr (qe_bm PySem.F.plainAttrs_list PySem.F.slot_list_append PySem.F.type_list_append mt_append lk_append (qe_var 2) (qa_cons (qe_str) (qa_nil)))) (qss_cons (qs_for (passes_of rfl) rfl (qi_range (by rfl) T.n_range (qa_cons (qe_bin op_addU lk_addU (qe_int) (qe_callB (call_minU rfl) lk_minU (by rfl) T.n_min bt_min (qa_cons (qe_int) (qa_cons (qe_callB call_lenU lk_lenU (by rfl) T.n_len bt_len (qa_cons (qe_var 0) (qa_nil))) (qa_nil))))) (qa_nil))) (qg_name 3 sc_law.nd) (qss_cons (qs_set 4 sc_law.nd (qe_c (c__law_draw T) (by decide) hr hgu (qa_cons (qe_var 1) (qa_cons (qe_bin op_powA lk_pow (qe_int) (qe_int)) (qa_nil))))) (qss_one (qs_for (passes_of rfl) rfl (qi_lst (qe_frz (qe_lst (qa_cons (qe_int) (qa_cons (qe_var 4) (qa_cons (qe_bin op_sub lk_sub (qe_int) (qe_var 4)) (qa_cons (qe_non) (qa_cons (qe_str) (qa_cons (qe_str) (qa_cons (qe_tup (qa_cons (qe_var 4) (qa_cons (qe_non) (qa_nil)))) (qa_cons (qe_frz (qe_lst (qa_cons (qe_var 4) (qa_nil)))) (qa_nil)))))))))))) (qg_name 5 sc_law.nd) (qss_one (qs_for (passes_of rfl) rfl (qi_range (by rfl) T.n_range (qa_cons (qe_int) (qa_nil))) (qg_name 6 sc_law.nd) (qss_one (qs_for (passes_of rfl) rfl (qi_lst (qe_frz (qe_lst (qa_cons (qe_bl) (qa_cons (qe_bl) (qa_nil)))))) (qg_name 7 sc_law.nd) (qss_one (qs_if (qt_not (qt_val (qe_c (c__law_same T) (by decide) hr hgu (qa_cons (qe_c (c__law_error T) (by decide) hr hgu (qa_cons (qe_c (c__law_made T) (by decide) hr hgu (qa_cons (qe_var 6) (qa_cons (qe_var 5) (qa_cons (qe_var 7) (qa_nil))))) (qa_nil))) (qa_cons (qe_frz (qe_lst (qa_cons (qe_ix ix_seq lk_ixU (qe_var 2) (qe_var 6) (fun _ _ => rfl)) (qa_cons (qe_var 5) (qa_cons (qe_bl) (qa_nil)))))) (qa_nil)))))) (qss_one (qs_ret (qe_bl))) (qss_nil))))))))))) (qss_one (qs_ret (qe_bl))))))) pure_law
end SL
namespace SL
open PySem PySem.Spec PyProof.Rows L2
@[reducible] def clsOf (C_b C_cm C_cu C_im C_nu C_tx C_un C_ur : Addr) : Cls := ⟨fun k => match k with | .tx => C_tx | .cu => C_cu | .cm => C_cm | .im => C_im | .nu => C_nu | .un => C_un | .ur => C_ur, C_b⟩
theorem all_mk {w : World} {K : PySem.W.Frag} {h : Heap} {mg : Str → Option Value} (X : K.In h) (G : h.Ns mainGlobals mg)
    {f0 : Addr} {od0 an0 : Option Addr} {sl0 : Array (Option Value)} {oc0 kV0 dc0 pm0 cd0 ct0 : Value}
    (a0 : PySem.W.nsIn K mainGlobals "_law_source" = some (some (.ref f0))) (l0 : K.lookup f0 = some ⟨oc0, od0, .func (PySem.W.fnOf "_law_source" "_law_source" (defArgs s__law_source) (defBody s__law_source) (defScope s__law_source) .none kV0 dc0 pm0 an0 cd0 ct0), sl0⟩) (c0 : PySem.W.codeIn K cd0 "_law_source" = true) (k0 : PySem.W.keepIn K (.ref f0) = true)
    {f1 : Addr} {od1 an1 : Option Addr} {sl1 : Array (Option Value)} {oc1 kV1 dc1 pm1 cd1 ct1 : Value}
    (a1 : PySem.W.nsIn K mainGlobals "_law_draw" = some (some (.ref f1))) (l1 : K.lookup f1 = some ⟨oc1, od1, .func (PySem.W.fnOf "_law_draw" "_law_draw" (defArgs s__law_draw) (defBody s__law_draw) (defScope s__law_draw) .none kV1 dc1 pm1 an1 cd1 ct1), sl1⟩) (c1 : PySem.W.codeIn K cd1 "_law_draw" = true) (k1 : PySem.W.keepIn K (.ref f1) = true)
    {f2 : Addr} {od2 an2 : Option Addr} {sl2 : Array (Option Value)} {oc2 kV2 dc2 pm2 cd2 ct2 : Value}
    (a2 : PySem.W.nsIn K mainGlobals "_law_same" = some (some (.ref f2))) (l2 : K.lookup f2 = some ⟨oc2, od2, .func (PySem.W.fnOf "_law_same" "_law_same" (defArgs s__law_same) (defBody s__law_same) (defScope s__law_same) .none kV2 dc2 pm2 an2 cd2 ct2), sl2⟩) (c2 : PySem.W.codeIn K cd2 "_law_same" = true) (k2 : PySem.W.keepIn K (.ref f2) = true)
    {f3 : Addr} {od3 an3 : Option Addr} {sl3 : Array (Option Value)} {oc3 kV3 dc3 pm3 cd3 ct3 : Value}
    (a3 : PySem.W.nsIn K mainGlobals "_law_error" = some (some (.ref f3))) (l3 : K.lookup f3 = some ⟨oc3, od3, .func (PySem.W.fnOf "_law_error" "_law_error" (defArgs s__law_error) (defBody s__law_error) (defScope s__law_error) .none kV3 dc3 pm3 an3 cd3 ct3), sl3⟩) (c3 : PySem.W.codeIn K cd3 "_law_error" = true) (k3 : PySem.W.keepIn K (.ref f3) = true)
    {f4 : Addr} {od4 an4 : Option Addr} {sl4 : Array (Option Value)} {oc4 kV4 dc4 pm4 cd4 ct4 : Value}
    (a4 : PySem.W.nsIn K mainGlobals "_law_made" = some (some (.ref f4))) (l4 : K.lookup f4 = some ⟨oc4, od4, .func (PySem.W.fnOf "_law_made" "_law_made" (defArgs s__law_made) (defBody s__law_made) (defScope s__law_made) .none kV4 dc4 pm4 an4 cd4 ct4), sl4⟩) (c4 : PySem.W.codeIn K cd4 "_law_made" = true) (k4 : PySem.W.keepIn K (.ref f4) = true)
    {f5 : Addr} {od5 an5 : Option Addr} {sl5 : Array (Option Value)} {oc5 kV5 dc5 pm5 cd5 ct5 : Value}
    (a5 : PySem.W.nsIn K mainGlobals "law" = some (some (.ref f5))) (l5 : K.lookup f5 = some ⟨oc5, od5, .func (PySem.W.fnOf "law" "law" (defArgs s_law) (defBody s_law) (defScope s_law) .none kV5 dc5 pm5 an5 cd5 ct5), sl5⟩) (c5 : PySem.W.codeIn K cd5 "law" = true) (k5 : PySem.W.keepIn K (.ref f5) = true)
    {C_b C_cm C_cu C_im C_nu C_tx C_un C_ur : Addr}
    (xm_base : PySem.W.nsIn K mainGlobals "CursorError" = some (some (.ref C_b)))
    (xb_ga : PySem.W.specialIn K (.ref C_b) "__getattribute__" = some (some (.builtin "type.__getattribute__")))
    (xb_ri : PySem.W.readsIn K C_b (.type "type") = true)
    (xb_fc : PySem.W.findCls K (.ref C_b) (.type "type") "__init__" = some (.val (.builtin "ValueError.__init__")))
    (xb_be : PySem.W.subIn K (.ref C_b) (.type "BaseException") = some true)
    (xb_hd : PySem.W.hasDictIn K C_b = true)
    (xb_ty : PySem.W.typeIn K (.ref C_b) = some (.type "type"))
    (xm_cm : PySem.W.nsIn K mainGlobals "InvalidCommand" = some (some (.ref C_cm)))
    (xh_cm : PySem.W.hasDictIn K C_cm = true)
    (xt_cm : PySem.W.typeIn K (.ref C_cm) = some (.type "type"))
    (xm_cu : PySem.W.nsIn K mainGlobals "InvalidCursor" = some (some (.ref C_cu)))
    (xh_cu : PySem.W.hasDictIn K C_cu = true)
    (xt_cu : PySem.W.typeIn K (.ref C_cu) = some (.type "type"))
    (xm_im : PySem.W.nsIn K mainGlobals "Impossible" = some (some (.ref C_im)))
    (xh_im : PySem.W.hasDictIn K C_im = true)
    (xt_im : PySem.W.typeIn K (.ref C_im) = some (.type "type"))
    (xm_nu : PySem.W.nsIn K mainGlobals "InvalidNumber" = some (some (.ref C_nu)))
    (xh_nu : PySem.W.hasDictIn K C_nu = true)
    (xt_nu : PySem.W.typeIn K (.ref C_nu) = some (.type "type"))
    (xm_tx : PySem.W.nsIn K mainGlobals "InvalidText" = some (some (.ref C_tx)))
    (xh_tx : PySem.W.hasDictIn K C_tx = true)
    (xt_tx : PySem.W.typeIn K (.ref C_tx) = some (.type "type"))
    (xm_un : PySem.W.nsIn K mainGlobals "NothingToUndo" = some (some (.ref C_un)))
    (xh_un : PySem.W.hasDictIn K C_un = true)
    (xt_un : PySem.W.typeIn K (.ref C_un) = some (.type "type"))
    (xm_ur : PySem.W.nsIn K mainGlobals "Unreadable" = some (some (.ref C_ur)))
    (xh_ur : PySem.W.hasDictIn K C_ur = true)
    (xt_ur : PySem.W.typeIn K (.ref C_ur) = some (.type "type"))
    {nm_tx q_tx : Str} {N_tx : Addr} {bs_tx bm_tx : List Value} {sn_tx : List Str} {su_tx : List Value} {ab_tx : Bool} {co_tx : Option Bool} {dd_tx : Option Addr} {k0_tx k1_tx k2_tx k3_tx k5_tx : Option Value}
    (xl_tx : K.lookup C_tx = some (excClassObj nm_tx q_tx C_tx N_tx bs_tx bm_tx true sn_tx su_tx ab_tx co_tx dd_tx k0_tx k1_tx k2_tx k3_tx k5_tx "ValueError.__new__"))
    (xr_tx : PySem.HandSPX.refsVE bm_tx = true)
    (xsa_tx : PySem.W.findIn K (.ref C_tx) "__setattr__" = some (some (.builtin "object.__setattr__")))
    (xga_tx : PySem.W.findIn K (.ref C_tx) "__getattribute__" = some (some (.builtin "BaseException.__getattribute__")))
    (xgg_tx : PySem.W.findIn K (.ref C_tx) "__getattr__" = some none)
    (xha_tx : PySem.W.findIn K (.ref C_tx) "__class__" = some (some (.builtin "object.__class__")))
    (xhv_tx : PySem.W.findIn K (.ref C_tx) "value" = some none)
    (xec_tx : PySem.W.subIn K (.ref C_tx) (.type "BaseException") = some true)
    (xns_tx : PySem.W.subIn K (.ref C_tx) (.type "StopIteration") = some false)
    (xsv_tx : PySem.W.subIn K (.ref C_tx) (.type "ValueError") = some true)
    (xkc_tx : PySem.W.keepIn K (.ref C_tx) = true)
    (xom_tx : PySem.W.mroIn K C_tx (.type "object") = some true)
    (xsb_tx : PySem.W.subIn K (.ref C_tx) (.ref C_b) = some true)
    (xeb_tx : (C_tx == C_b) = false)
    (xhn_tx : PySem.W.specialIn K (.builtin "object.__class__") "__get__" = some (some (.builtin "getset_descriptor.__get__")))
    (xht_tx : PySem.W.takesIn K (.builtin "object.__class__") = some true)
    {fi_tx : Addr} {odi_tx ani_tx : Option Addr} {sli_tx : Array (Option Value)} {oci_tx kVi_tx dci_tx pmi_tx cdi_tx cti_tx : Value}
    (xi_tx : PySem.W.findIn K (.ref C_tx) "__init__" = some (some (.ref fi_tx)))
    (xit_tx : PySem.W.typeIn K (.ref fi_tx) = some (.type "function"))
    (xil_tx : K.lookup fi_tx = some ⟨oci_tx, odi_tx, .func (PySem.W.fnOf "__init__" "InvalidText.__init__" (defArgs si_tx) (defBody si_tx) (defScope si_tx) .none kVi_tx dci_tx pmi_tx ani_tx cdi_tx cti_tx), sli_tx⟩)
    (xic_tx : PySem.W.codeIn K cdi_tx "InvalidText.__init__" = true)
    (xik_tx : PySem.W.keepIn K (.ref fi_tx) = true)
    (xs_tx_cm : PySem.W.subIn K (.ref C_tx) (.ref C_cm) = some false)
    (xe_tx_cm : (C_tx == C_cm) = false)
    (xs_tx_cu : PySem.W.subIn K (.ref C_tx) (.ref C_cu) = some false)
    (xe_tx_cu : (C_tx == C_cu) = false)
    (xs_tx_im : PySem.W.subIn K (.ref C_tx) (.ref C_im) = some false)
    (xe_tx_im : (C_tx == C_im) = false)
    (xs_tx_nu : PySem.W.subIn K (.ref C_tx) (.ref C_nu) = some false)
    (xe_tx_nu : (C_tx == C_nu) = false)
    (xs_tx_un : PySem.W.subIn K (.ref C_tx) (.ref C_un) = some false)
    (xe_tx_un : (C_tx == C_un) = false)
    (xs_tx_ur : PySem.W.subIn K (.ref C_tx) (.ref C_ur) = some false)
    (xe_tx_ur : (C_tx == C_ur) = false)
    {nm_cu q_cu : Str} {N_cu : Addr} {bs_cu bm_cu : List Value} {sn_cu : List Str} {su_cu : List Value} {ab_cu : Bool} {co_cu : Option Bool} {dd_cu : Option Addr} {k0_cu k1_cu k2_cu k3_cu k5_cu : Option Value}
    (xl_cu : K.lookup C_cu = some (excClassObj nm_cu q_cu C_cu N_cu bs_cu bm_cu true sn_cu su_cu ab_cu co_cu dd_cu k0_cu k1_cu k2_cu k3_cu k5_cu "ValueError.__new__"))
    (xr_cu : PySem.HandSPX.refsVE bm_cu = true)
    (xsa_cu : PySem.W.findIn K (.ref C_cu) "__setattr__" = some (some (.builtin "object.__setattr__")))
    (xga_cu : PySem.W.findIn K (.ref C_cu) "__getattribute__" = some (some (.builtin "BaseException.__getattribute__")))
    (xgg_cu : PySem.W.findIn K (.ref C_cu) "__getattr__" = some none)
    (xha_cu : PySem.W.findIn K (.ref C_cu) "__class__" = some (some (.builtin "object.__class__")))
    (xhv_cu : PySem.W.findIn K (.ref C_cu) "value" = some none)
    (xec_cu : PySem.W.subIn K (.ref C_cu) (.type "BaseException") = some true)
    (xns_cu : PySem.W.subIn K (.ref C_cu) (.type "StopIteration") = some false)
    (xsv_cu : PySem.W.subIn K (.ref C_cu) (.type "ValueError") = some true)
    (xkc_cu : PySem.W.keepIn K (.ref C_cu) = true)
    (xom_cu : PySem.W.mroIn K C_cu (.type "object") = some true)
    (xsb_cu : PySem.W.subIn K (.ref C_cu) (.ref C_b) = some true)
    (xeb_cu : (C_cu == C_b) = false)
    (xhn_cu : PySem.W.specialIn K (.builtin "object.__class__") "__get__" = some (some (.builtin "getset_descriptor.__get__")))
    (xht_cu : PySem.W.takesIn K (.builtin "object.__class__") = some true)
    {fi_cu : Addr} {odi_cu ani_cu : Option Addr} {sli_cu : Array (Option Value)} {oci_cu kVi_cu dci_cu pmi_cu cdi_cu cti_cu : Value}
    (xi_cu : PySem.W.findIn K (.ref C_cu) "__init__" = some (some (.ref fi_cu)))
    (xit_cu : PySem.W.typeIn K (.ref fi_cu) = some (.type "function"))
    (xil_cu : K.lookup fi_cu = some ⟨oci_cu, odi_cu, .func (PySem.W.fnOf "__init__" "InvalidCursor.__init__" (defArgs si_cu) (defBody si_cu) (defScope si_cu) .none kVi_cu dci_cu pmi_cu ani_cu cdi_cu cti_cu), sli_cu⟩)
    (xic_cu : PySem.W.codeIn K cdi_cu "InvalidCursor.__init__" = true)
    (xik_cu : PySem.W.keepIn K (.ref fi_cu) = true)
    (xs_cu_cm : PySem.W.subIn K (.ref C_cu) (.ref C_cm) = some false)
    (xe_cu_cm : (C_cu == C_cm) = false)
    (xs_cu_im : PySem.W.subIn K (.ref C_cu) (.ref C_im) = some false)
    (xe_cu_im : (C_cu == C_im) = false)
    (xs_cu_nu : PySem.W.subIn K (.ref C_cu) (.ref C_nu) = some false)
    (xe_cu_nu : (C_cu == C_nu) = false)
    (xs_cu_tx : PySem.W.subIn K (.ref C_cu) (.ref C_tx) = some false)
    (xe_cu_tx : (C_cu == C_tx) = false)
    (xs_cu_un : PySem.W.subIn K (.ref C_cu) (.ref C_un) = some false)
    (xe_cu_un : (C_cu == C_un) = false)
    (xs_cu_ur : PySem.W.subIn K (.ref C_cu) (.ref C_ur) = some false)
    (xe_cu_ur : (C_cu == C_ur) = false)
    {nm_cm q_cm : Str} {N_cm : Addr} {bs_cm bm_cm : List Value} {sn_cm : List Str} {su_cm : List Value} {ab_cm : Bool} {co_cm : Option Bool} {dd_cm : Option Addr} {k0_cm k1_cm k2_cm k3_cm k5_cm : Option Value}
    (xl_cm : K.lookup C_cm = some (excClassObj nm_cm q_cm C_cm N_cm bs_cm bm_cm true sn_cm su_cm ab_cm co_cm dd_cm k0_cm k1_cm k2_cm k3_cm k5_cm "ValueError.__new__"))
    (xr_cm : PySem.HandSPX.refsVE bm_cm = true)
    (xsa_cm : PySem.W.findIn K (.ref C_cm) "__setattr__" = some (some (.builtin "object.__setattr__")))
    (xga_cm : PySem.W.findIn K (.ref C_cm) "__getattribute__" = some (some (.builtin "BaseException.__getattribute__")))
    (xgg_cm : PySem.W.findIn K (.ref C_cm) "__getattr__" = some none)
    (xha_cm : PySem.W.findIn K (.ref C_cm) "__class__" = some (some (.builtin "object.__class__")))
    (xhv_cm : PySem.W.findIn K (.ref C_cm) "value" = some none)
    (xec_cm : PySem.W.subIn K (.ref C_cm) (.type "BaseException") = some true)
    (xns_cm : PySem.W.subIn K (.ref C_cm) (.type "StopIteration") = some false)
    (xsv_cm : PySem.W.subIn K (.ref C_cm) (.type "ValueError") = some true)
    (xkc_cm : PySem.W.keepIn K (.ref C_cm) = true)
    (xom_cm : PySem.W.mroIn K C_cm (.type "object") = some true)
    (xsb_cm : PySem.W.subIn K (.ref C_cm) (.ref C_b) = some true)
    (xeb_cm : (C_cm == C_b) = false)
    (xhn_cm : PySem.W.specialIn K (.builtin "object.__class__") "__get__" = some (some (.builtin "getset_descriptor.__get__")))
    (xht_cm : PySem.W.takesIn K (.builtin "object.__class__") = some true)
    {fi_cm : Addr} {odi_cm ani_cm : Option Addr} {sli_cm : Array (Option Value)} {oci_cm kVi_cm dci_cm pmi_cm cdi_cm cti_cm : Value}
    (xi_cm : PySem.W.findIn K (.ref C_cm) "__init__" = some (some (.ref fi_cm)))
    (xit_cm : PySem.W.typeIn K (.ref fi_cm) = some (.type "function"))
    (xil_cm : K.lookup fi_cm = some ⟨oci_cm, odi_cm, .func (PySem.W.fnOf "__init__" "InvalidCommand.__init__" (defArgs si_cm) (defBody si_cm) (defScope si_cm) .none kVi_cm dci_cm pmi_cm ani_cm cdi_cm cti_cm), sli_cm⟩)
    (xic_cm : PySem.W.codeIn K cdi_cm "InvalidCommand.__init__" = true)
    (xik_cm : PySem.W.keepIn K (.ref fi_cm) = true)
    (xs_cm_cu : PySem.W.subIn K (.ref C_cm) (.ref C_cu) = some false)
    (xe_cm_cu : (C_cm == C_cu) = false)
    (xs_cm_im : PySem.W.subIn K (.ref C_cm) (.ref C_im) = some false)
    (xe_cm_im : (C_cm == C_im) = false)
    (xs_cm_nu : PySem.W.subIn K (.ref C_cm) (.ref C_nu) = some false)
    (xe_cm_nu : (C_cm == C_nu) = false)
    (xs_cm_tx : PySem.W.subIn K (.ref C_cm) (.ref C_tx) = some false)
    (xe_cm_tx : (C_cm == C_tx) = false)
    (xs_cm_un : PySem.W.subIn K (.ref C_cm) (.ref C_un) = some false)
    (xe_cm_un : (C_cm == C_un) = false)
    (xs_cm_ur : PySem.W.subIn K (.ref C_cm) (.ref C_ur) = some false)
    (xe_cm_ur : (C_cm == C_ur) = false)
    {nm_im q_im : Str} {N_im : Addr} {bs_im bm_im : List Value} {sn_im : List Str} {su_im : List Value} {ab_im : Bool} {co_im : Option Bool} {dd_im : Option Addr} {k0_im k1_im k2_im k3_im k5_im : Option Value}
    (xl_im : K.lookup C_im = some (excClassObj nm_im q_im C_im N_im bs_im bm_im true sn_im su_im ab_im co_im dd_im k0_im k1_im k2_im k3_im k5_im "ValueError.__new__"))
    (xr_im : PySem.HandSPX.refsVE bm_im = true)
    (xsa_im : PySem.W.findIn K (.ref C_im) "__setattr__" = some (some (.builtin "object.__setattr__")))
    (xga_im : PySem.W.findIn K (.ref C_im) "__getattribute__" = some (some (.builtin "BaseException.__getattribute__")))
    (xgg_im : PySem.W.findIn K (.ref C_im) "__getattr__" = some none)
    (xha_im : PySem.W.findIn K (.ref C_im) "__class__" = some (some (.builtin "object.__class__")))
    (xhv_im : PySem.W.findIn K (.ref C_im) "value" = some none)
    (xec_im : PySem.W.subIn K (.ref C_im) (.type "BaseException") = some true)
    (xns_im : PySem.W.subIn K (.ref C_im) (.type "StopIteration") = some false)
    (xsv_im : PySem.W.subIn K (.ref C_im) (.type "ValueError") = some true)
    (xkc_im : PySem.W.keepIn K (.ref C_im) = true)
    (xom_im : PySem.W.mroIn K C_im (.type "object") = some true)
    (xsb_im : PySem.W.subIn K (.ref C_im) (.ref C_b) = some true)
    (xeb_im : (C_im == C_b) = false)
    (xhn_im : PySem.W.specialIn K (.builtin "object.__class__") "__get__" = some (some (.builtin "getset_descriptor.__get__")))
    (xht_im : PySem.W.takesIn K (.builtin "object.__class__") = some true)
    {fi_im : Addr} {odi_im ani_im : Option Addr} {sli_im : Array (Option Value)} {oci_im kVi_im dci_im pmi_im cdi_im cti_im : Value}
    (xi_im : PySem.W.findIn K (.ref C_im) "__init__" = some (some (.ref fi_im)))
    (xit_im : PySem.W.typeIn K (.ref fi_im) = some (.type "function"))
    (xil_im : K.lookup fi_im = some ⟨oci_im, odi_im, .func (PySem.W.fnOf "__init__" "Impossible.__init__" (defArgs si_im) (defBody si_im) (defScope si_im) .none kVi_im dci_im pmi_im ani_im cdi_im cti_im), sli_im⟩)
    (xic_im : PySem.W.codeIn K cdi_im "Impossible.__init__" = true)
    (xik_im : PySem.W.keepIn K (.ref fi_im) = true)
    (xs_im_cm : PySem.W.subIn K (.ref C_im) (.ref C_cm) = some false)
    (xe_im_cm : (C_im == C_cm) = false)
    (xs_im_cu : PySem.W.subIn K (.ref C_im) (.ref C_cu) = some false)
    (xe_im_cu : (C_im == C_cu) = false)
    (xs_im_nu : PySem.W.subIn K (.ref C_im) (.ref C_nu) = some false)
    (xe_im_nu : (C_im == C_nu) = false)
    (xs_im_tx : PySem.W.subIn K (.ref C_im) (.ref C_tx) = some false)
    (xe_im_tx : (C_im == C_tx) = false)
    (xs_im_un : PySem.W.subIn K (.ref C_im) (.ref C_un) = some false)
    (xe_im_un : (C_im == C_un) = false)
    (xs_im_ur : PySem.W.subIn K (.ref C_im) (.ref C_ur) = some false)
    (xe_im_ur : (C_im == C_ur) = false)
    {nm_nu q_nu : Str} {N_nu : Addr} {bs_nu bm_nu : List Value} {sn_nu : List Str} {su_nu : List Value} {ab_nu : Bool} {co_nu : Option Bool} {dd_nu : Option Addr} {k0_nu k1_nu k2_nu k3_nu k5_nu : Option Value}
    (xl_nu : K.lookup C_nu = some (excClassObj nm_nu q_nu C_nu N_nu bs_nu bm_nu true sn_nu su_nu ab_nu co_nu dd_nu k0_nu k1_nu k2_nu k3_nu k5_nu "ValueError.__new__"))
    (xr_nu : PySem.HandSPX.refsVE bm_nu = true)
    (xsa_nu : PySem.W.findIn K (.ref C_nu) "__setattr__" = some (some (.builtin "object.__setattr__")))
    (xga_nu : PySem.W.findIn K (.ref C_nu) "__getattribute__" = some (some (.builtin "BaseException.__getattribute__")))
    (xgg_nu : PySem.W.findIn K (.ref C_nu) "__getattr__" = some none)
    (xha_nu : PySem.W.findIn K (.ref C_nu) "__class__" = some (some (.builtin "object.__class__")))
    (xhv_nu : PySem.W.findIn K (.ref C_nu) "value" = some none)
    (xec_nu : PySem.W.subIn K (.ref C_nu) (.type "BaseException") = some true)
    (xns_nu : PySem.W.subIn K (.ref C_nu) (.type "StopIteration") = some false)
    (xsv_nu : PySem.W.subIn K (.ref C_nu) (.type "ValueError") = some true)
    (xkc_nu : PySem.W.keepIn K (.ref C_nu) = true)
    (xom_nu : PySem.W.mroIn K C_nu (.type "object") = some true)
    (xsb_nu : PySem.W.subIn K (.ref C_nu) (.ref C_b) = some true)
    (xeb_nu : (C_nu == C_b) = false)
    (xhn_nu : PySem.W.specialIn K (.builtin "object.__class__") "__get__" = some (some (.builtin "getset_descriptor.__get__")))
    (xht_nu : PySem.W.takesIn K (.builtin "object.__class__") = some true)
    {fi_nu : Addr} {odi_nu ani_nu : Option Addr} {sli_nu : Array (Option Value)} {oci_nu kVi_nu dci_nu pmi_nu cdi_nu cti_nu : Value}
    (xi_nu : PySem.W.findIn K (.ref C_nu) "__init__" = some (some (.ref fi_nu)))
    (xit_nu : PySem.W.typeIn K (.ref fi_nu) = some (.type "function"))
    (xil_nu : K.lookup fi_nu = some ⟨oci_nu, odi_nu, .func (PySem.W.fnOf "__init__" "InvalidNumber.__init__" (defArgs si_nu) (defBody si_nu) (defScope si_nu) .none kVi_nu dci_nu pmi_nu ani_nu cdi_nu cti_nu), sli_nu⟩)
    (xic_nu : PySem.W.codeIn K cdi_nu "InvalidNumber.__init__" = true)
    (xik_nu : PySem.W.keepIn K (.ref fi_nu) = true)
    (xs_nu_cm : PySem.W.subIn K (.ref C_nu) (.ref C_cm) = some false)
    (xe_nu_cm : (C_nu == C_cm) = false)
    (xs_nu_cu : PySem.W.subIn K (.ref C_nu) (.ref C_cu) = some false)
    (xe_nu_cu : (C_nu == C_cu) = false)
    (xs_nu_im : PySem.W.subIn K (.ref C_nu) (.ref C_im) = some false)
    (xe_nu_im : (C_nu == C_im) = false)
    (xs_nu_tx : PySem.W.subIn K (.ref C_nu) (.ref C_tx) = some false)
    (xe_nu_tx : (C_nu == C_tx) = false)
    (xs_nu_un : PySem.W.subIn K (.ref C_nu) (.ref C_un) = some false)
    (xe_nu_un : (C_nu == C_un) = false)
    (xs_nu_ur : PySem.W.subIn K (.ref C_nu) (.ref C_ur) = some false)
    (xe_nu_ur : (C_nu == C_ur) = false)
    {nm_un q_un : Str} {N_un : Addr} {bs_un bm_un : List Value} {sn_un : List Str} {su_un : List Value} {ab_un : Bool} {co_un : Option Bool} {dd_un : Option Addr} {k0_un k1_un k2_un k3_un k5_un : Option Value}
    (xl_un : K.lookup C_un = some (excClassObj nm_un q_un C_un N_un bs_un bm_un true sn_un su_un ab_un co_un dd_un k0_un k1_un k2_un k3_un k5_un "ValueError.__new__"))
    (xr_un : PySem.HandSPX.refsVE bm_un = true)
    (xsa_un : PySem.W.findIn K (.ref C_un) "__setattr__" = some (some (.builtin "object.__setattr__")))
    (xga_un : PySem.W.findIn K (.ref C_un) "__getattribute__" = some (some (.builtin "BaseException.__getattribute__")))
    (xgg_un : PySem.W.findIn K (.ref C_un) "__getattr__" = some none)
    (xha_un : PySem.W.findIn K (.ref C_un) "__class__" = some (some (.builtin "object.__class__")))
    (xhv_un : PySem.W.findIn K (.ref C_un) "value" = some none)
    (xec_un : PySem.W.subIn K (.ref C_un) (.type "BaseException") = some true)
    (xns_un : PySem.W.subIn K (.ref C_un) (.type "StopIteration") = some false)
    (xsv_un : PySem.W.subIn K (.ref C_un) (.type "ValueError") = some true)
    (xkc_un : PySem.W.keepIn K (.ref C_un) = true)
    (xom_un : PySem.W.mroIn K C_un (.type "object") = some true)
    (xsb_un : PySem.W.subIn K (.ref C_un) (.ref C_b) = some true)
    (xeb_un : (C_un == C_b) = false)
    (xhn_un : PySem.W.specialIn K (.builtin "object.__class__") "__get__" = some (some (.builtin "getset_descriptor.__get__")))
    (xht_un : PySem.W.takesIn K (.builtin "object.__class__") = some true)
    {fi_un : Addr} {odi_un ani_un : Option Addr} {sli_un : Array (Option Value)} {oci_un kVi_un dci_un pmi_un cdi_un cti_un : Value}
    (xi_un : PySem.W.findIn K (.ref C_un) "__init__" = some (some (.ref fi_un)))
    (xit_un : PySem.W.typeIn K (.ref fi_un) = some (.type "function"))
    (xil_un : K.lookup fi_un = some ⟨oci_un, odi_un, .func (PySem.W.fnOf "__init__" "NothingToUndo.__init__" (defArgs si_un) (defBody si_un) (defScope si_un) .none kVi_un dci_un pmi_un ani_un cdi_un cti_un), sli_un⟩)
    (xic_un : PySem.W.codeIn K cdi_un "NothingToUndo.__init__" = true)
    (xik_un : PySem.W.keepIn K (.ref fi_un) = true)
    (xs_un_cm : PySem.W.subIn K (.ref C_un) (.ref C_cm) = some false)
    (xe_un_cm : (C_un == C_cm) = false)
    (xs_un_cu : PySem.W.subIn K (.ref C_un) (.ref C_cu) = some false)
    (xe_un_cu : (C_un == C_cu) = false)
    (xs_un_im : PySem.W.subIn K (.ref C_un) (.ref C_im) = some false)
    (xe_un_im : (C_un == C_im) = false)
    (xs_un_nu : PySem.W.subIn K (.ref C_un) (.ref C_nu) = some false)
    (xe_un_nu : (C_un == C_nu) = false)
    (xs_un_tx : PySem.W.subIn K (.ref C_un) (.ref C_tx) = some false)
    (xe_un_tx : (C_un == C_tx) = false)
    (xs_un_ur : PySem.W.subIn K (.ref C_un) (.ref C_ur) = some false)
    (xe_un_ur : (C_un == C_ur) = false)
    {nm_ur q_ur : Str} {N_ur : Addr} {bs_ur bm_ur : List Value} {sn_ur : List Str} {su_ur : List Value} {ab_ur : Bool} {co_ur : Option Bool} {dd_ur : Option Addr} {k0_ur k1_ur k2_ur k3_ur k5_ur : Option Value}
    (xl_ur : K.lookup C_ur = some (excClassObj nm_ur q_ur C_ur N_ur bs_ur bm_ur true sn_ur su_ur ab_ur co_ur dd_ur k0_ur k1_ur k2_ur k3_ur k5_ur "ValueError.__new__"))
    (xr_ur : PySem.HandSPX.refsVE bm_ur = true)
    (xsa_ur : PySem.W.findIn K (.ref C_ur) "__setattr__" = some (some (.builtin "object.__setattr__")))
    (xga_ur : PySem.W.findIn K (.ref C_ur) "__getattribute__" = some (some (.builtin "BaseException.__getattribute__")))
    (xgg_ur : PySem.W.findIn K (.ref C_ur) "__getattr__" = some none)
    (xha_ur : PySem.W.findIn K (.ref C_ur) "__class__" = some (some (.builtin "object.__class__")))
    (xhv_ur : PySem.W.findIn K (.ref C_ur) "value" = some none)
    (xec_ur : PySem.W.subIn K (.ref C_ur) (.type "BaseException") = some true)
    (xns_ur : PySem.W.subIn K (.ref C_ur) (.type "StopIteration") = some false)
    (xsv_ur : PySem.W.subIn K (.ref C_ur) (.type "ValueError") = some true)
    (xkc_ur : PySem.W.keepIn K (.ref C_ur) = true)
    (xom_ur : PySem.W.mroIn K C_ur (.type "object") = some true)
    (xsb_ur : PySem.W.subIn K (.ref C_ur) (.ref C_b) = some true)
    (xeb_ur : (C_ur == C_b) = false)
    (xhn_ur : PySem.W.specialIn K (.builtin "object.__class__") "__get__" = some (some (.builtin "getset_descriptor.__get__")))
    (xht_ur : PySem.W.takesIn K (.builtin "object.__class__") = some true)
    {fi_ur : Addr} {odi_ur ani_ur : Option Addr} {sli_ur : Array (Option Value)} {oci_ur kVi_ur dci_ur pmi_ur cdi_ur cti_ur : Value}
    (xi_ur : PySem.W.findIn K (.ref C_ur) "__init__" = some (some (.ref fi_ur)))
    (xit_ur : PySem.W.typeIn K (.ref fi_ur) = some (.type "function"))
    (xil_ur : K.lookup fi_ur = some ⟨oci_ur, odi_ur, .func (PySem.W.fnOf "__init__" "Unreadable.__init__" (defArgs si_ur) (defBody si_ur) (defScope si_ur) .none kVi_ur dci_ur pmi_ur ani_ur cdi_ur cti_ur), sli_ur⟩)
    (xic_ur : PySem.W.codeIn K cdi_ur "Unreadable.__init__" = true)
    (xik_ur : PySem.W.keepIn K (.ref fi_ur) = true)
    (xs_ur_cm : PySem.W.subIn K (.ref C_ur) (.ref C_cm) = some false)
    (xe_ur_cm : (C_ur == C_cm) = false)
    (xs_ur_cu : PySem.W.subIn K (.ref C_ur) (.ref C_cu) = some false)
    (xe_ur_cu : (C_ur == C_cu) = false)
    (xs_ur_im : PySem.W.subIn K (.ref C_ur) (.ref C_im) = some false)
    (xe_ur_im : (C_ur == C_im) = false)
    (xs_ur_nu : PySem.W.subIn K (.ref C_ur) (.ref C_nu) = some false)
    (xe_ur_nu : (C_ur == C_nu) = false)
    (xs_ur_tx : PySem.W.subIn K (.ref C_ur) (.ref C_tx) = some false)
    (xe_ur_tx : (C_ur == C_tx) = false)
    (xs_ur_un : PySem.W.subIn K (.ref C_ur) (.ref C_un) = some false)
    (xe_ur_un : (C_ur == C_un) = false)
    (z_ValueError : PySem.W.nsIn K mainGlobals "ValueError" = some none)
    (z_bool : PySem.W.nsIn K mainGlobals "bool" = some none)
    (z_int : PySem.W.nsIn K mainGlobals "int" = some none)
    (z_isinstance : PySem.W.nsIn K mainGlobals "isinstance" = some none)
    (z_len : PySem.W.nsIn K mainGlobals "len" = some none)
    (z_list : PySem.W.nsIn K mainGlobals "list" = some none)
    (z_max : PySem.W.nsIn K mainGlobals "max" = some none)
    (z_min : PySem.W.nsIn K mainGlobals "min" = some none)
    (z_range : PySem.W.nsIn K mainGlobals "range" = some none)
    (z_str : PySem.W.nsIn K mainGlobals "str" = some none)
    (z_tuple : PySem.W.nsIn K mainGlobals "tuple" = some none)
    : @Top (clsOf C_b C_cm C_cu C_im C_nu C_tx C_un C_ur) K w mg :=
    letI : Cls := clsOf C_b C_cm C_cu C_im C_nu C_tx C_un C_ur
    {
  m_base := PySem.W.mg_of X G xm_base
  b_base := ⟨xb_ga, xb_ri, xb_fc, xb_be, xb_hd, xb_ty⟩
  m_cm := PySem.W.mg_of X G xm_cm
  a_cm := ⟨xh_cm, xt_cm⟩
  m_cu := PySem.W.mg_of X G xm_cu
  a_cu := ⟨xh_cu, xt_cu⟩
  m_im := PySem.W.mg_of X G xm_im
  a_im := ⟨xh_im, xt_im⟩
  m_nu := PySem.W.mg_of X G xm_nu
  a_nu := ⟨xh_nu, xt_nu⟩
  m_tx := PySem.W.mg_of X G xm_tx
  a_tx := ⟨xh_tx, xt_tx⟩
  m_un := PySem.W.mg_of X G xm_un
  a_un := ⟨xh_un, xt_un⟩
  m_ur := PySem.W.mg_of X G xm_ur
  a_ur := ⟨xh_ur, xt_ur⟩
  r_tx := ⟨⟨xga_tx, xgg_tx, xec_tx, xh_tx, xha_tx, xhn_tx, xht_tx, xom_tx, xhv_tx⟩, ⟨⟨_, _, _, _, _, _, _, _, _, _, _, _, _, _, _, xl_tx, xr_tx⟩, xsa_tx, xec_tx, xt_tx, xkc_tx⟩, xsv_tx⟩
  i_tx := ⟨_, _, xi_tx, xit_tx, fun_mk xil_tx xic_tx xik_tx⟩
  ns_tx := xns_tx
  s_tx_base := xsb_tx
  e_tx_base := xeb_tx
  s_tx_cm := xs_tx_cm
  e_tx_cm := xe_tx_cm
  s_tx_cu := xs_tx_cu
  e_tx_cu := xe_tx_cu
  s_tx_im := xs_tx_im
  e_tx_im := xe_tx_im
  s_tx_nu := xs_tx_nu
  e_tx_nu := xe_tx_nu
  s_tx_un := xs_tx_un
  e_tx_un := xe_tx_un
  s_tx_ur := xs_tx_ur
  e_tx_ur := xe_tx_ur
  r_cu := ⟨⟨xga_cu, xgg_cu, xec_cu, xh_cu, xha_cu, xhn_cu, xht_cu, xom_cu, xhv_cu⟩, ⟨⟨_, _, _, _, _, _, _, _, _, _, _, _, _, _, _, xl_cu, xr_cu⟩, xsa_cu, xec_cu, xt_cu, xkc_cu⟩, xsv_cu⟩
  i_cu := ⟨_, _, xi_cu, xit_cu, fun_mk xil_cu xic_cu xik_cu⟩
  ns_cu := xns_cu
  s_cu_base := xsb_cu
  e_cu_base := xeb_cu
  s_cu_cm := xs_cu_cm
  e_cu_cm := xe_cu_cm
  s_cu_im := xs_cu_im
  e_cu_im := xe_cu_im
  s_cu_nu := xs_cu_nu
  e_cu_nu := xe_cu_nu
  s_cu_tx := xs_cu_tx
  e_cu_tx := xe_cu_tx
  s_cu_un := xs_cu_un
  e_cu_un := xe_cu_un
  s_cu_ur := xs_cu_ur
  e_cu_ur := xe_cu_ur
  r_cm := ⟨⟨xga_cm, xgg_cm, xec_cm, xh_cm, xha_cm, xhn_cm, xht_cm, xom_cm, xhv_cm⟩, ⟨⟨_, _, _, _, _, _, _, _, _, _, _, _, _, _, _, xl_cm, xr_cm⟩, xsa_cm, xec_cm, xt_cm, xkc_cm⟩, xsv_cm⟩
  i_cm := ⟨_, _, xi_cm, xit_cm, fun_mk xil_cm xic_cm xik_cm⟩
  ns_cm := xns_cm
  s_cm_base := xsb_cm
  e_cm_base := xeb_cm
  s_cm_cu := xs_cm_cu
  e_cm_cu := xe_cm_cu
  s_cm_im := xs_cm_im
  e_cm_im := xe_cm_im
  s_cm_nu := xs_cm_nu
  e_cm_nu := xe_cm_nu
  s_cm_tx := xs_cm_tx
  e_cm_tx := xe_cm_tx
  s_cm_un := xs_cm_un
  e_cm_un := xe_cm_un
  s_cm_ur := xs_cm_ur
  e_cm_ur := xe_cm_ur
  r_im := ⟨⟨xga_im, xgg_im, xec_im, xh_im, xha_im, xhn_im, xht_im, xom_im, xhv_im⟩, ⟨⟨_, _, _, _, _, _, _, _, _, _, _, _, _, _, _, xl_im, xr_im⟩, xsa_im, xec_im, xt_im, xkc_im⟩, xsv_im⟩
  i_im := ⟨_, _, xi_im, xit_im, fun_mk xil_im xic_im xik_im⟩
  ns_im := xns_im
  s_im_base := xsb_im
  e_im_base := xeb_im
  s_im_cm := xs_im_cm
  e_im_cm := xe_im_cm
  s_im_cu := xs_im_cu
  e_im_cu := xe_im_cu
  s_im_nu := xs_im_nu
  e_im_nu := xe_im_nu
  s_im_tx := xs_im_tx
  e_im_tx := xe_im_tx
  s_im_un := xs_im_un
  e_im_un := xe_im_un
  s_im_ur := xs_im_ur
  e_im_ur := xe_im_ur
  r_nu := ⟨⟨xga_nu, xgg_nu, xec_nu, xh_nu, xha_nu, xhn_nu, xht_nu, xom_nu, xhv_nu⟩, ⟨⟨_, _, _, _, _, _, _, _, _, _, _, _, _, _, _, xl_nu, xr_nu⟩, xsa_nu, xec_nu, xt_nu, xkc_nu⟩, xsv_nu⟩
  i_nu := ⟨_, _, xi_nu, xit_nu, fun_mk xil_nu xic_nu xik_nu⟩
  ns_nu := xns_nu
  s_nu_base := xsb_nu
  e_nu_base := xeb_nu
  s_nu_cm := xs_nu_cm
  e_nu_cm := xe_nu_cm
  s_nu_cu := xs_nu_cu
  e_nu_cu := xe_nu_cu
  s_nu_im := xs_nu_im
  e_nu_im := xe_nu_im
  s_nu_tx := xs_nu_tx
  e_nu_tx := xe_nu_tx
  s_nu_un := xs_nu_un
  e_nu_un := xe_nu_un
  s_nu_ur := xs_nu_ur
  e_nu_ur := xe_nu_ur
  r_un := ⟨⟨xga_un, xgg_un, xec_un, xh_un, xha_un, xhn_un, xht_un, xom_un, xhv_un⟩, ⟨⟨_, _, _, _, _, _, _, _, _, _, _, _, _, _, _, xl_un, xr_un⟩, xsa_un, xec_un, xt_un, xkc_un⟩, xsv_un⟩
  i_un := ⟨_, _, xi_un, xit_un, fun_mk xil_un xic_un xik_un⟩
  ns_un := xns_un
  s_un_base := xsb_un
  e_un_base := xeb_un
  s_un_cm := xs_un_cm
  e_un_cm := xe_un_cm
  s_un_cu := xs_un_cu
  e_un_cu := xe_un_cu
  s_un_im := xs_un_im
  e_un_im := xe_un_im
  s_un_nu := xs_un_nu
  e_un_nu := xe_un_nu
  s_un_tx := xs_un_tx
  e_un_tx := xe_un_tx
  s_un_ur := xs_un_ur
  e_un_ur := xe_un_ur
  r_ur := ⟨⟨xga_ur, xgg_ur, xec_ur, xh_ur, xha_ur, xhn_ur, xht_ur, xom_ur, xhv_ur⟩, ⟨⟨_, _, _, _, _, _, _, _, _, _, _, _, _, _, _, xl_ur, xr_ur⟩, xsa_ur, xec_ur, xt_ur, xkc_ur⟩, xsv_ur⟩
  i_ur := ⟨_, _, xi_ur, xit_ur, fun_mk xil_ur xic_ur xik_ur⟩
  ns_ur := xns_ur
  s_ur_base := xsb_ur
  e_ur_base := xeb_ur
  s_ur_cm := xs_ur_cm
  e_ur_cm := xe_ur_cm
  s_ur_cu := xs_ur_cu
  e_ur_cu := xe_ur_cu
  s_ur_im := xs_ur_im
  e_ur_im := xe_ur_im
  s_ur_nu := xs_ur_nu
  e_ur_nu := xe_ur_nu
  s_ur_tx := xs_ur_tx
  e_ur_tx := xe_ur_tx
  s_ur_un := xs_ur_un
  e_ur_un := xe_ur_un
  h__law_source := ⟨_, _, PySem.W.mg_of X G a0, fun_mk l0 c0 k0⟩
  h__law_draw := ⟨_, _, PySem.W.mg_of X G a1, fun_mk l1 c1 k1⟩
  h__law_same := ⟨_, _, PySem.W.mg_of X G a2, fun_mk l2 c2 k2⟩
  h__law_error := ⟨_, _, PySem.W.mg_of X G a3, fun_mk l3 c3 k3⟩
  h__law_made := ⟨_, _, PySem.W.mg_of X G a4, fun_mk l4 c4 k4⟩
  h_law := ⟨_, _, PySem.W.mg_of X G a5, fun_mk l5 c5 k5⟩
  n_ValueError := PySem.W.mg_none_of X G z_ValueError
  n_bool := PySem.W.mg_none_of X G z_bool
  n_int := PySem.W.mg_none_of X G z_int
  n_isinstance := PySem.W.mg_none_of X G z_isinstance
  n_len := PySem.W.mg_none_of X G z_len
  n_list := PySem.W.mg_none_of X G z_list
  n_max := PySem.W.mg_none_of X G z_max
  n_min := PySem.W.mg_none_of X G z_min
  n_range := PySem.W.mg_none_of X G z_range
  n_str := PySem.W.mg_none_of X G z_str
  n_tuple := PySem.W.mg_none_of X G z_tuple
    }
end SL
open PySem PySem.W PyProof.Rows
set_option maxHeartbeats 0 in
theorem PySem.Challenge.cw_goalcolumn_k01_errors_and_their_values_holds : PySem.Challenge.rw_goalcolumn_k01_errors_and_their_values.Holds := by
  w_on; o_law; k_head; (case hw => w_witness2)
  k_fill
  refine SL.walkG_of (l := PySem.Challenge.rw_goalcolumn_k01_errors_and_their_values) (k := 9) (x := "script") rfl rfl ⟨rfl, by decide, by decide⟩ (fun w h Y => PySem.W.kIn_of Y) ?F
  case F =>
    intro w mg fa h KX G hmg
    refine SL.fin (clz := ?CL) ?TT hmg
    case TT =>
      refine' SL.all_mk KX G ?a0 ?l0 ?c0 ?k0 ?a1 ?l1 ?c1 ?k1 ?a2 ?l2 ?c2 ?k2 ?a3 ?l3 ?c3 ?k3 ?a4 ?l4 ?c4 ?k4 ?a5 ?l5 ?c5 ?k5 ?xm_base ?xb_ga ?xb_ri ?xb_fc ?xb_be ?xb_hd ?xb_ty ?xm_cm ?xh_cm ?xt_cm ?xm_cu ?xh_cu ?xt_cu ?xm_im ?xh_im ?xt_im ?xm_nu ?xh_nu ?xt_nu ?xm_tx ?xh_tx ?xt_tx ?xm_un ?xh_un ?xt_un ?xm_ur ?xh_ur ?xt_ur ?xl_tx ?xr_tx ?xsa_tx ?xga_tx ?xgg_tx ?xha_tx ?xhv_tx ?xec_tx ?xns_tx ?xsv_tx ?xkc_tx ?xom_tx ?xsb_tx ?xeb_tx ?xhn_tx ?xht_tx ?xi_tx ?xit_tx ?xil_tx ?xic_tx ?xik_tx ?xs_tx_cm ?xe_tx_cm ?xs_tx_cu ?xe_tx_cu ?xs_tx_im ?xe_tx_im ?xs_tx_nu ?xe_tx_nu ?xs_tx_un ?xe_tx_un ?xs_tx_ur ?xe_tx_ur ?xl_cu ?xr_cu ?xsa_cu ?xga_cu ?xgg_cu ?xha_cu ?xhv_cu ?xec_cu ?xns_cu ?xsv_cu ?xkc_cu ?xom_cu ?xsb_cu ?xeb_cu ?xhn_cu ?xht_cu ?xi_cu ?xit_cu ?xil_cu ?xic_cu ?xik_cu ?xs_cu_cm ?xe_cu_cm ?xs_cu_im ?xe_cu_im ?xs_cu_nu ?xe_cu_nu ?xs_cu_tx ?xe_cu_tx ?xs_cu_un ?xe_cu_un ?xs_cu_ur ?xe_cu_ur ?xl_cm ?xr_cm ?xsa_cm ?xga_cm ?xgg_cm ?xha_cm ?xhv_cm ?xec_cm ?xns_cm ?xsv_cm ?xkc_cm ?xom_cm ?xsb_cm ?xeb_cm ?xhn_cm ?xht_cm ?xi_cm ?xit_cm ?xil_cm ?xic_cm ?xik_cm ?xs_cm_cu ?xe_cm_cu ?xs_cm_im ?xe_cm_im ?xs_cm_nu ?xe_cm_nu ?xs_cm_tx ?xe_cm_tx ?xs_cm_un ?xe_cm_un ?xs_cm_ur ?xe_cm_ur ?xl_im ?xr_im ?xsa_im ?xga_im ?xgg_im ?xha_im ?xhv_im ?xec_im ?xns_im ?xsv_im ?xkc_im ?xom_im ?xsb_im ?xeb_im ?xhn_im ?xht_im ?xi_im ?xit_im ?xil_im ?xic_im ?xik_im ?xs_im_cm ?xe_im_cm ?xs_im_cu ?xe_im_cu ?xs_im_nu ?xe_im_nu ?xs_im_tx ?xe_im_tx ?xs_im_un ?xe_im_un ?xs_im_ur ?xe_im_ur ?xl_nu ?xr_nu ?xsa_nu ?xga_nu ?xgg_nu ?xha_nu ?xhv_nu ?xec_nu ?xns_nu ?xsv_nu ?xkc_nu ?xom_nu ?xsb_nu ?xeb_nu ?xhn_nu ?xht_nu ?xi_nu ?xit_nu ?xil_nu ?xic_nu ?xik_nu ?xs_nu_cm ?xe_nu_cm ?xs_nu_cu ?xe_nu_cu ?xs_nu_im ?xe_nu_im ?xs_nu_tx ?xe_nu_tx ?xs_nu_un ?xe_nu_un ?xs_nu_ur ?xe_nu_ur ?xl_un ?xr_un ?xsa_un ?xga_un ?xgg_un ?xha_un ?xhv_un ?xec_un ?xns_un ?xsv_un ?xkc_un ?xom_un ?xsb_un ?xeb_un ?xhn_un ?xht_un ?xi_un ?xit_un ?xil_un ?xic_un ?xik_un ?xs_un_cm ?xe_un_cm ?xs_un_cu ?xe_un_cu ?xs_un_im ?xe_un_im ?xs_un_nu ?xe_un_nu ?xs_un_tx ?xe_un_tx ?xs_un_ur ?xe_un_ur ?xl_ur ?xr_ur ?xsa_ur ?xga_ur ?xgg_ur ?xha_ur ?xhv_ur ?xec_ur ?xns_ur ?xsv_ur ?xkc_ur ?xom_ur ?xsb_ur ?xeb_ur ?xhn_ur ?xht_ur ?xi_ur ?xit_ur ?xil_ur ?xic_ur ?xik_ur ?xs_ur_cm ?xe_ur_cm ?xs_ur_cu ?xe_ur_cu ?xs_ur_im ?xe_ur_im ?xs_ur_nu ?xe_ur_nu ?xs_ur_tx ?xe_ur_tx ?xs_ur_un ?xe_ur_un ?z_ValueError ?z_bool ?z_int ?z_isinstance ?z_len ?z_list ?z_max ?z_min ?z_range ?z_str ?z_tuple
      (case a0 => k_is); (case l0 => k_is); (case c0 => k_is); (case k0 => k_is); (case a1 => k_is); (case l1 => k_is); (case c1 => k_is); (case k1 => k_is); (case a2 => k_is); (case l2 => k_is); (case c2 => k_is); (case k2 => k_is); (case a3 => k_is); (case l3 => k_is); (case c3 => k_is); (case k3 => k_is); (case a4 => k_is); (case l4 => k_is); (case c4 => k_is); (case k4 => k_is); (case a5 => k_is); (case l5 => k_is); (case c5 => k_is); (case k5 => k_is); (case xm_base => k_is); (case xb_ga => k_is); (case xb_ri => k_is); (case xb_fc => k_is); (case xb_be => k_is); (case xb_hd => k_is); (case xb_ty => k_is); (case xm_cm => k_is); (case xh_cm => k_is); (case xt_cm => k_is); (case xm_cu => k_is); (case xh_cu => k_is); (case xt_cu => k_is); (case xm_im => k_is); (case xh_im => k_is); (case xt_im => k_is); (case xm_nu => k_is); (case xh_nu => k_is); (case xt_nu => k_is); (case xm_tx => k_is); (case xh_tx => k_is); (case xt_tx => k_is); (case xm_un => k_is); (case xh_un => k_is); (case xt_un => k_is); (case xm_ur => k_is); (case xh_ur => k_is); (case xt_ur => k_is); (case xl_tx => k_is); (case xr_tx => exact rfl); (case xsa_tx => k_is); (case xga_tx => k_is); (case xgg_tx => k_is); (case xha_tx => k_is); (case xhv_tx => k_is); (case xec_tx => k_is); (case xns_tx => k_is); (case xsv_tx => k_is); (case xkc_tx => k_is); (case xom_tx => k_is); (case xsb_tx => k_is); (case xeb_tx => exact rfl); (case xhn_tx => k_is); (case xht_tx => k_is); (case xi_tx => k_is); (case xit_tx => k_is); (case xil_tx => k_is); (case xic_tx => k_is); (case xik_tx => k_is); (case xs_tx_cm => k_is); (case xe_tx_cm => exact rfl); (case xs_tx_cu => k_is); (case xe_tx_cu => exact rfl); (case xs_tx_im => k_is); (case xe_tx_im => exact rfl); (case xs_tx_nu => k_is); (case xe_tx_nu => exact rfl); (case xs_tx_un => k_is); (case xe_tx_un => exact rfl); (case xs_tx_ur => k_is); (case xe_tx_ur => exact rfl); (case xl_cu => k_is); (case xr_cu => exact rfl); (case xsa_cu => k_is); (case xga_cu => k_is); (case xgg_cu => k_is); (case xha_cu => k_is); (case xhv_cu => k_is); (case xec_cu => k_is); (case xns_cu => k_is); (case xsv_cu => k_is); (case xkc_cu => k_is); (case xom_cu => k_is); (case xsb_cu => k_is); (case xeb_cu => exact rfl); (case xhn_cu => k_is); (case xht_cu => k_is); (case xi_cu => k_is); (case xit_cu => k_is); (case xil_cu => k_is); (case xic_cu => k_is); (case xik_cu => k_is); (case xs_cu_cm => k_is); (case xe_cu_cm => exact rfl); (case xs_cu_im => k_is); (case xe_cu_im => exact rfl); (case xs_cu_nu => k_is); (case xe_cu_nu => exact rfl); (case xs_cu_tx => k_is); (case xe_cu_tx => exact rfl); (case xs_cu_un => k_is); (case xe_cu_un => exact rfl); (case xs_cu_ur => k_is); (case xe_cu_ur => exact rfl); (case xl_cm => k_is); (case xr_cm => exact rfl); (case xsa_cm => k_is); (case xga_cm => k_is); (case xgg_cm => k_is); (case xha_cm => k_is); (case xhv_cm => k_is); (case xec_cm => k_is); (case xns_cm => k_is); (case xsv_cm => k_is); (case xkc_cm => k_is); (case xom_cm => k_is); (case xsb_cm => k_is); (case xeb_cm => exact rfl); (case xhn_cm => k_is); (case xht_cm => k_is); (case xi_cm => k_is); (case xit_cm => k_is); (case xil_cm => k_is); (case xic_cm => k_is); (case xik_cm => k_is); (case xs_cm_cu => k_is); (case xe_cm_cu => exact rfl); (case xs_cm_im => k_is); (case xe_cm_im => exact rfl); (case xs_cm_nu => k_is); (case xe_cm_nu => exact rfl); (case xs_cm_tx => k_is); (case xe_cm_tx => exact rfl); (case xs_cm_un => k_is); (case xe_cm_un => exact rfl); (case xs_cm_ur => k_is); (case xe_cm_ur => exact rfl); (case xl_im => k_is); (case xr_im => exact rfl); (case xsa_im => k_is); (case xga_im => k_is); (case xgg_im => k_is); (case xha_im => k_is); (case xhv_im => k_is); (case xec_im => k_is); (case xns_im => k_is); (case xsv_im => k_is); (case xkc_im => k_is); (case xom_im => k_is); (case xsb_im => k_is); (case xeb_im => exact rfl); (case xhn_im => k_is); (case xht_im => k_is); (case xi_im => k_is); (case xit_im => k_is); (case xil_im => k_is); (case xic_im => k_is); (case xik_im => k_is); (case xs_im_cm => k_is); (case xe_im_cm => exact rfl); (case xs_im_cu => k_is); (case xe_im_cu => exact rfl); (case xs_im_nu => k_is); (case xe_im_nu => exact rfl); (case xs_im_tx => k_is); (case xe_im_tx => exact rfl); (case xs_im_un => k_is); (case xe_im_un => exact rfl); (case xs_im_ur => k_is); (case xe_im_ur => exact rfl); (case xl_nu => k_is); (case xr_nu => exact rfl); (case xsa_nu => k_is); (case xga_nu => k_is); (case xgg_nu => k_is); (case xha_nu => k_is); (case xhv_nu => k_is); (case xec_nu => k_is); (case xns_nu => k_is); (case xsv_nu => k_is); (case xkc_nu => k_is); (case xom_nu => k_is); (case xsb_nu => k_is); (case xeb_nu => exact rfl); (case xhn_nu => k_is); (case xht_nu => k_is); (case xi_nu => k_is); (case xit_nu => k_is); (case xil_nu => k_is); (case xic_nu => k_is); (case xik_nu => k_is); (case xs_nu_cm => k_is); (case xe_nu_cm => exact rfl); (case xs_nu_cu => k_is); (case xe_nu_cu => exact rfl); (case xs_nu_im => k_is); (case xe_nu_im => exact rfl); (case xs_nu_tx => k_is); (case xe_nu_tx => exact rfl); (case xs_nu_un => k_is); (case xe_nu_un => exact rfl); (case xs_nu_ur => k_is); (case xe_nu_ur => exact rfl); (case xl_un => k_is); (case xr_un => exact rfl); (case xsa_un => k_is); (case xga_un => k_is); (case xgg_un => k_is); (case xha_un => k_is); (case xhv_un => k_is); (case xec_un => k_is); (case xns_un => k_is); (case xsv_un => k_is); (case xkc_un => k_is); (case xom_un => k_is); (case xsb_un => k_is); (case xeb_un => exact rfl); (case xhn_un => k_is); (case xht_un => k_is); (case xi_un => k_is); (case xit_un => k_is); (case xil_un => k_is); (case xic_un => k_is); (case xik_un => k_is); (case xs_un_cm => k_is); (case xe_un_cm => exact rfl); (case xs_un_cu => k_is); (case xe_un_cu => exact rfl); (case xs_un_im => k_is); (case xe_un_im => exact rfl); (case xs_un_nu => k_is); (case xe_un_nu => exact rfl); (case xs_un_tx => k_is); (case xe_un_tx => exact rfl); (case xs_un_ur => k_is); (case xe_un_ur => exact rfl); (case xl_ur => k_is); (case xr_ur => exact rfl); (case xsa_ur => k_is); (case xga_ur => k_is); (case xgg_ur => k_is); (case xha_ur => k_is); (case xhv_ur => k_is); (case xec_ur => k_is); (case xns_ur => k_is); (case xsv_ur => k_is); (case xkc_ur => k_is); (case xom_ur => k_is); (case xsb_ur => k_is); (case xeb_ur => exact rfl); (case xhn_ur => k_is); (case xht_ur => k_is); (case xi_ur => k_is); (case xit_ur => k_is); (case xil_ur => k_is); (case xic_ur => k_is); (case xik_ur => k_is); (case xs_ur_cm => k_is); (case xe_ur_cm => exact rfl); (case xs_ur_cu => k_is); (case xe_ur_cu => exact rfl); (case xs_ur_im => k_is); (case xe_ur_im => exact rfl); (case xs_ur_nu => k_is); (case xe_ur_nu => exact rfl); (case xs_ur_tx => k_is); (case xe_ur_tx => exact rfl); (case xs_ur_un => k_is); (case xe_ur_un => exact rfl); (case z_ValueError => k_is); (case z_bool => k_is); (case z_int => k_is); (case z_isinstance => k_is); (case z_len => k_is); (case z_list => k_is); (case z_max => k_is); (case z_min => k_is); (case z_range => k_is); (case z_str => k_is); (case z_tuple => k_is)
      all_goals (first | exact PySem.Value.none | skip)
