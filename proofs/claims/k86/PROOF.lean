import PyProof.Rows.All
import Wide.All
import OpenK.AllK
import Wide.FinOn
import HandS.ForMost
import HandS.Exc
import HandS.TryOnly
import HandS.TryMany
import HandS.ExcOwn
import HandS.WordsExc
import HandS.HeadHook1
import HandS.HeadHook2
import HandS.ExcInit
import HandS.CallSlots
import HandS.Property
import HandS.ClsMeth
import HandS.ExcField
import HandS.Walk
import HandS.IsInst
import HandS.List
import HandS.Dict
import PyProof.ReprRoads
import HandS.TupAny
import HandS.WordsDict
import HandS.RaiseMore
import HandS.Style
import HandS.NamedTupGet
import HandS.Iter
import HandS.Ends
import HandS.HeadEnd
import HandS.HeadHook4
import HandS.Words
import KE.KStateDown
import HandS.Head0
import HandS.Head1
import HandS.Head2
import PyProof.ReprLen
import PyProof.Rows.RegFStrParts
import PySem.Challenge.RW_addednames_k86_notes
set_option Elab.async false
set_option linter.all false
set_option maxRecDepth 100000
set_option maxHeartbeats 4000000
/-! G0: data, how a heap holds data, states, readings by data. -/
namespace G
open PySem PySem.Spec PyProof.Rows L2

/-- data: what a value is worth, without addresses; loc n: the n-th mutable object of the state -/
inductive D where
  | non | bl (b : Bool) | int (i : Int) | str (x : Str)
  | tup (xs : List D) | lst (xs : List D)
  | dic (ks : List Key) (ds : List D)
  | obj (c : Str) (ns : List Str) (ds : List D)
  | loc (n : Nat)
  | scr (ns : List Int)
  | cls (c : Str)
  | lck (ks : List Key) (ds : List D)

/-! ### data without mutable objects -/
mutual
def D.pure : D → Bool
  | .non | .bl _ | .int _ | .str _ | .scr _ | .cls _ => true
  | .loc _ | .lck _ _ => false
  | .tup xs | .lst xs => pureL xs
  | .dic _ ds => pureL ds
  | .obj _ _ ds => pureL ds
def pureL : List D → Bool
  | [] => true
  | d :: ds => d.pure && pureL ds
end
mutual
/-- no object that may change stands in it -/
def D.flat : D → Bool
  | .non | .bl _ | .int _ | .str _ => true
  | .tup xs => flatL xs
  | .lst _ | .dic _ _ | .obj _ _ _ | .loc _ | .scr _ | .cls _ | .lck _ _ => false
def flatL : List D → Bool
  | [] => true
  | d :: ds => d.flat && flatL ds
end
theorem pureL_get : ∀ {ds : List D} {i : Nat} {d : D}, pureL ds = true → ds[i]? = some d → d.pure = true
  | [], _, _, _, h => by simp at h
  | x :: xs, 0, d, p, h => by simp at h; subst h; rw [pureL, Bool.and_eq_true] at p; exact p.1
  | x :: xs, i + 1, d, p, h => by rw [pureL, Bool.and_eq_true] at p; exact pureL_get p.2 (by simpa using h)
theorem flatL_get : ∀ {ds : List D} {i : Nat} {d : D}, flatL ds = true → ds[i]? = some d → d.flat = true
  | [], _, _, _, h => by simp at h
  | x :: xs, 0, d, p, h => by simp at h; subst h; rw [flatL, Bool.and_eq_true] at p; exact p.1
  | x :: xs, i + 1, d, p, h => by rw [flatL, Bool.and_eq_true] at p; exact flatL_get p.2 (by simpa using h)

/-- how a value is data: every object of it stands in the zone Z, the mutable ones stand at M -/
inductive Rep (K : PySem.W.Frag) (Z : Addr → Prop) (M : List Addr) (H : Hp) : D → V → Prop
  | non : Rep K Z M H .non .non
  | bl (b : Bool) : Rep K Z M H (.bl b) (.bl b)
  | int (i : Int) : Rep K Z M H (.int i) (.int i)
  | str (x : Str) : Rep K Z M H (.str x) (.str x)
  | tup {xs : List D} {vs : List V} {a : Addr} : Z a → Rd H a (.tup vs) → xs.length = vs.length → (∀ (i : Nat) (d : D) (v : V), xs[i]? = some d → vs[i]? = some v → Rep K Z M H d v) → Rep K Z M H (.tup xs) (.ref a)
  | lst {xs : List D} {vs : List V} {a : Addr} : Z a → H a = some (.lst vs) → xs.length = vs.length → (∀ (i : Nat) (d : D) (v : V), xs[i]? = some d → vs[i]? = some v → Rep K Z M H d v) → Rep K Z M H (.lst xs) (.ref a)
  | dic {ks : List Key} {ds : List D} {kvs : List (Key × V)} {a : Addr} : Z a → Rd H a (.dK kvs) → kvs.map (·.1) = ks → ds.length = kvs.length → (∀ (i : Nat) (d : D) (v : V), ds[i]? = some d → (kvs.map (·.2))[i]? = some v → Rep K Z M H d v) → Rep K Z M H (.dic ks ds) (.ref a)
  | obj {c : Str} {ns : List Str} {ds : List D} {fs : List (Str × V)} {a dx : Addr} : Z a → H a = some (.ins (He.ga K c) dx fs) → fs.map (·.1) = ns → ds.length = fs.length → (∀ (i : Nat) (d : D) (v : V), ds[i]? = some d → (fs.map (·.2))[i]? = some v → Rep K Z M H d v) → Rep K Z M H (.obj c ns ds) (.ref a)
  | loc {n : Nat} {a : Addr} : M[n]? = some a → Rep K Z M H (.loc n) (.ref a)
  | scr {ns : List Int} {a : Addr} : ((∃ o, H a = some (.frz o (.lst (ns.map V.int)))) ∨ SqL K (fun _ => none) a (ns.map V.int)) → Rep K Z M H (.scr ns) (.ref a)
  | cls {c : Str} : Rep K Z M H (.cls c) (.ref (He.ga K c))

/-- lists of values -/
def Reps (K : PySem.W.Frag) (Z : Addr → Prop) (M : List Addr) (H : Hp) (xs : List D) (vs : List V) : Prop :=
  xs.length = vs.length ∧ ∀ (i : Nat) (d : D) (v : V), xs[i]? = some d → vs[i]? = some v → Rep K Z M H d v

/-- the zone of the data that never changes -/
def zn (Z : Addr → Prop) (M : List Addr) : Addr → Prop := fun a => Z a ∧ a ∉ M

/-- from one state to a later one: the mutable objects may have turned, new ones may have come; all else stands -/
structure Evo (M : List Addr) (H : Hp) (M' : List Addr) (H' : Hp) : Prop where
  pre : ∃ t, M' = M ++ t
  new : ∀ a, a ∈ M' → a ∉ M → H a = none
  keep : ∀ a o, H a = some o → a ∉ M → H' a = some o
  fz : ∀ a o u, H a = some (.frz o u) → H' a = some (.frz o u)

theorem Evo.refl (M : List Addr) (H : Hp) : Evo M H M H := ⟨⟨[], by simp⟩, fun a h n => absurd h n, fun a o h _ => h, fun _ _ _ h => h⟩
theorem Evo.trans {M M1 M2 : List Addr} {H H1 H2 : Hp} (a : Evo M H M1 H1) (b : Evo M1 H1 M2 H2) : Evo M H M2 H2 := by
  obtain ⟨⟨t, e⟩, n1, k1, f1⟩ := a
  obtain ⟨⟨u, e'⟩, n2, k2, f2⟩ := b
  have old : ∀ a o, H a = some o → a ∉ M → a ∉ M1 := fun a o h n m => by
    have := n1 a m n
    rw [h] at this
    cases this
  refine ⟨⟨t ++ u, by rw [e', e, List.append_assoc]⟩, fun a m n => ?_, fun a o h n => k2 a o (k1 a o h n) (old a o h n), fun a o u h => f2 a o u (f1 a o u h)⟩
  by_cases m1 : a ∈ M1
  · exact n1 a m1 n
  · have h1 := n2 a m m1
    cases h : H a with
    | none => rfl
    | some o =>
      have := k1 a o h n
      rw [h1] at this
      cases this
/-- a new object that never changes -/
theorem Evo.laid {M : List Addr} {H : Hp} {p : Addr} {o : HO} (h : H p = none) : Evo M H M (upd H p o) :=
  ⟨⟨[], by simp⟩, fun a m n => absurd m n, fun a u e _ => by rw [upd_ne (ne_of_none e h)]; exact e, fun a u w e => by rw [upd_ne (ne_of_none e h)]; exact e⟩
theorem Evo.newloc {M : List Addr} {H : Hp} {p : Addr} {o : HO} (h : H p = none) : Evo M H (M ++ [p]) (upd H p o) :=
  ⟨⟨[p], rfl⟩, fun a m n => by
    rcases List.mem_append.mp m with m | m
    · exact absurd m n
    · rw [List.mem_singleton] at m; rw [m]; exact h, fun a u e _ => by rw [upd_ne (ne_of_none e h)]; exact e, fun a u w e => by rw [upd_ne (ne_of_none e h)]; exact e⟩
theorem Evo.write {M : List Addr} {H : Hp} {p : Addr} {o : HO} (m : p ∈ M) (nf : ∀ u w, H p ≠ some (.frz u w)) : Evo M H M (upd H p o) :=
  ⟨⟨[], by simp⟩, fun a m n => absurd m n, fun a u e n => by rw [upd_ne (fun z : a = p => n (by rw [z]; exact m))]; exact e, fun a u w e => by rw [upd_ne (fun z : a = p => nf u w (by rw [← z]; exact e))]; exact e⟩

section
variable {K : PySem.W.Frag} {C : List (V × D)} {pn : List (Addr × Obj)} {Z : Addr → Prop} {M M' : List Addr} {H H' : Hp}
theorem Evo.get {n : Nat} {a : Addr} (e : Evo M H M' H') (h : M[n]? = some a) : M'[n]? = some a := by
  obtain ⟨⟨t, rfl⟩, _, _, _⟩ := e
  rw [List.getElem?_append_left (List.getElem?_eq_some_iff.mp h).1]
  exact h
theorem Evo.zone {a : Addr} {o : HO} (e : Evo M H M' H') (z : zn Z M a) (h : H a = some o) : zn Z M' a ∧ H' a = some o := by
  refine ⟨⟨z.1, fun m => ?_⟩, e.keep a o h z.2⟩
  have := e.new a m z.2
  rw [h] at this
  cases this
theorem Evo.rd {a : Addr} {o : HO} (e : Evo M H M' H') (z : zn Z M a) (h : Rd H a o) : zn Z M' a ∧ Rd H' a o := by
  rcases h with h | ⟨u, h⟩
  · obtain ⟨q1, q2⟩ := e.zone z h
    exact ⟨q1, .inl q2⟩
  · obtain ⟨q1, q2⟩ := e.zone z h
    exact ⟨q1, .inr ⟨u, q2⟩⟩
/-- data that stands keeps standing -/
theorem Rep.mono (e : Evo M H M' H') {d : D} {v : V} (r : Rep K (zn Z M) M H d v) : Rep K (zn Z M') M' H' d v := by
  induction r with
  | non => exact .non
  | bl b => exact .bl b
  | int i => exact .int i
  | str x => exact .str x
  | tup z h l _ ih => exact .tup (e.rd z h).1 (e.rd z h).2 l ih
  | lst z h l _ ih => exact .lst (e.zone z h).1 (e.zone z h).2 l ih
  | dic z h k l _ ih => exact .dic (e.rd z h).1 (e.rd z h).2 k l ih
  | obj z h k l _ ih => exact .obj (e.zone z h).1 (e.zone z h).2 k l ih
  | loc h => exact .loc (e.get h)
  | cls => exact .cls
  | scr s =>
    rcases s with ⟨o, c⟩ | s
    · exact .scr (.inl ⟨o, e.fz _ _ _ c⟩)
    · exact .scr (.inr s)
theorem Reps.mono (e : Evo M H M' H') {xs : List D} {vs : List V} (r : Reps K (zn Z M) M H xs vs) : Reps K (zn Z M') M' H' xs vs :=
  ⟨r.1, fun i d v h1 h2 => (r.2 i d v h1 h2).mono e⟩
theorem Reps.nil : Reps K Z M H [] [] := ⟨rfl, fun i d v h => by simp at h⟩
theorem Reps.cons {d : D} {v : V} {xs : List D} {vs : List V} (r : Rep K Z M H d v) (t : Reps K Z M H xs vs) : Reps K Z M H (d :: xs) (v :: vs) := by
  refine ⟨by simp [t.1], fun i d' v' h1 h2 => ?_⟩
  cases i with
  | zero => simp at h1 h2; subst h1; subst h2; exact r
  | succ i => exact t.2 i d' v' (by simpa using h1) (by simpa using h2)
theorem Reps.cases_cons {d : D} {xs : List D} {vs : List V} (r : Reps K Z M H (d :: xs) vs) : ∃ v ws, vs = v :: ws ∧ Rep K Z M H d v ∧ Reps K Z M H xs ws := by
  cases vs with
  | nil => have := r.1; simp at this
  | cons v ws => exact ⟨v, ws, rfl, r.2 0 d v rfl rfl, by have := r.1; simpa using this, fun i d' v' h1 h2 => r.2 (i + 1) d' v' (by simpa using h1) (by simpa using h2)⟩
theorem Reps.cases_nil {vs : List V} (r : Reps K Z M H [] vs) : vs = [] := by
  have := r.1
  exact List.length_eq_zero_iff.mp this.symm
theorem Reps.cases_nil' {xs : List D} (r : Reps K Z M H xs []) : xs = [] := List.length_eq_zero_iff.mp r.1
theorem Reps.get {xs : List D} {vs : List V} (r : Reps K Z M H xs vs) {i : Nat} {d : D} (h : xs[i]? = some d) : ∃ v, vs[i]? = some v ∧ Rep K Z M H d v := by
  have hl := (List.getElem?_eq_some_iff.mp h).1
  have hv : i < vs.length := r.1 ▸ hl
  exact ⟨vs[i], List.getElem?_eq_getElem hv, r.2 i d _ h (List.getElem?_eq_getElem hv)⟩
theorem Reps.append {xs ys : List D} {vs ws : List V} (r : Reps K Z M H xs vs) (t : Reps K Z M H ys ws) : Reps K Z M H (xs ++ ys) (vs ++ ws) := by
  refine ⟨by simp [r.1, t.1], fun i d v h1 h2 => ?_⟩
  by_cases hi : i < xs.length
  · rw [List.getElem?_append_left hi] at h1
    rw [List.getElem?_append_left (r.1 ▸ hi)] at h2
    exact r.2 i d v h1 h2
  · have hi := Nat.le_of_not_lt hi
    rw [List.getElem?_append_right hi] at h1
    rw [List.getElem?_append_right (r.1 ▸ hi)] at h2
    rw [← r.1] at h2
    exact t.2 _ d v h1 h2
theorem Reps.set {xs : List D} {vs : List V} {d : D} {v : V} (r : Reps K Z M H xs vs) (q : Rep K Z M H d v) (i : Nat) : Reps K Z M H (xs.set i d) (vs.set i v) := by
  refine ⟨by simp [r.1], fun j d' v' h1 h2 => ?_⟩
  rw [List.getElem?_set] at h1 h2
  by_cases e : i = j
  · subst e
    rw [if_pos rfl] at h1 h2
    split at h1
    · split at h2
      · cases h1; cases h2; exact q
      · cases h2
    · cases h1
  · rw [if_neg e] at h1 h2
    exact r.2 j d' v' h1 h2
theorem Reps.cut {xs : List D} {vs : List V} (r : Reps K Z M H xs vs) (a n : Nat) : Reps K Z M H ((xs.drop a).take n) ((vs.drop a).take n) := by
  refine ⟨by simp [r.1], fun i d v h1 h2 => ?_⟩
  rw [List.getElem?_take] at h1 h2
  split at h1
  · rename_i hi
    rw [if_pos hi] at h2
    rw [List.getElem?_drop] at h1 h2
    exact r.2 _ d v h1 h2
  · cases h1

/-! ### states -/
/-- a slot: not set; data; a caught exception of the class c -/
inductive Sl where
  | u | v (d : D) | x (c : Str) (ns : List Str) (ds : List D)
/-- a mutable object's content -/
def Cel (K : PySem.W.Frag) (Z : Addr → Prop) (M : List Addr) (H : Hp) (a : Addr) : D → Prop
  | .lst xs => ∃ vs, H a = some (.lst vs) ∧ Reps K Z M H xs vs
  | .dic ks ds => ∃ kvs, H a = some (.dK kvs) ∧ kvs.map (·.1) = ks ∧ Reps K Z M H ds (kvs.map (·.2))
  | .obj c ns ds => ∃ dx fs, H a = some (.ins (He.ga K c) dx fs) ∧ fs.map (·.1) = ns ∧ Reps K Z M H ds (fs.map (·.2))
  | .lck ks ds => ∃ kvs o, H a = some (.frz o (.dK kvs)) ∧ kvs.map (·.1) = ks ∧ Reps K Z M H ds (kvs.map (·.2))
  | _ => False
structure Sh (K : PySem.W.Frag) (C : List (V × D)) (Z : Addr → Prop) (M : List Addr) (h : List D) (H : Hp) : Prop where
  all : ∀ p, H p = none → Z p
  mz : ∀ a, a ∈ M → Z a
  cst : ∀ p ∈ C, p.2.pure = true ∧ Rep K (zn Z M) M H p.2 p.1
  nd : M.Nodup
  len : M.length = h.length
  cel : ∀ (i : Nat) (a : Addr) (d : D), M[i]? = some a → h[i]? = some d → Cel K (zn Z M) M H a d
/-- the exception at a, of the class c, its dict at dx, is pinned -/
def XI (K : PySem.W.Frag) (pn : List (Addr × Obj)) (a : Addr) (c : Str) (dx : Addr) : Prop := ∃ oe, (a, oe) ∈ pn ∧ Zc (.ref (He.ga K c)) (some dx) oe ∧ ∃ vs, oe.data = .fields vs
/-- a raised exception's own dict -/
def Xr (K : PySem.W.Frag) (Z : Addr → Prop) (M : List Addr) (H : Hp) (ns : List Str) (ds : List D) (dx : Addr) : Prop :=
  ∃ fs, H dx = some (.xd fs) ∧ dx ∉ M ∧ fs.map (·.1) = ns ∧ Reps K Z M H ds (fs.map (·.2))
structure SR (K : PySem.W.Frag) (C : List (V × D)) (pn : List (Addr × Obj)) (Z : Addr → Prop) (M : List Addr) (env : List Sl) (h : List D) (σ : L2.St) (H : Hp) : Prop where
  sh : Sh K C Z M h H
  slots : ∀ (i : Nat) (d : D), env[i]? = some (.v d) → ∃ v, σ[i]? = some (some v) ∧ Rep K (zn Z M) M H d v
  exc : ∀ (i : Nat) (c : Str) (ns : List Str) (ds : List D), env[i]? = some (.x c ns ds) → ∃ a dx, σ[i]? = some (some (.ref a)) ∧ XI K pn a c dx ∧ Xr K (zn Z M) M H ns ds dx
  len : env.length = σ.length
theorem Cel.there {a : Addr} {d : D} (c : Cel K Z M H a d) : ∃ o, H a = some o ∧ (∀ u w, o = .frz u w → ∃ kvs, w = .dK kvs) := by
  cases d with
  | lst xs => obtain ⟨vs, e, _⟩ := c; exact ⟨_, e, fun _ _ z => nomatch z⟩
  | dic ks ds => obtain ⟨vs, e, _⟩ := c; exact ⟨_, e, fun _ _ z => nomatch z⟩
  | obj c ns ds => obtain ⟨dx, vs, e, _⟩ := c; exact ⟨_, e, fun _ _ z => nomatch z⟩
  | lck ks ds => obtain ⟨vs, o, e, _⟩ := c; exact ⟨_, e, fun _ _ z => by cases z; exact ⟨_, rfl⟩⟩
  | _ => exact False.elim c
theorem Sh.at {h : List D} (s : Sh K C Z M h H) {a : Addr} (m : a ∈ M) : ∃ o, H a = some o ∧ (∀ u w, o = .frz u w → ∃ kvs, w = .dK kvs) := by
  obtain ⟨i, hi, rfl⟩ := List.getElem_of_mem m
  have hl : i < h.length := s.len ▸ hi
  exact Cel.there (s.cel i _ _ (List.getElem?_eq_getElem hi) (List.getElem?_eq_getElem hl))
theorem Sh.out {h : List D} (s : Sh K C Z M h H) {p : Addr} (e : H p = none) : p ∉ M := fun m => by
  obtain ⟨o, h1, _⟩ := s.at m
  rw [e] at h1; cases h1
theorem Sh.zone {h : List D} (s : Sh K C Z M h H) {p : Addr} (e : H p = none) : zn Z M p := ⟨s.all p e, s.out e⟩
/-- a cell that stands keeps standing -/
theorem Cel.mono (e : Evo M H M' H') {a : Addr} {d : D} (st : ∀ o, H a = some o → H' a = some o) (c : Cel K (zn Z M) M H a d) : Cel K (zn Z M') M' H' a d := by
  cases d with
  | lst xs => obtain ⟨vs, q, r⟩ := c; exact ⟨vs, st _ q, r.mono e⟩
  | dic ks ds => obtain ⟨vs, q, k, r⟩ := c; exact ⟨vs, st _ q, k, r.mono e⟩
  | obj c ns ds => obtain ⟨dx, vs, q, k, r⟩ := c; exact ⟨dx, vs, st _ q, k, r.mono e⟩
  | lck ks ds => obtain ⟨vs, o, q, k, r⟩ := c; exact ⟨vs, o, st _ q, k, r.mono e⟩
  | _ => exact False.elim c
theorem Sh.laid {h : List D} (s : Sh K C Z M h H) {p : Addr} {o : HO} (e : H p = none) : Sh K C Z M h (upd H p o) where
  all := fun q hq => s.all q (by
    by_cases z : q = p
    · rw [z]; exact e
    · rw [upd_ne z] at hq; exact hq)
  mz := s.mz
  cst := fun q hq => ⟨(s.cst q hq).1, (s.cst q hq).2.mono (Evo.laid e)⟩
  nd := s.nd
  len := s.len
  cel := fun i a d h1 h2 => Cel.mono (Evo.laid e) (fun u hu => by rw [upd_ne (ne_of_none hu e)]; exact hu) (s.cel i a d h1 h2)
theorem Sh.newloc {h : List D} (s : Sh K C Z M h H) {p : Addr} {o : HO} {d : D} (e : H p = none) (c : Cel K (zn Z (M ++ [p])) (M ++ [p]) (upd H p o) p d) : Sh K C Z (M ++ [p]) (h ++ [d]) (upd H p o) where
  all := fun q hq => s.all q (by
    by_cases z : q = p
    · rw [z]; exact e
    · rw [upd_ne z] at hq; exact hq)
  mz := fun a m => by
    rcases List.mem_append.mp m with m | m
    · exact s.mz a m
    · rw [List.mem_singleton] at m; rw [m]; exact s.all p e
  cst := fun q hq => ⟨(s.cst q hq).1, (s.cst q hq).2.mono (Evo.newloc e)⟩
  nd := List.nodup_append.mpr ⟨s.nd, List.nodup_cons.mpr ⟨List.not_mem_nil, List.nodup_nil⟩, fun a m b m' z => by
    rw [List.mem_singleton] at m'
    rw [z, m'] at m
    exact s.out e m⟩
  len := by simp [s.len]
  cel := fun i a d' h1 h2 => by
    by_cases hi : i < M.length
    · rw [List.getElem?_append_left hi] at h1
      rw [List.getElem?_append_left (s.len ▸ hi)] at h2
      exact Cel.mono (Evo.newloc e) (fun u hu => by rw [upd_ne (ne_of_none hu e)]; exact hu) (s.cel i a d' h1 h2)
    · have hi := Nat.le_of_not_lt hi
      rw [List.getElem?_append_right hi] at h1
      rw [List.getElem?_append_right (s.len ▸ hi)] at h2
      rw [← s.len] at h2
      cases hk : i - M.length with
      | zero => rw [hk] at h1 h2; simp at h1 h2; subst h1; subst h2; exact c
      | succ k => rw [hk] at h1; simp at h1
theorem Sh.write {h : List D} (s : Sh K C Z M h H) {n : Nat} {a : Addr} {o : HO} {d : D} (ha : M[n]? = some a) (nf : ∀ u w, H a ≠ some (.frz u w)) (c : Cel K (zn Z M) M (upd H a o) a d) : Sh K C Z M (h.set n d) (upd H a o) := by
  refine ⟨fun q hq => s.all q ?_, s.mz, fun q hq => ⟨(s.cst q hq).1, (s.cst q hq).2.mono (Evo.write (List.mem_of_getElem? ha) nf)⟩, s.nd, by simp [s.len], fun i b d' h1 h2 => ?_⟩
  · by_cases z : q = a
    · rw [z, upd_same] at hq; cases hq
    · rw [upd_ne z] at hq; exact hq
  · rw [List.getElem?_set] at h2
    have hn := (List.getElem?_eq_some_iff.mp ha)
    have hi := (List.getElem?_eq_some_iff.mp h1)
    by_cases e : n = i
    · subst e
      rw [if_pos rfl] at h2
      split at h2
      · cases h2
        rw [ha] at h1
        cases h1
        exact c
      · cases h2
    · rw [if_neg e] at h2
      have nb : b ≠ a := fun z => by
        subst z
        exact e ((List.getElem?_inj hn.1 s.nd).mp (ha.trans h1.symm))
      exact Cel.mono (Evo.write (List.mem_of_getElem? ha) nf) (fun u hu => by rw [upd_ne nb]; exact hu) (s.cel i b d' h1 h2)
theorem Sh.evw {h : List D} (s : Sh K C Z M h H) {n : Nat} {a : Addr} {o : HO} (ha : M[n]? = some a) (nf : ∀ u w, H a ≠ some (.frz u w)) : Evo M H M (upd H a o) := by
  exact Evo.write (List.mem_of_getElem? ha) nf
theorem Xr.mono {ns : List Str} {ds : List D} {dx : Addr} (e : Evo M H M' H') (x : Xr K (zn Z M) M H ns ds dx) : Xr K (zn Z M') M' H' ns ds dx := by
  obtain ⟨fs, h1, h2, h3, h4⟩ := x
  refine ⟨fs, e.keep _ _ h1 h2, fun m => ?_, h3, h4.mono e⟩
  have := e.new _ m h2
  rw [h1] at this; cases this
/-- the same slots in a later state -/
theorem SR.later {env : List Sl} {h h' : List D} {σ : L2.St} (s : SR K C pn Z M env h σ H) (e : Evo M H M' H') (q : Sh K C Z M' h' H') : SR K C pn Z M' env h' σ H' :=
  ⟨q, fun i d hd => by obtain ⟨v, h1, h2⟩ := s.slots i d hd; exact ⟨v, h1, h2.mono e⟩, fun i c ns ds hd => by obtain ⟨a, dx, h1, h2, h3⟩ := s.exc i c ns ds hd; exact ⟨a, dx, h1, h2, h3.mono e⟩, s.len⟩
theorem SR.set {env : List Sl} {h : List D} {σ : L2.St} {i : Nat} {d : D} {v : V} (s : SR K C pn Z M env h σ H) (r : Rep K (zn Z M) M H d v) : SR K C pn Z M (env.set i (.v d)) h (σ.set i (some v)) H := by
  refine ⟨s.sh, fun j d' hd => ?_, fun j c ns ds hd => ?_, by simp [s.len]⟩
  rotate_left 1
  · rw [List.getElem?_set] at hd
    by_cases e : i = j
    · subst e
      rw [if_pos rfl] at hd
      split at hd <;> cases hd
    · rw [if_neg e] at hd
      obtain ⟨a, dx, h1, h2⟩ := s.exc j c ns ds hd
      exact ⟨a, dx, by rw [List.getElem?_set_ne e]; exact h1, h2⟩
  rw [List.getElem?_set] at hd
  by_cases e : i = j
  · subst e
    rw [if_pos rfl] at hd
    split at hd
    · rename_i hi
      cases hd
      exact ⟨v, by rw [List.getElem?_set_self (s.len ▸ hi)], r⟩
    · cases hd
  · rw [if_neg e] at hd
    obtain ⟨w, h1, h2⟩ := s.slots j d' hd
    exact ⟨w, by rw [List.getElem?_set_ne e]; exact h1, h2⟩
end
end G

set_option Elab.async false
set_option linter.all false
set_option maxRecDepth 100000
set_option maxHeartbeats 4000000
/-! G1: results, readings by data, the base's rules. -/
namespace G
open PySem PySem.Spec PyProof.Rows L2

/-! ### results -/
inductive R (α : Type) where
  | ok (a : α) (h : List D)
  | exc (c : Str) (ns : List Str) (ds : List D) (h : List D)
  | bad
def R.bind {α β : Type} (r : R α) (f : α → List D → R β) : R β := match r with
  | .ok a h => f a h
  | .exc c ns ds h => .exc c ns ds h
  | .bad => .bad
abbrev Mn (α : Type) := List Sl → List D → R α
abbrev ME := Mn D
abbrev MT := Mn Bool
abbrev MA := Mn (List D)
inductive RS where
  | nx (env : List Sl) (h : List D)
  | rt (d : D) (h : List D)
  | br (env : List Sl) (h : List D)
  | ct (env : List Sl) (h : List D)
  | exc (c : Str) (ns : List Str) (ds : List D) (env : List Sl) (h : List D)
  | bad
abbrev MS := List Sl → List D → RS
@[simp] theorem R.bind_ok {α β : Type} (a : α) (h : List D) (f : α → List D → R β) : (R.ok a h).bind f = f a h := rfl
@[simp] theorem R.bind_exc {α β : Type} (c : Str) (ns : List Str) (ds h : List D) (f : α → List D → R β) : (R.exc c ns ds h).bind f = .exc c ns ds h := rfl
@[simp] theorem R.bind_bad {α β : Type} (f : α → List D → R β) : R.bind .bad f = .bad := rfl

section
variable (K : PySem.W.Frag) (C : List (V × D)) (pn : List (Addr × Obj)) (Z : Addr → Prop) (W : WX) (σ : L2.St) (env : List Sl)
/-- what is wanted of a result -/
def Got {α : Type} (M : List Addr) (H : Hp) (r : R α) (G : List Addr → Hp → α → Prop) : Prop := match r with
  | .ok a h => ∀ M' H', Evo M H M' H' → SR K C pn Z M' env h σ H' → G M' H' a
  | .exc c ns ds h => ∀ M' H' dx, Evo M H M' H' → SR K C pn Z M' env h σ H' → Xr K (zn Z M') M' H' ns ds dx → W (.ref (He.ga K c)) (some dx) σ H'
  | .bad => False
/-- what is wanted of a statement's result -/
def GotS (M : List Addr) (H : Hp) (r : RS) (D' : Ends) : Prop := match r with
  | .nx env h => ∀ M' σ' H', Evo M H M' H' → SR K C pn Z M' env h σ' H' → D'.nx σ' H'
  | .br env h => ∀ M' σ' H', Evo M H M' H' → SR K C pn Z M' env h σ' H' → D'.bk σ' H'
  | .ct env h => ∀ M' σ' H', Evo M H M' H' → SR K C pn Z M' env h σ' H' → D'.ct σ' H'
  | .rt d h => ∀ M' H' v, Evo M H M' H' → Sh K C Z M' h H' → Rep K (zn Z M') M' H' d v → D'.rt v H'
  | .exc c ns ds env h => ∀ M' σ' H' dx, Evo M H M' H' → SR K C pn Z M' env h σ' H' → Xr K (zn Z M') M' H' ns ds dx → W (.ref (He.ga K c)) (some dx) σ' H'
  | .bad => False
end
def tE (K : PySem.W.Frag) (C : List (V × D)) (pn : List (Addr × Obj)) (W : WX) (m : ME) : TE := fun σ H Q => ∃ Z M env h, SR K C pn Z M env h σ H ∧ Got K C pn Z W σ env M H (m env h) fun M' H' d => ∀ v, Rep K (zn Z M') M' H' d v → Q v H'
def tT (K : PySem.W.Frag) (C : List (V × D)) (pn : List (Addr × Obj)) (W : WX) (m : MT) : TT := fun σ H Q => ∃ Z M env h, SR K C pn Z M env h σ H ∧ Got K C pn Z W σ env M H (m env h) fun M' H' b => Q b H'
def tA (K : PySem.W.Frag) (C : List (V × D)) (pn : List (Addr × Obj)) (W : WX) (m : MA) : TA := fun σ H Q => ∃ Z M env h, SR K C pn Z M env h σ H ∧ Got K C pn Z W σ env M H (m env h) fun M' H' ds => ∀ vs, Reps K (zn Z M') M' H' ds vs → Q vs H'
def tS (K : PySem.W.Frag) (C : List (V × D)) (pn : List (Addr × Obj)) (W : WX) (m : MS) : TS := fun D' σ H => ∃ Z M env h, SR K C pn Z M env h σ H ∧ GotS K C pn Z W M H (m env h) D'

section
variable {K : PySem.W.Frag} {C : List (V × D)} {pn : List (Addr × Obj)} {Z : Addr → Prop} {W : WX} {σ : L2.St} {env : List Sl} {M M1 : List Addr} {H H1 : Hp} {h : List D}
theorem Got.later {α : Type} {r : R α} {G : List Addr → Hp → α → Prop} (e : Evo M H M1 H1) (g : Got K C pn Z W σ env M H r G) : Got K C pn Z W σ env M1 H1 r G := by
  cases r with
  | ok a h => exact fun M' H' e' s => g M' H' (e.trans e') s
  | exc c ns ds h => exact fun M' H' dx e' s x => g M' H' dx (e.trans e') s x
  | bad => exact g
theorem Got.now {α : Type} {a : α} {G : List Addr → Hp → α → Prop} (g : Got K C pn Z W σ env M H (.ok a h) G) (s : SR K C pn Z M env h σ H) : G M H a := g M H (.refl M H) s
theorem GotS.later {r : RS} {D' : Ends} (e : Evo M H M1 H1) (g : GotS K C pn Z W M H r D') : GotS K C pn Z W M1 H1 r D' := by
  cases r with
  | nx env h => exact fun M' σ' H' e' s => g M' σ' H' (e.trans e') s
  | br env h => exact fun M' σ' H' e' s => g M' σ' H' (e.trans e') s
  | ct env h => exact fun M' σ' H' e' s => g M' σ' H' (e.trans e') s
  | rt d h => exact fun M' H' v e' s r => g M' H' v (e.trans e') s r
  | exc c ns ds env h => exact fun M' σ' H' dx e' s x => g M' σ' H' dx (e.trans e') s x
  | bad => exact g
/-- the first part of a compound expression -/
theorem tE.step {β : Type} {m : ME} {f : D → List D → R β} {G : List Addr → Hp → β → Prop} {Q' : VK} (s : SR K C pn Z M env h σ H) (g : Got K C pn Z W σ env M H ((m env h).bind f) G)
    (k : ∀ M1 H1 h1 d v, Evo M H M1 H1 → SR K C pn Z M1 env h1 σ H1 → Rep K (zn Z M1) M1 H1 d v → Got K C pn Z W σ env M1 H1 (f d h1) G → Q' v H1) : tE K C pn W m σ H Q' := by
  refine ⟨Z, M, env, h, s, ?_⟩
  cases e : m env h with
  | ok d h1 =>
    rw [e] at g
    exact fun M1 H1 ev s1 v r => k M1 H1 h1 d v ev s1 r (Got.later ev g)
  | exc c ns ds h1 =>
    rw [e] at g
    exact g
  | bad =>
    rw [e] at g
    exact g
theorem tT.step {β : Type} {m : MT} {f : Bool → List D → R β} {G : List Addr → Hp → β → Prop} {Q' : Bool → Hp → Prop} (s : SR K C pn Z M env h σ H) (g : Got K C pn Z W σ env M H ((m env h).bind f) G)
    (k : ∀ M1 H1 h1 b, Evo M H M1 H1 → SR K C pn Z M1 env h1 σ H1 → Got K C pn Z W σ env M1 H1 (f b h1) G → Q' b H1) : tT K C pn W m σ H Q' := by
  refine ⟨Z, M, env, h, s, ?_⟩
  cases e : m env h with
  | ok d h1 =>
    rw [e] at g
    exact fun M1 H1 ev s1 => k M1 H1 h1 d ev s1 (Got.later ev g)
  | exc c ns ds h1 =>
    rw [e] at g
    exact g
  | bad =>
    rw [e] at g
    exact g
theorem tA.step {β : Type} {m : MA} {f : List D → List D → R β} {G : List Addr → Hp → β → Prop} {Q' : List V → Hp → Prop} (s : SR K C pn Z M env h σ H) (g : Got K C pn Z W σ env M H ((m env h).bind f) G)
    (k : ∀ M1 H1 h1 ds vs, Evo M H M1 H1 → SR K C pn Z M1 env h1 σ H1 → Reps K (zn Z M1) M1 H1 ds vs → Got K C pn Z W σ env M1 H1 (f ds h1) G → Q' vs H1) : tA K C pn W m σ H Q' := by
  refine ⟨Z, M, env, h, s, ?_⟩
  cases e : m env h with
  | ok d h1 =>
    rw [e] at g
    exact fun M1 H1 ev s1 v r => k M1 H1 h1 d v ev s1 r (Got.later ev g)
  | exc c ns ds h1 =>
    rw [e] at g
    exact g
  | bad =>
    rw [e] at g
    exact g
/-- an expression within a statement -/
def R.thenS {α : Type} (r : R α) (env : List Sl) (f : α → List D → RS) : RS := match r with
  | .ok a h => f a h
  | .exc c ns ds h => .exc c ns ds env h
  | .bad => .bad
@[simp] theorem R.thenS_ok {α : Type} (a : α) (h : List D) (env : List Sl) (f : α → List D → RS) : (R.ok a h).thenS env f = f a h := rfl
@[simp] theorem R.thenS_exc {α : Type} (c : Str) (ns : List Str) (ds h : List D) (env : List Sl) (f : α → List D → RS) : (R.exc c ns ds h).thenS env f = .exc c ns ds env h := rfl
@[simp] theorem R.thenS_bad {α : Type} (env : List Sl) (f : α → List D → RS) : R.thenS .bad env f = .bad := rfl
theorem tE.stepS {m : ME} {f : D → List D → RS} {D' : Ends} {Q' : VK} (s : SR K C pn Z M env h σ H) (g : GotS K C pn Z W M H ((m env h).thenS env f) D')
    (k : ∀ M1 H1 h1 d v, Evo M H M1 H1 → SR K C pn Z M1 env h1 σ H1 → Rep K (zn Z M1) M1 H1 d v → GotS K C pn Z W M1 H1 (f d h1) D' → Q' v H1) : tE K C pn W m σ H Q' := by
  refine ⟨Z, M, env, h, s, ?_⟩
  cases e : m env h with
  | ok d h1 =>
    rw [e] at g
    exact fun M1 H1 ev s1 v r => k M1 H1 h1 d v ev s1 r (GotS.later ev g)
  | exc c ns ds h1 =>
    rw [e] at g
    exact fun M' H' dx ev s x => g M' σ H' dx ev s x
  | bad =>
    rw [e] at g
    exact g
theorem tT.stepS {m : MT} {f : Bool → List D → RS} {D' : Ends} {Q' : Bool → Hp → Prop} (s : SR K C pn Z M env h σ H) (g : GotS K C pn Z W M H ((m env h).thenS env f) D')
    (k : ∀ M1 H1 h1 b, Evo M H M1 H1 → SR K C pn Z M1 env h1 σ H1 → GotS K C pn Z W M1 H1 (f b h1) D' → Q' b H1) : tT K C pn W m σ H Q' := by
  refine ⟨Z, M, env, h, s, ?_⟩
  cases e : m env h with
  | ok d h1 =>
    rw [e] at g
    exact fun M1 H1 ev s1 => k M1 H1 h1 d ev s1 (GotS.later ev g)
  | exc c ns ds h1 =>
    rw [e] at g
    exact fun M' H' dx ev s x => g M' σ H' dx ev s x
  | bad =>
    rw [e] at g
    exact g
theorem tA.stepS {m : MA} {f : List D → List D → RS} {D' : Ends} {Q' : List V → Hp → Prop} (s : SR K C pn Z M env h σ H) (g : GotS K C pn Z W M H ((m env h).thenS env f) D')
    (k : ∀ M1 H1 h1 ds vs, Evo M H M1 H1 → SR K C pn Z M1 env h1 σ H1 → Reps K (zn Z M1) M1 H1 ds vs → GotS K C pn Z W M1 H1 (f ds h1) D' → Q' vs H1) : tA K C pn W m σ H Q' := by
  refine ⟨Z, M, env, h, s, ?_⟩
  cases e : m env h with
  | ok d h1 =>
    rw [e] at g
    exact fun M1 H1 ev s1 v r => k M1 H1 h1 d v ev s1 r (GotS.later ev g)
  | exc c ns ds h1 =>
    rw [e] at g
    exact fun M' H' dx ev s x => g M' σ H' dx ev s x
  | bad =>
    rw [e] at g
    exact g
end

/-! ### the judgements -/
def SE (C : List (V × D)) (X : Cx) (W : WX) (e : Expr) (m : ME) : Prop := PE X e (tE X.K C X.pn W m)
def ST (C : List (V × D)) (X : Cx) (W : WX) (e : Expr) (m : MT) : Prop := PT X e (tT X.K C X.pn W m)
def SW (C : List (V × D)) (X : Cx) (W : WX) (e : Expr) (m : MT) : Prop := L2.PW X e (tT X.K C X.pn W m)
def SA (C : List (V × D)) (X : Cx) (W : WX) (es : List Expr) (m : MA) : Prop := PA X es (tA X.K C X.pn W m)
def SS (C : List (V × D)) (X : Cx) (W : WX) (st : Stmt) (m : MS) : Prop := PS X st (tS X.K C X.pn W m)
def SB (C : List (V × D)) (X : Cx) (W : WX) (st : List Stmt) (m : MS) : Prop := PSs X st (tS X.K C X.pn W m)
theorem PE.weak {X : Cx} {e : Expr} {t t' : TE} (p : PE X e t) (h : ∀ σ H Q, t' σ H Q → t σ H Q) : PE X e t' := ⟨fun pins s σ H Q I q => p.run pins s σ H Q I (h σ H Q q)⟩
theorem PT.weak {X : Cx} {e : Expr} {t t' : TT} (p : PT X e t) (h : ∀ σ H Q, t' σ H Q → t σ H Q) : PT X e t' := ⟨fun pins s σ H Q I q => p.run pins s σ H Q I (h σ H Q q)⟩
theorem PW.weak {X : Cx} {e : Expr} {t t' : TT} (p : L2.PW X e t) (h : ∀ σ H Q, t' σ H Q → t σ H Q) : L2.PW X e t' := ⟨fun wh pins s σ H Q I q => p.run wh pins s σ H Q I (h σ H Q q)⟩
theorem PA.weak {X : Cx} {es : List Expr} {t t' : TA} (p : PA X es t) (h : ∀ σ H Q, t' σ H Q → t σ H Q) : PA X es t' := ⟨fun pos pins s σ H Q I q => p.run pos pins s σ H Q I (h σ H Q q)⟩
theorem PS.weak {X : Cx} {st : Stmt} {t t' : TS} (p : PS X st t) (h : ∀ D' σ H, t' D' σ H → t D' σ H) : PS X st t' := ⟨fun pins s σ H D' I q => p.run pins s σ H D' I (h D' σ H q)⟩
theorem PSs.weak {X : Cx} {st : List Stmt} {t t' : TS} (p : PSs X st t) (h : ∀ D' σ H, t' D' σ H → t D' σ H) : PSs X st t' := ⟨fun pins s σ H D' I q => p.run pins s σ H D' I (h D' σ H q)⟩
theorem SW.pt {X : Cx} {W : WX} {e : Expr} {m : MT} (h : SW C X W e m) : ST C X W e m := L2.PW.pt h

/-! ### names and constants -/
section
variable {C : List (V × D)} {X : Cx} {W : WX} {pos : Pos}
def cC (d : D) : ME := fun _ h => .ok d h
def cVar (i : Nat) : ME := fun env h => match env[i]? with
  | some (.v d) => .ok d h
  | _ => .bad
theorem se_const {e : Expr} {v : V} {d : D} (p : PE X e (tC v)) (r : ∀ Z M H, Rep X.K Z M H d v) : SE C X W e (cC d) := PE.weak p fun σ H Q ⟨Z, M, env, h, s, g⟩ => Got.now g s v (r _ _ _)
theorem se_int {i j} : SE C X W (.Constant (.int i) j pos) (cC (.int i)) := se_const pe_int fun _ _ _ => .int i
theorem se_bl {b j} : SE C X W (.Constant (.bool b) j pos) (cC (.bl b)) := se_const pe_bl fun _ _ _ => .bl b
theorem se_non {j} : SE C X W (.Constant .none j pos) (cC .non) := se_const pe_non fun _ _ _ => .non
theorem se_str {x j} : SE C X W (.Constant (.str x) j pos) (cC (.str x)) := se_const pe_str fun _ _ _ => .str x
theorem se_var {i : Nat} {x : Str} (hN : X.N[i]? = some x) (hv : Vis X.env.scope x) (hd : (x == ("__debug__" : Str)) = false := by decide) (hcd : (x == ("__classdict__" : Str)) = false := by decide) : SE C X W (.Name x pos) (cVar i) := by
  refine PE.weak (pe_var hN hv hd hcd) fun σ H Q ⟨Z, M, env, h, s, g⟩ => ?_
  unfold cVar at g
  cases e : env[i]? with
  | none => rw [e] at g; exact False.elim g
  | some sl =>
    rw [e] at g
    cases sl with
    | v d =>
      obtain ⟨v, h1, h2⟩ := s.slots i d e
      exact ⟨v, h1, Got.now g s v h2⟩
    | u => exact False.elim g
    | x c ns ds => exact False.elim g

/-! ### operators on values -/
def c2 (f : D → D → List D → R D) (a b : ME) : ME := fun env h => (a env h).bind fun x h1 => (b env h1).bind fun y h2 => f x y h2
def c1 (f : D → List D → R D) (a : ME) : ME := fun env h => (a env h).bind f
/-- f says what the reading r asks -/
def Ok2 (C : List (V × D)) (K : PySem.W.Frag) (r : R2) (f : D → D → List D → R D) : Prop := ∀ pn Z W σ env M H h x y v w (Q : VK), SR K C pn Z M env h σ H → Rep K (zn Z M) M H x v → Rep K (zn Z M) M H y w →
  Got K C pn Z W σ env M H (f x y h) (fun M' H' d => ∀ v, Rep K (zn Z M') M' H' d v → Q v H') → r v w H Q
theorem t2_of {r : R2} {f : D → D → List D → R D} {ma mb : ME} (k : Ok2 C X.K r f) {σ : L2.St} {H : Hp} {Q : VK} (t : tE X.K C X.pn W (c2 f ma mb) σ H Q) : tOp r (tE X.K C X.pn W ma) (tE X.K C X.pn W mb) σ H Q := by
  obtain ⟨Z, M, env, h, s, g⟩ := t
  refine tE.step s g fun M1 H1 h1 x v e1 s1 r1 g1 => ?_
  refine tE.step s1 g1 fun M2 H2 h2 y w e2 s2 r2 g2 => ?_
  exact k X.pn Z W σ env M2 H2 h2 x y v w Q s2 (r1.mono e2) r2 g2
theorem se_op {op : Operator} {r : R2} {f : D → D → List D → R D} {a b : Expr} {ma mb : ME} (ho : OpR X (binaryOp op) r) (k : Ok2 C X.K r f) (ha : SE C X W a ma) (hb : SE C X W b mb) : SE C X W (.BinOp a op b pos) (c2 f ma mb) :=
  PE.weak (pe_op ho ha hb) fun σ H Q t => t2_of k t
theorem se_cmp {op : CmpOp} {r : R2} {f : D → D → List D → R D} {a b : Expr} {ma mb : ME} (ho : OpR X (compareOp op) r) (k : Ok2 C X.K r f) (ha : SE C X W a ma) (hb : SE C X W b mb) (hm : behindInMarks op b = false) : SE C X W (.Compare a [op] [b] pos) (c2 f ma mb) :=
  PE.weak (pe_cmpR ho ha hb hm) fun σ H Q t => t2_of k t
/-- a value as a test: it is a bool -/
def cB (m : ME) : MT := fun env h => (m env h).bind fun d h1 => match d with
  | .bl b => .ok b h1
  | _ => .bad
theorem tB_of {m : ME} {σ : L2.St} {H : Hp} {Q : Bool → Hp → Prop} (t : tT X.K C X.pn W (cB m) σ H Q) : tE X.K C X.pn W m σ H fun x H1 => ∃ k, x = .bl k ∧ Q k H1 := by
  obtain ⟨Z, M, env, h, s, g⟩ := t
  refine tE.step s g fun M1 H1 h1 d v e1 s1 r1 g1 => ?_
  cases d with
  | bl b =>
    cases r1
    exact ⟨b, rfl, Got.now g1 s1⟩
  | _ => exact False.elim g1
theorem st_cmp {op : CmpOp} {r : R2} {f : D → D → List D → R D} {a b : Expr} {ma mb : ME} (ho : OpR X (compareOp op) r) (k : Ok2 C X.K r f) (ha : SE C X W a ma) (hb : SE C X W b mb) (hm : behindInMarks op b = false) : ST C X W (.Compare a [op] [b] pos) (cB (c2 f ma mb)) := by
  refine PT.weak (pt_cmpR ho ha hb hm) fun σ H Q t => ?_
  obtain ⟨Z, M, env, h, s, g⟩ := tB_of t
  exact t2_of k ⟨Z, M, env, h, s, g⟩
theorem st_val {e : Expr} {m : ME} (h : SE C X W e m) (he : ∀ whole, isTrue e X.env whole = (do let v ← whole; standAt e.pos; holding [v] (truthy v)) := by intro _; rfl) : ST C X W e (cB m) :=
  PT.weak (pt_val h he) fun σ H Q t => tB_of t

/-! ### and, or, not, if .. else -/
def cAnd (a b : MT) : MT := fun env h => (a env h).bind fun x h1 => match x with
  | true => b env h1
  | false => .ok false h1
def cOr (a b : MT) : MT := fun env h => (a env h).bind fun x h1 => match x with
  | true => .ok true h1
  | false => b env h1
def cNot (a : MT) : MT := fun env h => (a env h).bind fun x h1 => .ok (!x) h1
def cTV (a : MT) : ME := fun env h => (a env h).bind fun x h1 => .ok (.bl x) h1
theorem sw_and1 {a : Expr} {m : MT} (ha : ST C X W a m) : SW C X W (.BoolOp .And [a] pos) m := pw_and1 ha
theorem sw_or1 {a : Expr} {m : MT} (ha : ST C X W a m) : SW C X W (.BoolOp .Or [a] pos) m := pw_or1 ha
theorem sw_and {a b : Expr} {rest : List Expr} {ma mb : MT} (ha : ST C X W a ma) (hb : SW C X W (.BoolOp .And (b :: rest) pos) mb) : SW C X W (.BoolOp .And (a :: b :: rest) pos) (cAnd ma mb) := by
  refine PW.weak (pw_and ha hb) fun σ H Q ⟨Z, M, env, h, s, g⟩ => ?_
  refine tT.step s g fun M1 H1 h1 b e1 s1 g1 => ?_
  cases b with
  | true =>
    rw [if_pos rfl]
    exact ⟨Z, M1, env, h1, s1, g1⟩
  | false => exact Got.now g1 s1
theorem sw_or {a b : Expr} {rest : List Expr} {ma mb : MT} (ha : ST C X W a ma) (hb : SW C X W (.BoolOp .Or (b :: rest) pos) mb) : SW C X W (.BoolOp .Or (a :: b :: rest) pos) (cOr ma mb) := by
  refine PW.weak (pw_or ha hb) fun σ H Q ⟨Z, M, env, h, s, g⟩ => ?_
  refine tT.step s g fun M1 H1 h1 b e1 s1 g1 => ?_
  cases b with
  | true => exact Got.now g1 s1
  | false => exact ⟨Z, M1, env, h1, s1, g1⟩
theorem st_not {a : Expr} {m : MT} (ha : ST C X W a m) : ST C X W (.UnaryOp .Not a pos) (cNot m) := by
  refine PT.weak (pt_not ha) fun σ H Q ⟨Z, M, env, h, s, g⟩ => ?_
  exact tT.step s g fun M1 H1 h1 b e1 s1 g1 => Got.now g1 s1
/-- bools by and, or, not as values -/
def cAndV (a b : ME) : ME := fun env h => (a env h).bind fun x h1 => match x with
  | .bl true => b env h1
  | .bl false => .ok (.bl false) h1
  | _ => .bad
def cOrV (a b : ME) : ME := fun env h => (a env h).bind fun x h1 => match x with
  | .bl true => .ok (.bl true) h1
  | .bl false => b env h1
  | _ => .bad
def cNotV (a : ME) : ME := fun env h => (a env h).bind fun x h1 => match x with
  | .bl b => .ok (.bl (!b)) h1
  | _ => .bad
theorem se_one {op} {a : Expr} {m : ME} (h : SE C X W a m) : SE C X W (.BoolOp op [a] pos) m := pe_one h
theorem se_and {a b : Expr} {rest : List Expr} {ma mb : ME} (ha : SE C X W a ma) (hb : SE C X W (.BoolOp .And (b :: rest) pos) mb) : SE C X W (.BoolOp .And (a :: b :: rest) pos) (cAndV ma mb) := by
  refine PE.weak (pe_and ha hb) fun σ H Q ⟨Z, M, env, h, s, g⟩ => ?_
  refine tE.step s g fun M1 H1 h1 d v e1 s1 r1 g1 => ?_
  cases d with
  | bl b =>
    cases r1
    cases b with
    | true => exact ⟨true, rfl, by rw [if_pos rfl]; exact ⟨Z, M1, env, h1, s1, g1⟩⟩
    | false => exact ⟨false, rfl, Got.now g1 s1 _ (.bl false)⟩
  | _ => exact False.elim g1
theorem se_or {a b : Expr} {rest : List Expr} {ma mb : ME} (ha : SE C X W a ma) (hb : SE C X W (.BoolOp .Or (b :: rest) pos) mb) : SE C X W (.BoolOp .Or (a :: b :: rest) pos) (cOrV ma mb) := by
  refine PE.weak (pe_or ha hb) fun σ H Q ⟨Z, M, env, h, s, g⟩ => ?_
  refine tE.step s g fun M1 H1 h1 d v e1 s1 r1 g1 => ?_
  cases d with
  | bl b =>
    cases r1
    cases b with
    | true => exact ⟨true, rfl, by rw [if_pos rfl]; exact Got.now g1 s1 _ (.bl true)⟩
    | false => exact ⟨false, rfl, ⟨Z, M1, env, h1, s1, g1⟩⟩
  | _ => exact False.elim g1
theorem se_not {a : Expr} {m : ME} (ha : SE C X W a m) : SE C X W (.UnaryOp .Not a pos) (cNotV m) := by
  refine PE.weak (pe_not ha) fun σ H Q ⟨Z, M, env, h, s, g⟩ => ?_
  refine tE.step s g fun M1 H1 h1 d v e1 s1 r1 g1 => ?_
  cases d with
  | bl b =>
    cases r1
    exact ⟨b, rfl, Got.now g1 s1 _ (.bl _)⟩
  | _ => exact False.elim g1
def cIf (t : MT) (a b : ME) : ME := fun env h => (t env h).bind fun x h1 => match x with
  | true => a env h1
  | false => b env h1
theorem se_ifExp {c a b : Expr} {mt : MT} {ma mb : ME} (hc : ST C X W c mt) (ha : SE C X W a ma) (hb : SE C X W b mb) : SE C X W (.IfExp c a b pos) (cIf mt ma mb) := by
  refine PE.weak (pe_ifExp hc ha hb) fun σ H Q ⟨Z, M, env, h, s, g⟩ => ?_
  refine tT.step s g fun M1 H1 h1 b e1 s1 g1 => ?_
  cases b with
  | true => rw [if_pos rfl]; exact ⟨Z, M1, env, h1, s1, g1⟩
  | false => exact ⟨Z, M1, env, h1, s1, g1⟩

/-! ### argument lists, displays -/
def aNil : MA := fun _ h => .ok [] h
def aCons (a : ME) (t : MA) : MA := fun env h => (a env h).bind fun x h1 => (t env h1).bind fun xs h2 => .ok (x :: xs) h2
theorem sa_nil : SA C X W [] aNil := PA.weak pa_nil fun σ H Q ⟨Z, M, env, h, s, g⟩ => Got.now g s [] Reps.nil
theorem sa_cons {e : Expr} {es : List Expr} {m : ME} {t : MA} (ha : SE C X W e m) (hr : SA C X W es t) (hs : starEach (e :: es) X.env = (false, eval e X.env) :: starEach es X.env := by rfl) : SA C X W (e :: es) (aCons m t) := by
  refine PA.weak (pa_cons ha hr hs) fun σ H Q ⟨Z, M, env, h, s, g⟩ => ?_
  refine tE.step s g fun M1 H1 h1 d v e1 s1 r1 g1 => ?_
  refine tA.step s1 g1 fun M2 H2 h2 ds vs e2 s2 r2 g2 => ?_
  exact Got.now g2 s2 _ (Reps.cons (r1.mono e2) r2)
def cTup (t : MA) : ME := fun env h => (t env h).bind fun xs h1 => if xs.length ≤ sizeLine then .ok (.tup xs) h1 else .bad
def cLst (t : MA) : ME := fun env h => (t env h).bind fun xs h1 => if xs.length ≤ sizeLine then .ok (.lst xs) h1 else .bad
/-- a new mutable list -/
def cLstN (t : MA) : ME := fun env h => (t env h).bind fun xs h1 => if xs.length ≤ sizeLine then .ok (.loc h1.length) (h1 ++ [.lst xs]) else .bad
theorem newTup {K : PySem.W.Frag} {C : List (V × D)} {Z : Addr → Prop} {M : List Addr} {h : List D} {H : Hp} {xs : List D} {vs : List V} {p : Addr} (s : Sh K C Z M h H) (r : Reps K (zn Z M) M H xs vs) (hp : H p = none) : Rep K (zn Z M) M (upd H p (.tup vs)) (.tup xs) (.ref p) :=
  .tup (s.zone hp) (.inl upd_same) r.1 fun i d v h1 h2 => (r.2 i d v h1 h2).mono (Evo.laid hp)
theorem newLst {K : PySem.W.Frag} {C : List (V × D)} {Z : Addr → Prop} {M : List Addr} {h : List D} {H : Hp} {xs : List D} {vs : List V} {p : Addr} (s : Sh K C Z M h H) (r : Reps K (zn Z M) M H xs vs) (hp : H p = none) : Rep K (zn Z M) M (upd H p (.lst vs)) (.lst xs) (.ref p) :=
  .lst (s.zone hp) upd_same r.1 fun i d v h1 h2 => (r.2 i d v h1 h2).mono (Evo.laid hp)
theorem se_tup {es : List Expr} {t : MA} {x1} (ha : SA C X W es t) : SE C X W (.Tuple es x1 pos) (cTup t) := by
  refine PE.weak (pe_tup ha) fun σ H Q ⟨Z, M, env, h, s, g⟩ => ?_
  refine tA.step s g fun M1 H1 h1 ds vs e1 s1 r1 g1 => ?_
  by_cases hz : ds.length ≤ sizeLine
  · rw [if_pos hz] at g1
    exact ⟨r1.1 ▸ hz, fun p hp => g1 M1 _ (Evo.laid hp) (s1.later (Evo.laid hp) (s1.sh.laid hp)) _ (newTup s1.sh r1 hp)⟩
  · rw [if_neg hz] at g1
    exact False.elim g1
theorem se_lst {es : List Expr} {t : MA} (ha : SA C X W es t) : SE C X W (.List es pos) (cLst t) := by
  refine PE.weak (pe_lst ha) fun σ H Q ⟨Z, M, env, h, s, g⟩ => ?_
  refine tA.step s g fun M1 H1 h1 ds vs e1 s1 r1 g1 => ?_
  by_cases hz : ds.length ≤ sizeLine
  · rw [if_pos hz] at g1
    exact ⟨r1.1 ▸ hz, fun p hp => g1 M1 _ (Evo.laid hp) (s1.later (Evo.laid hp) (s1.sh.laid hp)) _ (newLst s1.sh r1 hp)⟩
  · rw [if_neg hz] at g1
    exact False.elim g1
/-- a new mutable object at p -/
theorem newLoc {K : PySem.W.Frag} {C : List (V × D)} {Z Z' : Addr → Prop} {M : List Addr} {h : List D} {H H' : Hp} {p : Addr} (s : Sh K C Z M h H) : Rep K Z' (M ++ [p]) H' (.loc h.length) (.ref p) :=
  .loc (by rw [List.getElem?_append_right (by rw [s.len]; exact Nat.le_refl _), s.len, Nat.sub_self]; rfl)
theorem se_lstN {es : List Expr} {t : MA} (ha : SA C X W es t) : SE C X W (.List es pos) (cLstN t) := by
  refine PE.weak (pe_lst ha) fun σ H Q ⟨Z, M, env, h, s, g⟩ => ?_
  refine tA.step s g fun M1 H1 h1 ds vs e1 s1 r1 g1 => ?_
  by_cases hz : ds.length ≤ sizeLine
  · rw [if_pos hz] at g1
    refine ⟨r1.1 ▸ hz, fun p hp => g1 (M1 ++ [p]) _ (Evo.newloc hp) (s1.later (Evo.newloc hp) (s1.sh.newloc hp ⟨vs, upd_same, r1.mono (Evo.newloc hp)⟩)) _ ?_⟩
    exact newLoc s1.sh
  · rw [if_neg hz] at g1
    exact False.elim g1

/-! ### statements -/
def sSeq (a b : MS) : MS := fun env h => match a env h with
  | .nx env' h' => b env' h'
  | r => r
def sNil : MS := fun env h => .nx env h
theorem sb_nil : SB C X W [] sNil := PSs.weak pss_nil fun D' σ H ⟨Z, M, env, h, s, g⟩ => g M σ H (.refl M H) s
theorem sb_one {st : Stmt} {m : MS} (h : SS C X W st m) : SB C X W [st] m := pss_one h
theorem sb_cons {st : Stmt} {rest : List Stmt} {a b : MS} (h1 : SS C X W st a) (h2 : SB C X W rest b) : SB C X W (st :: rest) (sSeq a b) := by
  refine PSs.weak (pss_cons h1 h2) fun D' σ H ⟨Z, M, env, h, s, g⟩ => ⟨Z, M, env, h, s, ?_⟩
  unfold sSeq at g
  cases e : a env h with
  | nx env' h' =>
    rw [e] at g
    exact fun M' σ' H' ev s' => ⟨Z, M', env', h', s', GotS.later ev g⟩
  | br env' h' => rw [e] at g; exact g
  | ct env' h' => rw [e] at g; exact g
  | rt d h' => rw [e] at g; exact g
  | exc c ns ds env' h' => rw [e] at g; exact g
  | bad => rw [e] at g; exact g
theorem ss_pass : SS C X W (.Pass pos) sNil := PS.weak ps_pass fun D' σ H ⟨Z, M, env, h, s, g⟩ => g M σ H (.refl M H) s
def sBreak : MS := fun env h => .br env h
def sCont : MS := fun env h => .ct env h
theorem ss_break : SS C X W (.Break pos) sBreak := PS.weak ps_break fun D' σ H ⟨Z, M, env, h, s, g⟩ => g M σ H (.refl M H) s
theorem ss_cont : SS C X W (.Continue pos) sCont := PS.weak ps_continue fun D' σ H ⟨Z, M, env, h, s, g⟩ => g M σ H (.refl M H) s
theorem ss_doc {x j pos'} : SS C X W (.Expr (.Constant (.str x) j pos) pos') sNil := PS.weak ps_doc fun D' σ H ⟨Z, M, env, h, s, g⟩ => g M σ H (.refl M H) s
def sExpr (m : ME) : MS := fun env h => (m env h).thenS env fun _ h1 => .nx env h1
theorem ss_expr {e : Expr} {m : ME} (he : SE C X W e m) (hs : swapsWith e none pos.line X.env = pure false := by rfl) : SS C X W (.Expr e pos) (sExpr m) := by
  refine PS.weak (ps_expr he hs) fun D' σ H ⟨Z, M, env, h, s, g⟩ => ?_
  exact tE.stepS s g fun M1 H1 h1 d v e1 s1 r1 g1 => g1 M1 σ H1 (.refl M1 H1) s1
def sRet (m : ME) : MS := fun env h => (m env h).thenS env fun d h1 => .rt d h1
theorem ss_ret {e : Expr} {m : ME} (he : SE C X W e m) : SS C X W (.Return (some e) pos) (sRet m) := by
  refine PS.weak (ps_ret he) fun D' σ H ⟨Z, M, env, h, s, g⟩ => ?_
  exact tE.stepS s g fun M1 H1 h1 d v e1 s1 r1 g1 => g1 M1 H1 v (.refl M1 H1) s1.sh r1
def sRetN : MS := fun env h => .rt .non h
theorem ss_retN : SS C X W (.Return none pos) sRetN := PS.weak ps_retN fun D' σ H ⟨Z, M, env, h, s, g⟩ => g M H .non (.refl M H) s.sh .non
def sIf (t : MT) (a b : MS) : MS := fun env h => (t env h).thenS env fun x h1 => match x with
  | true => a env h1
  | false => b env h1
theorem ss_if {c : Expr} {a b : List Stmt} {mt : MT} {ma mb : MS} (hc : ST C X W c mt) (ha : SB C X W a ma) (hb : SB C X W b mb) : SS C X W (.If c a b pos) (sIf mt ma mb) := by
  refine PS.weak (ps_if hc ha hb) fun D' σ H ⟨Z, M, env, h, s, g⟩ => ?_
  refine tT.stepS s g fun M1 H1 h1 b e1 s1 g1 => ?_
  cases b with
  | true => rw [if_pos rfl]; exact ⟨Z, M1, env, h1, s1, g1⟩
  | false => exact ⟨Z, M1, env, h1, s1, g1⟩
def sSet (i : Nat) (m : ME) : MS := fun env h => (m env h).thenS env fun d h1 => .nx (env.set i (.v d)) h1
theorem ss_set {i : Nat} {x : Str} {e : Expr} {m : ME} {pos' : Pos} (hN : X.N.Nodup) (hi : X.N[i]? = some x) (hx : Loc X.env.scope x) (he : SE C X W e m) (hs : swapsWith e (some (.Name x pos')) pos.line X.env = pure false := by rfl)
    (hf : X.fn x = true ∨ X.env.scope.names.lookup x = some .local := by first | exact .inl rfl | exact .inr rfl | assumption) : SS C X W (.Assign [.Name x pos'] e pos) (sSet i m) := by
  refine PS.weak (ps_set hN hi hx he hs hf) fun D' σ H ⟨Z, M, env, h, s, g⟩ => ?_
  exact tE.stepS s g fun M1 H1 h1 d v e1 s1 r1 g1 => g1 M1 _ H1 (.refl M1 H1) (s1.set r1)
end
end G

set_option Elab.async false
set_option linter.all false
set_option maxRecDepth 100000
set_option maxHeartbeats 4000000
/-! G2: defs, calls, pure calls, classes, attributes. -/
namespace G
open PySem PySem.Spec PyProof.Rows L2

abbrev FF := List D → List D → R D

section
variable {K : PySem.W.Frag} {Z Z' : Addr → Prop} {M M' : List Addr} {H : Hp}
theorem Rep.pure {d : D} {v : V} (r : Rep K Z M H d v) (hz : ∀ a, Z a → Z' a) (p : d.pure = true) : Rep K Z' M' H d v := by
  induction r with
  | non => exact .non
  | bl b => exact .bl b
  | int i => exact .int i
  | str x => exact .str x
  | tup z h l _ ih => rw [D.pure] at p; exact .tup (hz _ z) h l fun i d v h1 h2 => ih i d v h1 h2 (pureL_get p h1)
  | lst z h l _ ih => rw [D.pure] at p; exact .lst (hz _ z) h l fun i d v h1 h2 => ih i d v h1 h2 (pureL_get p h1)
  | dic z h k l _ ih => rw [D.pure] at p; exact .dic (hz _ z) h k l fun i d v h1 h2 => ih i d v h1 h2 (pureL_get p h1)
  | obj z h k l _ ih => rw [D.pure] at p; exact .obj (hz _ z) h k l fun i d v h1 h2 => ih i d v h1 h2 (pureL_get p h1)
  | loc h => rw [D.pure] at p; cases p
  | scr s => exact .scr s
  | cls => exact .cls
theorem Reps.pure {xs : List D} {vs : List V} (r : Reps K Z M H xs vs) (hz : ∀ a, Z a → Z' a) (p : pureL xs = true) : Reps K Z' M' H xs vs :=
  ⟨r.1, fun i d v h1 h2 => (r.2 i d v h1 h2).pure hz (pureL_get p h1)⟩
end

theorem Rep.zone' {K : PySem.W.Frag} {Z Z' : Addr → Prop} {M : List Addr} {H : Hp} {d : D} {v : V} (r : Rep K Z M H d v) (hz : ∀ a, Z a → Z' a) : Rep K Z' M H d v := by
  induction r with
  | non => exact .non
  | bl b => exact .bl b
  | int i => exact .int i
  | str x => exact .str x
  | tup z h l _ ih => exact .tup (hz _ z) h l ih
  | lst z h l _ ih => exact .lst (hz _ z) h l ih
  | dic z h k l _ ih => exact .dic (hz _ z) h k l ih
  | obj z h k l _ ih => exact .obj (hz _ z) h k l ih
  | loc h => exact .loc h
  | scr s => exact .scr s
  | cls => exact .cls

/-! ### data as it is at the end of a state -/
mutual
def res : Nat → List D → D → Option D
  | 0, _, _ => none
  | f + 1, h, d => bif d.pure then some d else resN f h d
def resN : Nat → List D → D → Option D
  | 0, _, _ => none
  | f + 1, h, .loc n => match h[n]? with
    | some c => res f h c
    | none => none
  | f + 1, h, .tup xs => (resL f h xs).map .tup
  | f + 1, h, .lst xs => (resL f h xs).map .lst
  | f + 1, h, .dic ks ds => (resL f h ds).map (.dic ks)
  | f + 1, h, .obj c ns ds => (resL f h ds).map (.obj c ns)
  | _ + 1, _, .non => none
  | _ + 1, _, .bl _ => none
  | _ + 1, _, .int _ => none
  | _ + 1, _, .str _ => none
  | _ + 1, _, .scr _ => none
  | _ + 1, _, .cls _ => none
  | _ + 1, _, .lck _ _ => none
def resL : Nat → List D → List D → Option (List D)
  | 0, _, _ => none
  | _ + 1, _, [] => some []
  | f + 1, h, d :: ds => match res f h d with
    | some d' => (resL f h ds).map (d' :: ·)
    | none => none
end
mutual
theorem res_pure : ∀ {f : Nat} {h : List D} {d d' : D}, res f h d = some d' → d'.pure = true
  | 0, h, d, d', e => by rw [res] at e; cases e
  | f + 1, h, d, d', e => by
    rw [res] at e
    cases p : d.pure with
    | true => rw [p] at e; cases e; exact p
    | false => rw [p] at e; exact resN_pure e
theorem resN_pure : ∀ {f : Nat} {h : List D} {d d' : D}, resN f h d = some d' → d'.pure = true
  | 0, h, d, d', e => by rw [resN] at e; cases e
  | f + 1, h, d, d', e => by
    cases d with
    | loc n =>
      rw [resN] at e
      cases hn : h[n]? with
      | none => rw [hn] at e; cases e
      | some c => rw [hn] at e; exact res_pure e
    | tup xs =>
      rw [resN] at e
      cases hx : resL f h xs with
      | none => rw [hx] at e; cases e
      | some ys => rw [hx] at e; cases e; rw [D.pure]; exact resL_pure hx
    | lst xs =>
      rw [resN] at e
      cases hx : resL f h xs with
      | none => rw [hx] at e; cases e
      | some ys => rw [hx] at e; cases e; rw [D.pure]; exact resL_pure hx
    | dic ks xs =>
      rw [resN] at e
      cases hx : resL f h xs with
      | none => rw [hx] at e; cases e
      | some ys => rw [hx] at e; cases e; rw [D.pure]; exact resL_pure hx
    | obj c ns xs =>
      rw [resN] at e
      cases hx : resL f h xs with
      | none => rw [hx] at e; cases e
      | some ys => rw [hx] at e; cases e; rw [D.pure]; exact resL_pure hx
    | _ => rw [resN] at e; cases e
theorem resL_pure : ∀ {f : Nat} {h ds ds' : List D}, resL f h ds = some ds' → pureL ds' = true
  | 0, h, ds, ds', e => by cases ds <;> (rw [resL] at e; cases e)
  | f + 1, h, [], ds', e => by rw [resL] at e; cases e; rfl
  | f + 1, h, d :: ds, ds', e => by
    rw [resL] at e
    cases hd : res f h d with
    | none => rw [hd] at e; cases e
    | some d' =>
      rw [hd] at e
      cases hx : resL f h ds with
      | none => rw [hx] at e; cases e
      | some ys => rw [hx] at e; cases e; rw [pureL, res_pure hd, resL_pure hx]; rfl
end
theorem res_lck {f : Nat} {h : List D} {ks : List Key} {ds : List D} {d : D} (e : res f h (.lck ks ds) = some d) : False := by
  cases f with
  | zero => rw [res] at e; cases e
  | succ f =>
    rw [res, D.pure] at e
    cases f with
    | zero => rw [cond_false, resN] at e; cases e
    | succ f => rw [cond_false, resN] at e; cases e
section
variable {K : PySem.W.Frag} {Z : Addr → Prop} {M : List Addr} {H : Hp} {h : List D}
theorem zn_nil {a : Addr} (z : Z a) : zn Z [] a := ⟨z, List.not_mem_nil⟩
theorem Cel.rep {a : Addr} {c : D} (x : Cel K (zn Z M) M H a c) (nl : ∀ ks ds, c ≠ .lck ks ds) (za : Z a) : Rep K (zn Z []) M H c (.ref a) := by
  cases c with
  | lst xs =>
    obtain ⟨vs, ha, rs⟩ := x
    exact .lst (zn_nil za) ha rs.1 fun i d v h1 h2 => (rs.2 i d v h1 h2).zone' fun a z => zn_nil z.1
  | dic ks xs =>
    obtain ⟨vs, ha, hk, rs⟩ := x
    exact .dic (zn_nil za) (.inl ha) hk (by rw [rs.1, List.length_map]) fun i d v h1 h2 => (rs.2 i d v h1 h2).zone' fun a z => zn_nil z.1
  | obj c ns xs =>
    obtain ⟨dx, vs, ha, hk, rs⟩ := x
    exact .obj (zn_nil za) ha hk (by rw [rs.1, List.length_map]) fun i d v h1 h2 => (rs.2 i d v h1 h2).zone' fun a z => zn_nil z.1
  | lck ks xs => exact absurd rfl (nl ks xs)
  | _ => exact False.elim x
mutual
theorem res_rep (s : Sh K C Z M h H) (hz : ∀ a, a ∈ M → Z a) : ∀ {f : Nat} {d d' : D} {v : V}, res f h d = some d' → Rep K (zn Z []) M H d v → Rep K (zn Z []) [] H d' v
  | 0, d, d', v, e, r => by rw [res] at e; cases e
  | f + 1, d, d', v, e, r => by
    rw [res] at e
    cases p : d.pure with
    | true => rw [p] at e; cases e; exact r.pure (fun a z => z) p
    | false => rw [p] at e; exact resN_rep s hz e r
theorem resN_rep (s : Sh K C Z M h H) (hz : ∀ a, a ∈ M → Z a) : ∀ {f : Nat} {d d' : D} {v : V}, resN f h d = some d' → Rep K (zn Z []) M H d v → Rep K (zn Z []) [] H d' v
  | 0, d, d', v, e, r => by rw [resN] at e; cases e
  | f + 1, d, d', v, e, r => by
    cases d with
    | loc n =>
      rw [resN] at e
      cases hn : h[n]? with
      | none => rw [hn] at e; cases e
      | some c =>
        rw [hn] at e
        cases r with
        | loc hm => exact res_rep s hz e (Cel.rep (s.cel n _ c hm hn) (fun ks ds z => by subst z; exact res_lck e) (hz _ (List.mem_of_getElem? hm)))
    | tup xs =>
      rw [resN] at e
      cases hx : resL f h xs with
      | none => rw [hx] at e; cases e
      | some ys =>
        rw [hx] at e; cases e
        cases r with
        | tup z ha l q =>
          have rp := resL_rep s hz hx ⟨l, q⟩
          exact .tup z ha rp.1 rp.2
    | lst xs =>
      rw [resN] at e
      cases hx : resL f h xs with
      | none => rw [hx] at e; cases e
      | some ys =>
        rw [hx] at e; cases e
        cases r with
        | lst z ha l q =>
          have rp := resL_rep s hz hx ⟨l, q⟩
          exact .lst z ha rp.1 rp.2
    | dic ks xs =>
      rw [resN] at e
      cases hx : resL f h xs with
      | none => rw [hx] at e; cases e
      | some ys =>
        rw [hx] at e; cases e
        cases r with
        | dic z ha hk l q =>
          have rp := resL_rep s hz hx ⟨by rw [l, List.length_map], q⟩
          exact .dic z ha hk (by rw [rp.1, List.length_map]) rp.2
    | obj c ns xs =>
      rw [resN] at e
      cases hx : resL f h xs with
      | none => rw [hx] at e; cases e
      | some ys =>
        rw [hx] at e; cases e
        cases r with
        | obj z ha hk l q =>
          have rp := resL_rep s hz hx ⟨by rw [l, List.length_map], q⟩
          exact .obj z ha hk (by rw [rp.1, List.length_map]) rp.2
    | _ => rw [resN] at e; cases e
theorem resL_rep (s : Sh K C Z M h H) (hz : ∀ a, a ∈ M → Z a) : ∀ {f : Nat} {ds ds' : List D} {vs : List V}, resL f h ds = some ds' → Reps K (zn Z []) M H ds vs → Reps K (zn Z []) [] H ds' vs
  | 0, ds, ds', vs, e, r => by cases ds <;> (rw [resL] at e; cases e)
  | f + 1, [], ds', vs, e, r => by
    rw [resL] at e; cases e
    rw [r.cases_nil]
    exact Reps.nil
  | f + 1, d :: ds, ds', vs, e, r => by
    rw [resL] at e
    obtain ⟨v, ws, rfl, r1, r2⟩ := r.cases_cons
    cases hd : res f h d with
    | none => rw [hd] at e; cases e
    | some d' =>
      rw [hd] at e
      cases hx : resL f h ds with
      | none => rw [hx] at e; cases e
      | some ys =>
        rw [hx] at e; cases e
        exact Reps.cons (res_rep s hz hd r1) (resL_rep s hz hx r2)
end
end
end G

set_option Elab.async false
set_option linter.all false
set_option maxRecDepth 100000
set_option maxHeartbeats 4000000
/-! G3: defs, calls, pure calls, classes. -/
namespace G
open PySem PySem.Spec PyProof.Rows L2

/-- as a pure function: the arguments' data go in, the result's data comes out, the state stands -/
def pureF (F : FF) : FF := fun ds h => match resL 60 h ds with
  | some es => (match F es [] with
    | .ok d h1 => (match res 60 h1 d with
      | some d' => bif pureL ds || d'.flat then .ok d' h else .bad
      | none => .bad)
    | .exc c ns ps h1 => (match resL 60 h1 ps with
      | some ps' => bif pureL ds || flatL ps' then .exc c ns ps' h else .bad
      | none => .bad)
    | .bad => .bad)
  | none => .bad

section
variable {K : PySem.W.Frag} {C : List (V × D)} {Z : Addr → Prop} {M : List Addr} {H H1 : Hp} {h : List D}
theorem Rep.flat {d : D} {v : V} {Z' : Addr → Prop} {M' : List Addr} (r : Rep K Z M H d v) (hz : ∀ a xs, Z a → Rd H a (.tup xs) → Z' a) (p : d.flat = true) : Rep K Z' M' H d v := by
  induction r with
  | non => exact .non
  | bl b => exact .bl b
  | int i => exact .int i
  | str x => exact .str x
  | tup z h l _ ih => rw [D.flat] at p; exact .tup (hz _ _ z h) h l fun i d v h1 h2 => ih i d v h1 h2 (flatL_get p h1)
  | lst z h l _ ih => rw [D.flat] at p; cases p
  | dic z h k l _ ih => rw [D.flat] at p; cases p
  | obj z h k l _ ih => rw [D.flat] at p; cases p
  | loc h => rw [D.flat] at p; cases p
  | scr s => rw [D.flat] at p; cases p
  | cls => rw [D.flat] at p; cases p
theorem Cel.noxd {a : Addr} {d : D} {fs : List (Str × V)} (c : Cel K Z M H a d) (e : H a = some (.xd fs)) : False := by
  cases d with
  | lst xs => obtain ⟨vs, q, _⟩ := c; rw [e] at q; cases q
  | dic ks ds => obtain ⟨vs, q, _⟩ := c; rw [e] at q; cases q
  | obj c' ns ds => obtain ⟨dx, vs, q, _⟩ := c; rw [e] at q; cases q
  | lck ks ds => obtain ⟨vs, o, q, _⟩ := c; rw [e] at q; cases q
  | _ => exact False.elim c
theorem Cel.notup {a : Addr} {d : D} {xs : List V} (c : Cel K Z M H a d) (r : Rd H a (.tup xs)) : False := by
  have q : ∀ o, H a = some o → (∀ u w, o = .frz u w → ∃ kvs, w = .dK kvs) → o ≠ .tup xs → False := fun o e n t => by
    rcases r with r | ⟨u, r⟩
    · rw [e] at r; cases r; exact t rfl
    · rw [e] at r; cases r
      obtain ⟨kvs, z⟩ := n _ _ rfl
      cases z
  obtain ⟨o, e, n⟩ := Cel.there c
  refine q o e n fun z => ?_
  subst z
  cases d with
  | lst xs => obtain ⟨vs, q, _⟩ := c; rw [e] at q; cases q
  | dic ks ds => obtain ⟨vs, q, _⟩ := c; rw [e] at q; cases q
  | obj c' ns ds => obtain ⟨dx, vs, q, _⟩ := c; rw [e] at q; cases q
  | lck ks ds => obtain ⟨vs, o, q, _⟩ := c; rw [e] at q; cases q
  | _ => exact False.elim c
theorem Sh.notup {a : Addr} {xs : List V} (s : Sh K C Z M h H) (r : Rd H a (.tup xs)) : a ∉ M := fun m => by
  obtain ⟨i, hi, rfl⟩ := List.getElem_of_mem m
  have hl : i < h.length := s.len ▸ hi
  exact Cel.notup (s.cel i _ _ (List.getElem?_eq_getElem hi) (List.getElem?_eq_getElem hl)) r
/-- nothing of the mutable objects has turned -/
theorem Sh.stay (s : Sh K C Z M h H) (k : ∀ a o, H a = some o → H1 a = some o) : Sh K C Z M h H1 ∧ Evo M H M H1 := by
  have ev : Evo M H M H1 := ⟨⟨[], by simp⟩, fun a m n => absurd m n, fun a o e _ => k a o e, fun a o u e => k a _ e⟩
  refine ⟨⟨fun p hp => s.all p ?_, s.mz, fun q hq => ⟨(s.cst q hq).1, (s.cst q hq).2.mono ev⟩, s.nd, s.len, fun i a d h1 h2 => Cel.mono ev (fun o ho => k a o ho) (s.cel i a d h1 h2)⟩, ev⟩
  cases e : H p with
  | none => rfl
  | some o => rw [k p o e] at hp; cases hp
theorem Sh.start {Z : Addr → Prop} (all : ∀ p, H p = .none → Z p) (cst : ∀ p ∈ C, p.2.pure = true ∧ Rep K (zn Z []) [] H p.2 p.1) : Sh K C Z [] [] H := ⟨all, fun a m => (by cases m), cst, List.nodup_nil, rfl, fun i a d h1 => by simp at h1⟩
end

/-! ### room, with no repr on its way -/
structure RG (k : Nat) (A : Around) : Prop where
  rm : Room k A
  gd : A.guards = some []
theorem RG.mono {j k : Nat} {A : Around} (r : RG k A) (h : j ≤ k) : RG j A := ⟨r.rm.mono h, r.gd⟩
theorem RG.deeper {k : Nat} {A : Around} (r : RG (k + 1) A) (env : Env) : RG k (A.deeper env) := ⟨r.rm.deeper env, r.gd⟩
theorem RG.in1 {k : Nat} {A : Around} (r : RG (k + 1) A) : RG k A.in1 := ⟨r.rm.in1, r.gd⟩
theorem RG.make {k : Nat} {A : Around} (r : RG (k + 1) A) (C : Addr) (us : List Value) (kw : List (Str × Value)) : RG k (A.under (.builtin "type.__call__" ⟨.ref C :: us, kw⟩)) :=
  ⟨r.rm.make C us kw, by
    have := r.gd
    first | exact this | (simpa [Around.under, Code.guards, Code.isGuard, pushGuards, guardIds] using this)⟩
/-- FnOk, with no repr on its way -/
structure FnG (P : Program) (w : World) (K : PySem.W.Frag) (mg : Str → Option Value) (base : Heap) (CX : CXT) (k : Nat) (f : Addr) (fd : FuncData) (ps : List Str) (sp : Sp) : Prop where
  len : ∀ vs H Q E, sp vs H Q E → vs.length = ps.length
  run : ∀ (A : Around) (outer : List Env) (s : Shared) (H : Hp) (args : Args) (us : List Value) (vs : List V) (Q : VK) (E : XK), RG k A → Env0 P w K mg base A outer s H → BindsTo s fd args (ps.zip us) → Vals vs us → sp vs H Q E →
    codeAny (model P w) A (.call (.ref f) args) (CR CX outer P w H s Q E) s
theorem FnG.mono {P : Program} {w : World} {K : PySem.W.Frag} {mg : Str → Option Value} {base : Heap} {CX : CXT} {j k : Nat} {f : Addr} {fd : FuncData} {ps : List Str} {sp : Sp} (F : FnG P w K mg base CX j f fd ps sp) (h : j ≤ k) :
    FnG P w K mg base CX k f fd ps sp := ⟨F.len, fun A outer s H args us vs Q E hr => F.run A outer s H args us vs Q E (hr.mono h)⟩
/-- a def by its body: fn_of, with no repr on its way -/
theorem FunD.okG {P : Program} {w : World} {K : PySem.W.Frag} {mg : Str → Option Value} {base : Heap} {x qual : Str} {params : Arguments} {body : List Stmt} {scope : Scope} {dvs : List V} {kws : List (Str × V)} {f : Addr} {fd : FuncData} {CX : CXT} {N ps : List Str} {k : Nat} {sp : Sp}
    (F : FunD K x qual params body scope dvs kws f fd) (S : FnScope N ps scope) (len : ∀ vs H Q E, sp vs H Q E → vs.length = ps.length)
    (hbody : ∀ (cdv : Value) (A : Around) (outer : List Env) (s : Shared) (H : Hp) (vs : List V) (Q : VK) (E : XK), RG k (A.deeper (envOfC qual scope s.heap.objs.size f cdv)) → sp vs H Q E →
      ∃ t, PSs (cxOf CX P w K mg base N qual scope f cdv A outer s H E) body t ∧ t { nx := fun _ H' => Q .non H', rt := Q } (L2.start N vs) H) : FnG P w K mg base CX (k + 1) f fd ps sp := by
  obtain ⟨oc, od, dV, kV, doc, pm, an, cdv, ct, osl, rfl, lk, hcd, _, _⟩ := F.ex
  refine ⟨len, fun A outer s H args us vs Q E hr e0 hb r hsp => ?_⟩
  have hl := len _ _ _ _ hsp
  have KX : K.In s.heap := e0.mod.kin.keeps fun b o e => (e0.bs b o e).1
  have lim : s.heap.NoLimit := e0.mod.nolimit.keeps fun b o e => (e0.bs b o e).1
  have hkind : ∀ y ∈ ps.zip us, scope.names.lookup y.1 = some .local ∨ (scope.names.lookup y.1 = some .cell ∧ ((cellsFrom (s.heap.objs.size + 1) scope.names []).lookup y.1).isSome = true) := fun ⟨n, v⟩ hy =>
    (S.par n (List.of_mem_zip hy).1).elim .inl fun q => .inr ⟨q, PySem.W.cellsFrom_some _ _ _ (.inl q)⟩
  refine codeAny_call_function hr.rm.depth (KX _ _ lk) rfl S.co S.gen rfl (PySem.W.codeRec_of KX hcd) (hb _ _ _ _ (wpAny_newFunctionEnv_cells S.kind hkind fun env he s1 x => ?_))
  subst he
  refine ⟨lim.keeps x.toInCall.keep, codeAny_func ?_⟩
  obtain ⟨t, ht, hq⟩ := hbody cdv A outer s H vs Q E (hr.deeper _) hsp
  refine wpAny_mono (ht.run [] s1 _ H _ (inv_start S hr.rm.hd e0 hl r x) hq) (fun fl s' hs => ?_) fun e s' hs => hs
  cases fl with
  | ret u => obtain ⟨v, σ', H', J, rv, q⟩ := hs; exact ⟨v, H', J.os, J.bare, J.base, J.hok, rv, q⟩
  | next => obtain ⟨σ', H', J, q⟩ := hs; exact ⟨V.non, H', J.os, J.bare, J.base, J.hok, rfl, q⟩
  | brk => obtain ⟨_, _, _, q⟩ := hs; exact False.elim q
  | cont => obtain ⟨_, _, _, q⟩ := hs; exact False.elim q
theorem run_fnG {X : Cx} {CX : CXT} {k : Nat} {f : Addr} {fd : FuncData} {ps : List Str} {sp : Sp} {dvs : List V} {ds : List Value} {E : L2.St → XK} {pins : List (Addr × Obj)} {σ : L2.St} {H : Hp} {s : Shared} {Q : VK} {us : List Value} {vs : List V}
    {A : Around} (F : FnG X.prog X.w X.K X.mg X.base CX k f fd ps sp) (hr : RG k A) (e0 : Env0 X.prog X.w X.K X.mg X.base A X.stack s H) (hb : Binds X.K fd ps ds) (hd : Vals dvs ds) (hx : PassesAt CX X σ (E σ)) (I : Inv X pins σ H s) (r : Vals vs us) (h : sp (vs ++ dvs) H Q (E σ)) : wpAny (model X.prog X.w) A (call (.ref f) us) (EP X pins σ Q) X.xe s := by
  have r2 : Vals (vs ++ dvs) (us ++ ds) := r.append hd
  have hl : (us ++ ds).length = ps.length := by rw [← r2.length]; exact F.len _ _ _ _ h
  refine wpAny_call (codeAny_mono (F.run A X.stack s H ⟨us, []⟩ (us ++ ds) (vs ++ dvs) Q (E σ) hr e0 (hb s us I.kIn hl) r2 h) fun r s' hq => ?_)
  cases r with
  | error e => exact hx pins H s e s' I hq
  | ok fl =>
    cases fl with
    | ret u => exact I.after hq
    | next => exact False.elim hq
    | brk => exact False.elim hq
    | cont => exact False.elim hq

/-! ### what can be called -/
/-- calls of the value u are F -/
def CalA (A : Around) (C : List (V × D)) (X : Cx) (W : WX) (u : Value) (F : FF) : Prop :=
  ∀ (pins : List (Addr × Obj)) (s : Shared) (σ : L2.St) (H : Hp) (Q : VK) (Z : Addr → Prop) (M : List Addr) (env : List Sl) (h : List D) (ds : List D) (vs : List V) (us : List Value),
    Inv X pins σ H s → SR X.K C X.pn Z M env h σ H → Reps X.K (zn Z M) M H ds vs → Vals vs us → Got X.K C X.pn Z W σ env M H (F ds h) (fun M' H' d => ∀ v, Rep X.K (zn Z M') M' H' d v → Q v H') →
    wpAny (model X.prog X.w) A (call u us) (EP X pins σ Q) X.xe s
abbrev Cal (C : List (V × D)) (X : Cx) (W : WX) (u : Value) (F : FF) : Prop := CalA X.A C X W u F
abbrev Cal1 (C : List (V × D)) (X : Cx) (W : WX) (u : Value) (F : FF) : Prop := CalA X.A.in1 C X W u F

theorem cal_pure {C : List (V × D)} {X : Cx} {W : WX} {u : Value} {F : FF} (c : Cal C X W u F) : Cal C X W u (pureF F) := by
  intro pins s σ H Q Z M env h ds vs us I sr rs r g
  unfold pureF at g
  cases e1 : resL 60 h ds with
  | none => rw [e1] at g; exact False.elim g
  | some es =>
    rw [e1] at g
    dsimp only at g
    have pe := resL_pure e1
    -- the callee's zone
    have hes : ∃ Z' : Addr → Prop, (∀ p, H p = none → Z' p) ∧ (∀ p ∈ C, p.2.pure = true ∧ Rep X.K (zn Z' []) [] H p.2 p.1) ∧ Reps X.K (zn Z' []) [] H es vs ∧ ∀ H' (d' : D) v, (∀ a o, H a = some o → H' a = some o) → (pureL ds || d'.flat) = true → d'.pure = true → Rep X.K (zn Z' []) [] H' d' v → Rep X.K (zn Z M) M H' d' v := by
      cases p : pureL ds with
      | true =>
        refine ⟨zn Z M, fun p hp => sr.sh.zone hp, fun q hq => ⟨(sr.sh.cst q hq).1, (sr.sh.cst q hq).2.pure (fun a z => zn_nil z) (sr.sh.cst q hq).1⟩, ?_, fun H' d' v k hf pd r => r.pure (fun a z => z.1) pd⟩
        have ee : es = ds := by
          clear rs r g
          have : ∀ (f : Nat) (ds es : List D), pureL ds = true → resL f h ds = some es → es = ds := by
            intro f
            induction f with
            | zero => intro ds es _ e; cases ds <;> (rw [resL] at e; cases e)
            | succ f ih =>
              intro ds es p e
              cases ds with
              | nil => rw [resL] at e; cases e; rfl
              | cons d ds =>
                rw [resL] at e
                rw [pureL, Bool.and_eq_true] at p
                cases hd : res f h d with
                | none => rw [hd] at e; cases e
                | some d' =>
                  rw [hd] at e
                  have hdd : d' = d := by
                    cases f with
                    | zero => rw [res] at hd; cases hd
                    | succ f => rw [res, p.1] at hd; cases hd; rfl
                  cases hx : resL f h ds with
                  | none => rw [hx] at e; cases e
                  | some ys =>
                    rw [hx] at e; cases e
                    rw [hdd, ih _ _ p.2 hx]
          exact this _ _ _ p e1
        rw [ee]
        exact rs.pure (fun a z => zn_nil z) p
      | false =>
        refine ⟨Z, sr.sh.all, fun q hq => ⟨(sr.sh.cst q hq).1, (sr.sh.cst q hq).2.pure (fun a z => zn_nil z.1) (sr.sh.cst q hq).1⟩, resL_rep sr.sh sr.sh.mz e1 ⟨rs.1, fun i d v h1 h2 => (rs.2 i d v h1 h2).zone' fun a z => zn_nil z.1⟩, fun H' d' v k hf pd r => ?_⟩
        rw [Bool.false_or] at hf
        exact r.flat (fun a xs z rd => ⟨z.1, Sh.notup (sr.sh.stay k).1 rd⟩) hf
    obtain ⟨Z', hall, hcst, hrs, hback⟩ := hes
    have sr' : SR X.K C X.pn Z' [] (List.replicate σ.length .u) [] σ H := by
      refine ⟨Sh.start hall hcst, fun i d hd => ?_, fun i c ns ds hd => ?_, by simp⟩
      rotate_left 1
      · rw [List.getElem?_replicate] at hd
        split at hd <;> cases hd
      rw [List.getElem?_replicate] at hd
      split at hd
      · cases hd
      · cases hd
    refine c pins s σ H Q Z' [] (List.replicate σ.length .u) [] es vs us I sr' hrs r ?_
    cases e2 : F es [] with
    | bad => rw [e2] at g; exact g
    | ok d h1 =>
      rw [e2] at g
      dsimp only at g
      intro M1 H1 ev s1 v rv
      have kk : ∀ a o, H a = some o → H1 a = some o := fun a o e => ev.keep a o e List.not_mem_nil
      cases e3 : res 60 h1 d with
      | none => rw [e3] at g; exact False.elim g
      | some d' =>
        rw [e3] at g
        dsimp only at g
        cases hb : pureL ds || d'.flat with
        | false => rw [hb] at g; exact False.elim g
        | true =>
          rw [hb] at g
          obtain ⟨q1, q2⟩ := sr.sh.stay kk
          refine g M H1 q2 (sr.later q2 q1) v (hback H1 d' v kk hb (res_pure e3) ?_)
          exact res_rep s1.sh s1.sh.mz e3 (rv.zone' fun a z => zn_nil z.1)
    | exc cn ns ps h1 =>
      rw [e2] at g
      dsimp only at g
      intro M1 H1 dx ev s1 ⟨fs, hx, hm, hk, hr⟩
      have kk : ∀ a o, H a = some o → H1 a = some o := fun a o e => ev.keep a o e List.not_mem_nil
      cases e3 : resL 60 h1 ps with
      | none => rw [e3] at g; exact False.elim g
      | some ps' =>
        rw [e3] at g
        dsimp only at g
        cases hb : pureL ds || flatL ps' with
        | false => rw [hb] at g; exact False.elim g
        | true =>
          rw [hb] at g
          obtain ⟨q1, q2⟩ := sr.sh.stay kk
          refine g M H1 dx q2 (sr.later q2 q1) ⟨fs, hx, fun m => ?_, hk, ?_⟩
          · obtain ⟨o, ho, _⟩ := sr.sh.at m
            have c := sr.sh
            obtain ⟨i, hi, hd⟩ := List.getElem_of_mem m
            have hl : i < h.length := c.len ▸ hi
            have ce := q1.cel i _ _ (List.getElem?_eq_getElem hi) (List.getElem?_eq_getElem hl)
            rw [hd] at ce
            exact Cel.noxd ce hx
          have hp := resL_pure e3
          have q := resL_rep s1.sh s1.sh.mz e3 ⟨hr.1, fun i d v h1 h2 => (hr.2 i d v h1 h2).zone' fun a z => zn_nil z.1⟩
          refine ⟨q.1, fun i d v a1 a2 => hback H1 d v kk ?_ (pureL_get hp a1) (q.2 i d v a1 a2)⟩
          cases hpp : pureL ds with
          | true => rfl
          | false =>
            rw [hpp, Bool.false_or] at hb
            rw [Bool.false_or]
            exact flatL_get hb a1

/-! ### a def -/
def GotF (K : PySem.W.Frag) (C : List (V × D)) (Z : Addr → Prop) (M : List Addr) (H : Hp) (r : R D) (Q : VK) (E : XK) : Prop := match r with
  | .ok d h => ∀ M' H' v, Evo M H M' H' → Sh K C Z M' h H' → Rep K (zn Z M') M' H' d v → Q v H'
  | .exc c ns ds h => ∀ M' H' dx, Evo M H M' H' → Sh K C Z M' h H' → Xr K (zn Z M') M' H' ns ds dx → E (.ref (He.ga K c)) (some dx) H'
  | .bad => False
/-- its promise: n arguments -/
def spI (K : PySem.W.Frag) (C : List (V × D)) (n : Nat) (F : FF) : Sp := fun vs H Q E => ∃ Z M h ds, Sh K C Z M h H ∧ Reps K (zn Z M) M H ds vs ∧ ds.length = n ∧ GotF K C Z M H (F ds h) Q E
/-- the function of a body; n slots -/
def RS.toR (r : RS) : R D := match r with
  | .nx _ h => .ok .non h
  | .rt d h => .ok d h
  | .exc c ns ps _ h => .exc c ns ps h
  | .br _ _ => .bad
  | .ct _ _ => .bad
  | .bad => .bad
def runF (m : MS) (np n : Nat) : FF := fun ds h => bif ds.length == np then (m (ds.map .v ++ List.replicate (n - np) .u) h).toR else .bad
theorem runF_len {m : MS} {np n : Nat} {ds h : List D} (e : runF m np n ds h ≠ .bad) : ds.length = np := by
  unfold runF at e
  cases q : ds.length == np with
  | true => exact eq_of_beq q
  | false => rw [q] at e; exact absurd rfl e
section
variable {C : List (V × D)} {P : Program} {w : World} {K : PySem.W.Frag} {mg : Str → Option Value} {base : Heap} {x qual : Str} {params : Arguments} {body : List Stmt} {scope : Scope} {dvs : List V} {kws : List (Str × V)} {f : Addr} {fd : FuncData}
theorem fn_mk {N ps : List Str} {k : Nat} {m : MS} (F : FunD K x qual params body scope dvs kws f fd) (S : FnScope N ps scope)
    (hb : ∀ (cdv : Value) (A : Around) (outer : List Env) (s : Shared) (H : Hp) (E : XK) (W : WX), RG k (A.deeper (envOfC qual scope s.heap.objs.size f cdv)) → Takes (cxOf (L2.CX P w) P w K mg base N qual scope f cdv A outer s H E) W → SB C (cxOf (L2.CX P w) P w K mg base N qual scope f cdv A outer s H E) W body m) :
    FnG P w K mg base (L2.CX P w) (k + 1) f fd ps (spI K C ps.length (runF m ps.length N.length)) := by
  refine FunD.okG F S (fun vs H Q E h => ?_) (fun cdv A outer s H vs Q E hr h => ?_)
  · obtain ⟨Z, M, h, ds, _, rs, l, _⟩ := h
    rw [← rs.1, l]
  · obtain ⟨Z, M, h, ds, sh, rs, l, g⟩ := h
    refine ⟨_, hb cdv A outer s H E (fun cls d _ H => E cls d H) hr (takes_of rfl rfl rfl rfl), Z, M, ds.map .v ++ List.replicate (N.length - ps.length) .u, h, ⟨sh, fun i d hd => ?_, fun i c ns es hd => ?_, ?_⟩, ?_⟩
    rotate_left 1
    · by_cases hi : i < ds.length
      · rw [List.getElem?_append_left (by simpa using hi), List.getElem?_map] at hd
        cases hx : ds[i]? with
        | none => rw [hx] at hd; cases hd
        | some d' => rw [hx] at hd; cases hd
      · have hi := Nat.le_of_not_lt hi
        rw [List.getElem?_append_right (by simpa using hi), List.getElem?_replicate] at hd
        split at hd <;> cases hd
    rotate_right 1
    · by_cases hi : i < ds.length
      · rw [List.getElem?_append_left (by simpa using hi), List.getElem?_map] at hd
        cases hx : ds[i]? with
        | none => rw [hx] at hd; cases hd
        | some d' =>
          rw [hx] at hd
          cases hd
          obtain ⟨v, h1, h2⟩ := rs.get hx
          refine ⟨v, ?_, h2⟩
          unfold L2.start
          rw [List.getElem?_append_left (by rw [List.length_map, ← rs.1]; exact hi), List.getElem?_map, h1]
          rfl
      · have hi := Nat.le_of_not_lt hi
        rw [List.getElem?_append_right (by simpa using hi), List.getElem?_replicate] at hd
        split at hd
        · cases hd
        · cases hd
    · unfold L2.start
      simp [rs.1.symm, l]
    · unfold runF at g
      rw [l, beq_self_eq_true] at g
      show GotS K C [] Z _ M H (m (ds.map .v ++ List.replicate (N.length - ps.length) .u) h) _
      have g : GotF K C Z M H (m (ds.map .v ++ List.replicate (N.length - ps.length) .u) h).toR Q E := g
      cases e : m (ds.map .v ++ List.replicate (N.length - ps.length) .u) h with
      | nx env' h' => rw [e] at g; exact fun M' σ' H' ev s' => g M' H' .non ev s'.sh .non
      | rt d h' => rw [e] at g; exact fun M' H' v ev s' r => g M' H' v ev s' r
      | exc c ns ps env' h' => rw [e] at g; exact fun M' σ' H' dx ev s' xr => g M' H' dx ev s'.sh xr
      | br env' h' => rw [e] at g; exact False.elim g
      | ct env' h' => rw [e] at g; exact False.elim g
      | bad => rw [e] at g; exact False.elim g
end
/-- calls of a def, dd its defaults -/
theorem cal_fnA {A : Around} {C : List (V × D)} {X : Cx} {W : WX} {k n : Nat} {f : Addr} {fd : FuncData} {ps : List Str} {F : FF} {ds : List Value} {dvs : List V} (tk : Takes X W) (FO : FnG X.prog X.w X.K X.mg X.base (L2.CX X.prog X.w) k f fd ps (spI X.K C n F)) (hr : RG k A) (he0 : ∀ pins σ H s, Inv X pins σ H s → Env0 X.prog X.w X.K X.mg X.base A X.stack s H) (hb : Binds X.K fd ps ds) (hd : Vals dvs ds)
    (dd : List D) (hdd : ∀ Z M H, Reps X.K Z M H dd dvs) (hn : ∀ d h, F d h ≠ .bad → d.length = n) : CalA A C X W (.ref f) (fun es h => F (es ++ dd) h) := by
  intro pins s σ H Q Z M env h es vs us I sr rs r g
  have g : Got X.K C X.pn Z W σ env M H (F (es ++ dd) h) _ := g
  refine run_fnG (E := WE W) FO hr (he0 _ _ _ _ I) hb hd (passAt tk σ) I r ⟨Z, M, h, es ++ dd, sr.sh, rs.append (hdd _ _ _), hn _ h (fun z => ?_), ?_⟩
  · rw [z] at g; exact g
  · cases e : F (es ++ dd) h with
    | ok d h1 => rw [e] at g; exact fun M' H' v ev s' rv => g M' H' ev (sr.later ev s') v rv
    | exc c ns ps h1 => rw [e] at g; exact fun M' H' dx ev s' xr => g M' H' dx ev (sr.later ev s') xr
    | bad => rw [e] at g; exact g
theorem cal_fn {C : List (V × D)} {X : Cx} {W : WX} {k n : Nat} {f : Addr} {fd : FuncData} {ps : List Str} {F : FF} {ds : List Value} {dvs : List V} (tk : Takes X W) (FO : FnG X.prog X.w X.K X.mg X.base (L2.CX X.prog X.w) k f fd ps (spI X.K C n F)) (hr : RG k X.A) (hb : Binds X.K fd ps ds) (hd : Vals dvs ds)
    (dd : List D) (hdd : ∀ Z M H, Reps X.K Z M H dd dvs) (hn : ∀ d h, F d h ≠ .bad → d.length = n) : Cal C X W (.ref f) (fun es h => F (es ++ dd) h) := cal_fnA tk FO hr (fun _ _ _ _ I => I.env0) hb hd dd hdd hn
theorem cal_fn1 {C : List (V × D)} {X : Cx} {W : WX} {k n : Nat} {f : Addr} {fd : FuncData} {ps : List Str} {F : FF} {ds : List Value} {dvs : List V} (tk : Takes X W) (FO : FnG X.prog X.w X.K X.mg X.base (L2.CX X.prog X.w) k f fd ps (spI X.K C n F)) (hr : RG (k + 1) X.A) (hb : Binds X.K fd ps ds) (hd : Vals dvs ds)
    (dd : List D) (hdd : ∀ Z M H, Reps X.K Z M H dd dvs) (hn : ∀ d h, F d h ≠ .bad → d.length = n) : Cal1 C X W (.ref f) (fun es h => F (es ++ dd) h) := cal_fnA tk FO hr.in1 (fun _ _ _ _ I => I.env0.in1) hb hd dd hdd hn
end G

set_option Elab.async false
set_option linter.all false
set_option maxRecDepth 100000
set_option maxHeartbeats 4000000
/-! G4: calls by name, instances, their fields and methods. -/
namespace G
open PySem PySem.Spec PyProof.Rows L2

/-! ### fields -/
def fget : List Str → List D → Str → Option D
  | n :: ns, d :: ds, f => if n = f then some d else fget ns ds f
  | _, _, _ => none
def fput : List Str → List D → Str → D → List Str × List D
  | n :: ns, d :: ds, f, x => if n = f then (n :: ns, x :: ds) else (n :: (fput ns ds f x).1, d :: (fput ns ds f x).2)
  | _, _, f, x => ([f], [x])
section
variable {K : PySem.W.Frag} {Z : Addr → Prop} {M : List Addr} {H : Hp}
theorem fget_some {f : Str} {d : D} : ∀ {fs : List (Str × V)} {ds : List D}, Reps K Z M H ds (fs.map (·.2)) → fget (fs.map (·.1)) ds f = some d → ∃ v, fs.lookup f = some v ∧ Rep K Z M H d v
  | [], ds, r, e => by cases ds <;> cases e
  | (n, v) :: fs, [], r, e => by cases e
  | (n, v) :: fs, d' :: ds, r, e => by
    obtain ⟨v', ws, ev, r1, r2⟩ := r.cases_cons
    cases ev
    have e : (if n = f then some d' else fget (fs.map (·.1)) ds f) = some d := e
    by_cases q : n = f
    · rw [if_pos q] at e; cases e
      exact ⟨v, by rw [← q]; simp, r1⟩
    · rw [if_neg q] at e
      obtain ⟨w, h1, h2⟩ := fget_some r2 e
      refine ⟨w, ?_, h2⟩
      rw [List.lookup_cons]
      rw [show (f == n) = false from beq_eq_false_iff_ne.mpr fun z => q z.symm]
      exact h1
theorem fget_none {f : Str} : ∀ {fs : List (Str × V)} {ds : List D}, Reps K Z M H ds (fs.map (·.2)) → fget (fs.map (·.1)) ds f = none → fs.lookup f = none
  | [], ds, r, e => rfl
  | (n, v) :: fs, [], r, e => by have := r.1; simp at this
  | (n, v) :: fs, d' :: ds, r, e => by
    obtain ⟨v', ws, ev, r1, r2⟩ := r.cases_cons
    cases ev
    have e : (if n = f then some d' else fget (fs.map (·.1)) ds f) = none := e
    by_cases q : n = f
    · rw [if_pos q] at e; cases e
    · rw [if_neg q] at e
      rw [List.lookup_cons]
      rw [show (f == n) = false from beq_eq_false_iff_ne.mpr fun z => q z.symm]
      exact fget_none r2 e
theorem fput_ok {f : Str} {x : D} {y : V} (ry : Rep K Z M H x y) : ∀ {fs : List (Str × V)} {ds : List D}, Reps K Z M H ds (fs.map (·.2)) → (putF f y fs).map (·.1) = (fput (fs.map (·.1)) ds f x).1 ∧ Reps K Z M H (fput (fs.map (·.1)) ds f x).2 ((putF f y fs).map (·.2))
  | [], ds, r => by
    cases ds with
    | nil => exact ⟨rfl, Reps.cons ry Reps.nil⟩
    | cons d ds => have := r.1; simp at this
  | (n, v) :: fs, [], r => by have := r.1; simp at this
  | (n, v) :: fs, d' :: ds, r => by
    obtain ⟨v', ws, ev, r1, r2⟩ := r.cases_cons
    cases ev
    show (List.map (·.1) (if n = f then (n, y) :: fs else (n, v) :: putF f y fs)) = (if n = f then (n :: fs.map (·.1), x :: ds) else (n :: (fput (fs.map (·.1)) ds f x).1, d' :: (fput (fs.map (·.1)) ds f x).2)).1 ∧
      Reps K Z M H (if n = f then (n :: fs.map (·.1), x :: ds) else (n :: (fput (fs.map (·.1)) ds f x).1, d' :: (fput (fs.map (·.1)) ds f x).2)).2 (List.map (·.2) (if n = f then (n, y) :: fs else (n, v) :: putF f y fs))
    by_cases q : n = f
    · rw [if_pos q, if_pos q]
      exact ⟨rfl, Reps.cons ry r2⟩
    · rw [if_neg q, if_neg q]
      obtain ⟨i1, i2⟩ := fput_ok ry r2
      exact ⟨congrArg (n :: ·) i1, Reps.cons r1 i2⟩
end
/-- an instance, by its class and its fields -/
def objOf (h : List D) : D → Option (Str × List Str × List D)
  | .obj c ns ds => some (c, ns, ds)
  | .loc n => match h[n]? with
    | some (.obj c ns ds) => some (c, ns, ds)
    | _ => none
  | _ => none
section
variable {K : PySem.W.Frag} {C : List (V × D)} {Z : Addr → Prop} {M : List Addr} {H : Hp} {h : List D}
theorem objOf_rep (s : Sh K C Z M h H) {d : D} {v : V} {c : Str} {ns : List Str} {ds : List D} (e : objOf h d = some (c, ns, ds)) (r : Rep K (zn Z M) M H d v) :
    ∃ a dx fs, v = .ref a ∧ H a = some (.ins (He.ga K c) dx fs) ∧ fs.map (·.1) = ns ∧ Reps K (zn Z M) M H ds (fs.map (·.2)) := by
  cases r with
  | obj z ha hk l q =>
    cases e
    exact ⟨_, _, _, rfl, ha, hk, by rw [l, List.length_map], q⟩
  | loc hm =>
    rename_i n a
    have e : (match h[n]? with | some (.obj c ns ds) => some (c, ns, ds) | _ => none) = some (c, ns, ds) := e
    cases hn : h[n]? with
    | none => rw [hn] at e; cases e
    | some x =>
      rw [hn] at e
      cases x with
      | obj c' ns' ds' =>
        cases e
        obtain ⟨dx, fs, ha, hk, q⟩ := s.cel n a _ hm hn
        exact ⟨a, dx, fs, rfl, ha, hk, q⟩
      | _ => cases e
  | _ => cases e
end

/-! ### calls -/
def cCall (F : FF) (t : MA) : ME := fun env h => (t env h).bind fun ds h1 => F ds h1
section
variable {C : List (V × D)} {X : Cx} {W : WX} {pos : Pos}
theorem se_call {x : Str} {p : Pos} {u : Value} {e : Expr} {es : List Expr} {F : FF} {t : MA} (c : Cal C X W u F) (hg : Gl X x) (hm : X.mg x = some u) (hk : PySem.W.keepIn X.K u = true) (ha : SA C X W (e :: es) t)
    (hdb : (x == ("__debug__" : Str)) = false := by decide) (he : starEach (e :: es) X.env = (false, eval e X.env) :: starEach es X.env := by rfl) (hpl : (backTo pos (starEach es X.env)).any (·.1) = false := by rfl) :
    SE C X W (.Call (.Name x p) (e :: es) [] pos) (cCall F t) := by
  refine ⟨fun pins s σ H Q I ⟨Z, M, env, h, sr, g⟩ => ?_⟩
  refine wpAny_Call_Name_kw (ld_glob I hg hm ?_ hdb)
  refine PySem.W.callWith_K (h₀ := X.base) I.ok.mod.kin hk (thn (ha.run pos pins s σ H (fun vs H1 => ∃ Z M env h ds, SR X.K C X.pn Z M env h σ H1 ∧ Reps X.K (zn Z M) M H1 ds vs ∧ Got X.K C X.pn Z W σ env M H1 (F ds h) (fun M' H' d => ∀ v, Rep X.K (zn Z M') M' H' d v → Q v H')) I ?_) fun us s1 ⟨vs, H1, I1, r, q⟩ => ⟨I1.kIn, ?_⟩) he hpl
  · exact tA.step sr g fun M1 H1 h1 ds vs e1 s1 r1 g1 => ⟨Z, M1, env, h1, ds, s1, r1, g1⟩
  · obtain ⟨Z, M, env, h, ds, s2, r2, g2⟩ := q
    exact c pins s1 σ H1 Q Z M env h ds vs us I1 s2 r2 r g2
theorem se_call0 {x : Str} {p : Pos} {u : Value} {F : FF} (c : Cal C X W u F) (hg : Gl X x) (hm : X.mg x = some u) (hk : PySem.W.keepIn X.K u = true) (hdb : (x == ("__debug__" : Str)) = false := by decide) :
    SE C X W (.Call (.Name x p) [] [] pos) (cCall F aNil) := by
  refine ⟨fun pins s σ H Q I ⟨Z, M, env, h, sr, g⟩ => ?_⟩
  refine wpAny_Call_Name_kw (ld_glob I hg hm ?_ hdb)
  exact PySem.W.callWith_K0 I.kIn hk (c pins s σ H Q Z M env h [] [] [] I sr Reps.nil .nil g)

/-! ### methods of own classes -/
/-- o.m(..), o an instance of the class c -/
def cMeth (c m : Str) (F : FF) (o : ME) (t : MA) : ME := fun env h => (o env h).bind fun x h1 => match objOf h1 x with
  | some (c', ns, ds) => bif decide (c' = c) && (fget ns ds m).isNone then (t env h1).bind fun es h2 => F (x :: es) h2 else .bad
  | none => .bad
theorem se_meth {o e : Expr} {es : List Expr} {c m : Str} {f : Addr} {F : FF} {mo : ME} {t : MA} {apos : Pos} {pl : Sem Bool} (ho : SE C X W o mo) (cl : Cls X.K (He.ga X.K c)) (hm : Meth X.K (He.ga X.K c) m f) (cal : Cal C X W (.ref f) F) (ha : SA C X W (e :: es) t)
    (hst : starEach (e :: es) X.env = (false, eval e X.env) :: starEach es X.env := by rfl) (hpl : (backTo pos (starEach es X.env)).any (·.1) = false := by rfl)
    (ht : eval (.Call (.Attribute o m apos) (e :: es) [] pos) X.env = (do
      let ov ← eval o X.env
      standAt apos.atName
      let (f, first) ← holding [ov] (getMethod ov m pl)
      callWith pos f first (backTo pos (starEach (e :: es) X.env)) (backToKw pos (keywordEach [] X.env))) := by rfl) :
    SE C X W (.Call (.Attribute o m apos) (e :: es) [] pos) (cMeth c m F mo t) := by
  refine ⟨fun pins s σ H Q I ⟨Z, M, env, h, sr, g⟩ => ?_⟩
  refine PySem.W.methodCall_KW (pl := pl) (thn (ho.run pins s σ H (fun x H1 => ∃ M h1 d a dx fs, SR X.K C X.pn Z M env h1 σ H1 ∧ Rep X.K (zn Z M) M H1 d x ∧ x = .ref a ∧ H1 a = some (.ins (He.ga X.K c) dx fs) ∧ fs.lookup m = none ∧
    Got X.K C X.pn Z W σ env M H1 ((t env h1).bind fun es h2 => F (d :: es) h2) (fun M' H' d => ∀ v, Rep X.K (zn Z M') M' H' d v → Q v H')) I ?_) fun u s1 ⟨x, H1, I1, rx, M1, h1, d, a, dx, fs, sr1, rd, ex, ea, l, q⟩ => ?_) ht
  · refine tE.step sr g fun M1 H1 h1 d v e1 s1 r1 g1 => ?_
    cases eo : objOf h1 d with
    | none => rw [eo] at g1; exact False.elim g1
    | some t3 =>
      obtain ⟨c', ns, ds⟩ := t3
      rw [eo] at g1
      dsimp only at g1
      cases hb : decide (c' = c) && (fget ns ds m).isNone with
      | false => rw [hb] at g1; exact False.elim g1
      | true =>
        rw [hb] at g1
        obtain ⟨b1, b2⟩ := Bool.and_eq_true_iff.mp hb
        obtain rfl := of_decide_eq_true b1
        obtain ⟨a, dx, fs, ev, ha, hk, q⟩ := objOf_rep s1.sh eo r1
        subst hk
        exact ⟨M1, h1, d, a, dx, fs, s1, r1, ev, ha, fget_none q (Option.isNone_iff_eq_none.mp b2), g1⟩
  · subst ex
    obtain rfl : u = Value.ref a := rx
    refine getmeth_ok I1 ea cl hm l ?_
    refine PySem.W.callWith_K (first := [.ref a]) (h₀ := X.base) I.ok.mod.kin hm.kp (thn (ha.run pos pins s1 σ H1 (fun vs H2 => ∃ M h ds, SR X.K C X.pn Z M env h σ H2 ∧ Reps X.K (zn Z M) M H2 ds (.ref a :: vs) ∧ Got X.K C X.pn Z W σ env M H2 (F ds h) (fun M' H' d => ∀ v, Rep X.K (zn Z M') M' H' d v → Q v H')) I1 ?_) fun us s2 ⟨vs, H2, I2, r, M, h, ds, s3, r3, g3⟩ => ⟨I2.kIn, ?_⟩) hst hpl
    · exact tA.step sr1 q fun M2 H2 h2 ds vs e2 s2 r2 g2 => ⟨M2, h2, d :: ds, s2, Reps.cons (rd.mono e2) r2, g2⟩
    · exact cal pins s2 σ H2 Q Z M env h ds (.ref a :: vs) (.ref a :: us) I2 s3 r3 (.cons rfl r) g3
theorem se_meth0 {o : Expr} {c m : Str} {f : Addr} {F : FF} {mo : ME} {apos : Pos} {pl : Sem Bool} (ho : SE C X W o mo) (cl : Cls X.K (He.ga X.K c)) (hm : Meth X.K (He.ga X.K c) m f) (cal : Cal C X W (.ref f) F)
    (ht : eval (.Call (.Attribute o m apos) [] [] pos) X.env = (do
      let ov ← eval o X.env
      standAt apos.atName
      let (f, first) ← holding [ov] (getMethod ov m pl)
      callWith pos f first (backTo pos (starEach [] X.env)) (backToKw pos (keywordEach [] X.env))) := by rfl) :
    SE C X W (.Call (.Attribute o m apos) [] [] pos) (cMeth c m F mo aNil) := by
  refine ⟨fun pins s σ H Q I ⟨Z, M, env, h, sr, g⟩ => ?_⟩
  refine PySem.W.methodCall_KW (pl := pl) (thn (ho.run pins s σ H (fun x H1 => ∃ M h1 d a dx fs, SR X.K C X.pn Z M env h1 σ H1 ∧ Rep X.K (zn Z M) M H1 d x ∧ x = .ref a ∧ H1 a = some (.ins (He.ga X.K c) dx fs) ∧ fs.lookup m = none ∧
    Got X.K C X.pn Z W σ env M H1 (F [d] h1) (fun M' H' d => ∀ v, Rep X.K (zn Z M') M' H' d v → Q v H')) I ?_) fun u s1 ⟨x, H1, I1, rx, M1, h1, d, a, dx, fs, sr1, rd, ex, ea, l, q⟩ => ?_) ht
  · refine tE.step sr g fun M1 H1 h1 d v e1 s1 r1 g1 => ?_
    cases eo : objOf h1 d with
    | none => rw [eo] at g1; exact False.elim g1
    | some t3 =>
      obtain ⟨c', ns, ds⟩ := t3
      rw [eo] at g1
      dsimp only at g1
      cases hb : decide (c' = c) && (fget ns ds m).isNone with
      | false => rw [hb] at g1; exact False.elim g1
      | true =>
        rw [hb] at g1
        obtain ⟨b1, b2⟩ := Bool.and_eq_true_iff.mp hb
        obtain rfl := of_decide_eq_true b1
        obtain ⟨a, dx, fs, ev, ha, hk, q⟩ := objOf_rep s1.sh eo r1
        subst hk
        exact ⟨M1, h1, d, a, dx, fs, s1, r1, ev, ha, fget_none q (Option.isNone_iff_eq_none.mp b2), g1⟩
  · subst ex
    obtain rfl : u = Value.ref a := rx
    refine getmeth_ok I1 ea cl hm l ?_
    exact PySem.W.callWith_K0 (first := [.ref a]) I1.kIn hm.kp (cal pins s1 σ H1 Q Z M1 env h1 [d] [.ref a] [.ref a] I1 sr1 (Reps.cons rd Reps.nil) (.cons rfl .nil) q)

/-! ### fields -/
def cFld (c f : Str) (o : ME) : ME := fun env h => (o env h).bind fun x h1 => match objOf h1 x with
  | some (c', ns, ds) => bif decide (c' = c) then (match fget ns ds f with
    | some d => .ok d h1
    | none => .bad) else .bad
  | none => .bad
theorem se_fld {o : Expr} {c f : Str} {mo : ME} (ho : SE C X W o mo) (cl : Cls X.K (He.ga X.K c)) (hn : NoAttr X.K (He.ga X.K c) f) (hb : attributeBase o f X.env (eval o X.env) = eval o X.env := by rfl) : SE C X W (.Attribute o f pos) (cFld c f mo) := by
  refine PE.weak (pe_fld ho hb) fun σ H Q ⟨Z, M, env, h, s, g⟩ => ?_
  refine tE.step s g fun M1 H1 h1 d v e1 s1 r1 g1 => ?_
  cases eo : objOf h1 d with
  | none => rw [eo] at g1; exact False.elim g1
  | some t3 =>
    obtain ⟨c', ns, ds⟩ := t3
    rw [eo] at g1
    dsimp only at g1
    cases hb : decide (c' = c) with
    | false => rw [hb] at g1; exact False.elim g1
    | true =>
      rw [hb] at g1
      obtain rfl := of_decide_eq_true hb
      obtain ⟨a, dx, fs, ev, ha, hk, q⟩ := objOf_rep s1.sh eo r1
      subst hk
      cases ef : fget (fs.map (·.1)) ds f with
      | none => rw [ef] at g1; exact False.elim g1
      | some d' =>
        rw [ef] at g1
        obtain ⟨w, h1', h2'⟩ := fget_some q ef
        exact ⟨a, _, dx, fs, w, ev, ha, cl, hn, h1', Got.now g1 s1 w h2'⟩
/-- o.f = e, o a mutable instance -/
def sFldS (c f : Str) (o e : ME) : MS := fun env h => (e env h).thenS env fun y h1 => (o env h1).thenS env fun x h2 => match x with
  | .loc n => (match h2[n]? with
    | some (.obj c' ns ds) => bif decide (c' = c) && decide (ns.length < 1000) then .nx env (h2.set n (.obj c' (fput ns ds f y).1 (fput ns ds f y).2)) else .bad
    | _ => .bad)
  | _ => .bad
theorem ss_fld {o e : Expr} {c f : Str} {mo me : ME} {pos' : Pos} (ho : SE C X W o mo) (he : SE C X W e me) (cl : Cls X.K (He.ga X.K c)) (hn : NoAttr X.K (He.ga X.K c) f) (hs : swapsWith e (some (.Attribute o f pos')) pos.line X.env = pure false := by rfl) :
    SS C X W (.Assign [.Attribute o f pos'] e pos) (sFldS c f mo me) := by
  refine PS.weak (ps_fld ho he hs) fun D' σ H ⟨Z, M, env, h, s, g⟩ => ?_
  refine tE.stepS s g fun M1 H1 h1 y v e1 s1 r1 g1 => ?_
  refine tE.stepS s1 g1 fun M2 H2 h2 x u e2 s2 r2 g2 => ?_
  cases r2 with
  | loc hm =>
    rename_i n a
    dsimp only at g2
    cases hx : h2[n]? with
    | none => rw [hx] at g2; exact False.elim g2
    | some w =>
      rw [hx] at g2
      cases w with
      | obj c' ns ds =>
        dsimp only at g2
        cases hb : decide (c' = c) && decide (ns.length < 1000) with
        | false => rw [hb] at g2; exact False.elim g2
        | true =>
          rw [hb] at g2
          obtain ⟨b1, b2⟩ := Bool.and_eq_true_iff.mp hb
          obtain rfl := of_decide_eq_true b1
          have b2 := of_decide_eq_true b2
          obtain ⟨dx, fs, ha, hk, q⟩ := s2.sh.cel n a _ hm hx
          subst hk
          have ev := s2.sh.evw (o := .ins (He.ga X.K c') dx (putF f v fs)) hm (fun u w z => by rw [ha] at z; cases z)
          obtain ⟨k1, k2⟩ := fput_ok (f := f) ((r1.mono e2).mono ev) (q.mono ev)
          refine ⟨a, _, dx, fs, rfl, ha, cl, hn, by simpa using b2, g2 M2 σ _ ev (s2.later ev (s2.sh.write hm (fun u w z => by rw [ha] at z; cases z) ⟨dx, _, upd_same, k1, k2⟩))⟩
      | _ => exact False.elim g2
  | _ => exact False.elim g2

/-! ### a new instance -/
def mkF (c : Str) (Fi : FF) : FF := fun ds h => (Fi (.loc h.length :: ds) (h ++ [.obj c [] []])).bind fun d h1 => match d with
  | .non => .ok (.loc h.length) h1
  | _ => .bad
theorem cal_make {k n : Nat} {c : Str} {f : Addr} {fd : FuncData} {ps : List Str} {F : FF} {ds : List Value} {dvs : List V} (tk : Takes X W) (MK : Mk X.K (He.ga X.K c) f) (FO : FnG X.prog X.w X.K X.mg X.base (L2.CX X.prog X.w) k f fd ps (spI X.K C n F)) (hr : RG (k + 1) X.A) (hb : Binds X.K fd ps ds) (hd : Vals dvs ds)
    (dd : List D) (hdd : ∀ Z M H, Reps X.K Z M H dd dvs) (hn : ∀ d h, F d h ≠ .bad → d.length = n) : Cal C X W (.ref (He.ga X.K c)) (mkF c fun es h => F (es ++ dd) h) := by
  intro pins s σ H Q Z M env h es vs us I sr rs r g
  have hx : H (s.heap.objs.size + 1) = none := I.hok.fresh (Nat.le_succ _)
  have hdx : H s.heap.objs.size = none := I.hok.fresh (Nat.le_refl _)
  have hne : s.heap.objs.size ≠ s.heap.objs.size + 1 := Nat.ne_of_lt (Nat.lt_succ_self _)
  have I2 := Inv.made (C := He.ga X.K c) I
  have r2 : Vals (V.ref (s.heap.objs.size + 1) :: (vs ++ dvs)) (Value.ref (s.heap.objs.size + 1) :: (us ++ ds)) := .cons rfl (r.append hd)
  -- the state with the new instance
  have hx1 : upd H s.heap.objs.size (.own (s.heap.objs.size + 1)) (s.heap.objs.size + 1) = none := by rw [upd_ne hne.symm]; exact hx
  have ev1 : Evo M H M (upd H s.heap.objs.size (.own (s.heap.objs.size + 1))) := Evo.laid hdx
  have sh1 := sr.sh.laid (o := .own (s.heap.objs.size + 1)) hdx
  have ev2 := Evo.newloc (M := M) (o := .ins (He.ga X.K c) s.heap.objs.size []) hx1
  have sh2 := sh1.newloc (o := .ins (He.ga X.K c) s.heap.objs.size []) (d := .obj c [] []) hx1 ⟨s.heap.objs.size, [], upd_same, rfl, Reps.nil⟩
  have ev := ev1.trans ev2
  have g : Got X.K C X.pn Z W σ env M H ((F (.loc h.length :: es ++ dd) (h ++ [.obj c [] []])).bind fun d h1 => match d with
    | .non => .ok (.loc h.length) h1
    | _ => .bad) (fun M' H' d => ∀ v, Rep X.K (zn Z M') M' H' d v → Q v H') := g
  have rl : Reps X.K (zn Z (M ++ [s.heap.objs.size + 1])) (M ++ [s.heap.objs.size + 1]) _ (.loc h.length :: es ++ dd) (V.ref (s.heap.objs.size + 1) :: (vs ++ dvs)) :=
    Reps.cons (newLoc sh1) ((rs.mono ev).append (hdd _ _ _))
  have hq : spI X.K C n F (V.ref (s.heap.objs.size + 1) :: (vs ++ dvs)) (upd (upd H s.heap.objs.size (.own (s.heap.objs.size + 1))) (s.heap.objs.size + 1) (.ins (He.ga X.K c) s.heap.objs.size [])) (fun v H2 => v = .non ∧ Q (.ref (s.heap.objs.size + 1)) H2) (WE W σ) := by
    refine ⟨Z, _, _, _, sh2, rl, hn _ (h ++ [.obj c [] []]) (fun z => ?_), ?_⟩
    · rw [z] at g; exact g
    · cases e : F (.loc h.length :: es ++ dd) (h ++ [.obj c [] []]) with
      | bad => rw [e] at g; exact g
      | exc c' ns ps h1 =>
        rw [e] at g
        intro M' H' dx ev' s' xr
        exact g M' H' dx (ev.trans ev') (sr.later (ev.trans ev') s') xr
      | ok d h1 =>
        rw [e] at g
        intro M' H' v ev' s' rv
        cases d with
        | non =>
          cases rv
          refine ⟨rfl, g M' H' (ev.trans ev') (sr.later (ev.trans ev') s') _ ?_⟩
          cases newLoc (Z' := Z) (H' := H) sh1 (p := s.heap.objs.size + 1) with
          | loc hm => exact .loc (ev'.get hm)
        | _ => exact False.elim g
  have hl : (Value.ref (s.heap.objs.size + 1) :: us ++ ds).length = ps.length := by
    have e := r2.length
    rw [FO.len _ _ _ _ hq] at e
    exact e.symm
  refine wpAny_call (make_map (f := f) I.kIn MK.makes MK.init (beq_iff_eq.mp MK.fn) (codeAny_mono (FO.run _ X.stack _ _ ⟨Value.ref (s.heap.objs.size + 1) :: us, []⟩ (Value.ref (s.heap.objs.size + 1) :: (us ++ ds)) _ _ (WE W σ) (hr.make (He.ga X.K c) us [])
    (I2.env0.make (He.ga X.K c) us []) (hb _ (Value.ref (s.heap.objs.size + 1) :: us) I2.kIn hl) r2 hq) fun r s' hq' => ?_))
  cases r with
  | error e => exact passAt tk σ pins _ _ e s' I2 hq'
  | ok fl =>
    cases fl with
    | ret u =>
      obtain ⟨v, H', I3, rv, ev, q3⟩ := I2.after hq'
      subst ev
      exact ⟨rv, ⟨V.ref (s.heap.objs.size + 1), H', I3, rfl, q3⟩⟩
    | next => exact False.elim hq'
    | brk => exact False.elim hq'
    | cont => exact False.elim hq'
end
end G

set_option Elab.async false
set_option linter.all false
set_option maxRecDepth 100000
set_option maxHeartbeats 4000000
/-! G5: the module's constants, own exceptions: made, raised, caught, read. -/
namespace G
open PySem PySem.Spec PyProof.Rows L2

section
variable {C : List (V × D)} {X : Cx} {W : WX} {pos : Pos}
/-- a constant of the module -/
theorem se_glob {x : Str} {v : V} {u : Value} {d : D} (hg : Gl X x) (hm : X.mg x = some u) (r : RelV v u) (hc : (v, d) ∈ C) (hd : (x == ("__debug__" : Str)) = false := by decide) : SE C X W (.Name x pos) (cC d) :=
  PE.weak (pe_glob hg hm r hd) fun σ H Q ⟨Z, M, env, h, s, g⟩ => Got.now g s v (s.sh.cst _ hc).2
/-- .. an int, a text -/
theorem se_globI {x : Str} {i : Int} {u : Value} (hg : Gl X x) (hm : X.mg x = some u) (r : RelV (.int i) u) (hd : (x == ("__debug__" : Str)) = false := by decide) : SE C X W (.Name x pos) (cC (.int i)) := se_const (pe_glob hg hm r hd) fun _ _ _ => .int i
theorem se_globS {x z : Str} {u : Value} (hg : Gl X x) (hm : X.mg x = some u) (r : RelV (.str z) u) (hd : (x == ("__debug__" : Str)) = false := by decide) : SE C X W (.Name x pos) (cC (.str z)) := se_const (pe_glob hg hm r hd) fun _ _ _ => .str z
end

/-! ### the __init__ of an own exception: Base.__init__(self, 'text'); self.f = y -/
def tBaI (K : PySem.W.Frag) (ta : TA) : TE := fun σ H Q => ta σ H fun vs H1 => ∃ (a C : Addr) (ws : List V), vs = .ref a :: ws ∧ ws.length ≤ 1000 ∧ OexC K C ∧ H1 a = some (exo a C none) ∧ Q .non H1
theorem pe_baseinit {X : Cx} {B : Str} {CB : Addr} {mc : Value} {e : Expr} {es : List Expr} {ta : TA} {p1 p2 pos : Pos} {pl : Sem Bool} (hg : Gl X B) (hm : X.mg B = some (.ref CB)) (r : ClX.CRead X.K CB mc) (vV : PySem.W.findCls X.K (.ref CB) mc "__init__" = some (.val (.builtin "ValueError.__init__"))) (ha : PA X (e :: es) ta)
    (hdb : (B == ("__debug__" : Str)) = false := by decide)
    (hc : eval (.Call (.Attribute (.Name B p1) "__init__" p2) (e :: es) [] pos) X.env = (do
      let ov ← eval (.Name B p1) X.env
      standAt p2.atName
      let (f, first) ← holding [ov] (getMethod ov "__init__" pl)
      callWith pos f first (backTo pos (starEach (e :: es) X.env)) (backToKw pos (keywordEach [] X.env))) := by rfl)
    (he : starEach (e :: es) X.env = (false, eval e X.env) :: starEach es X.env := by rfl) (hpl : (backTo pos (starEach es X.env)).any (·.1) = false := by rfl) :
    PE X (.Call (.Attribute (.Name B p1) "__init__" p2) (e :: es) [] pos) (tBaI X.K ta) := by
  refine ⟨fun pins s σ H Q I h => ?_⟩
  refine PySem.W.methodCall_KW (ld_glob I hg hm ?_ hdb) hc
  refine PySem.W.method_cls I.kIn r.ga (PySem.W.cls_value I.kIn r.rd vV (by decide +kernel) ?_)
  show wpAny _ _ (callWith pos (Value.builtin "ValueError.__init__") [] (backTo pos (starEach (e :: es) X.env)) []) _ _ _
  refine PyProof.Rows.callWith_method1 (thn (ha.run pos pins _ σ H _ (I.tok _) h) fun us s1 ⟨vs, H1, I1, r1, a, C, ws, ev, hl, T, ea, q⟩ => ?_) he hpl
  subst ev
  cases r1 with
  | @cons _ u0 _ ur ra rw' =>
    obtain rfl : u0 = Value.ref a := ra
    have hlen : ur.length ≤ sizeLine := by
      rw [← Paired.length rw', sizeLine_eq]
      omega
    exact oinit_ok T I1 ea hlen fun s' J => ⟨.non, H1, J, rfl, q⟩
/-- its promise -/
def spX (K : PySem.W.Frag) (fld : Str) : Sp := fun vs H Q _ => ∃ (a C : Addr) (y : V), vs = [.ref a, y] ∧ OexC K C ∧ PySem.W.findIn K (.ref C) fld = some none ∧ H a = some (exo a C none) ∧
  ∀ dx, H dx = none → dx ≠ a → Q .non (upd (upd H dx (exd dx [(fld, y)])) a (exo a C (some dx)))
theorem fn_excInit {P : Program} {w : World} {K : PySem.W.Frag} {mg : Str → Option Value} {base : Heap} {CX : CXT} {k : Nat} {f : Addr} {fd : FuncData} {x qual fld t : Str} {params : Arguments} {body : List Stmt} {scope : Scope} {dvs : List V} {kws : List (Str × V)}
    (F : FunD K x qual params body scope dvs kws f fd) (S : FnScope ["self", fld] ["self", fld] scope)
    (hb : ∀ (cdv : Value) (A : Around) (outer : List Env) (s : Shared) (H : Hp) (E : XK), PSs (cxOf CX P w K mg base ["self", fld] qual scope f cdv A outer s H E) body (tSeq (tDrop (tBaI K (tCons (tVar 0) (tCons (tC (.str t)) tNil)))) (tOst K fld (tVar 0) (tVar 1)))) :
    FnOk P w K mg base CX (k + 1) f fd ["self", fld] (spX K fld) := by
  refine F.ok S (fun vs H Q E h => ?_) (fun cdv A outer s H vs Q E hr h => ⟨_, hb cdv A outer s H E, ?_⟩)
  · obtain ⟨a, C, y, rfl, _⟩ := h
    rfl
  · obtain ⟨a, C, y, rfl, T, hno, ea, q⟩ := h
    refine ⟨_, rfl, a, C, _, rfl, by show 1 ≤ 1000; decide, T, ea, _, rfl, _, rfl, a, C, rfl, T, hno, .inl ⟨ea, fun dx n ne => ?_⟩⟩
    exact q dx n ne

/-! ### raise C(e) -/
def sRaise (c fld : Str) (m : ME) : MS := fun env h => (m env h).thenS env fun d h1 => .exc c [fld] [d] env h1
theorem ss_raise {C : List (V × D)} {X : Cx} {W : WX} {c fld : Str} {fI : Addr} {k : Nat} {fd : FuncData} {ps : List Str} {e : Expr} {m : ME} {p pos pos' : Pos} (hc : X.calm = true) (tk : Takes X W) (T : OexC X.K (He.ga X.K c)) (hno : PySem.W.findIn X.K (.ref (He.ga X.K c)) fld = some none)
    (iC : PySem.W.findIn X.K (.ref (He.ga X.K c)) "__init__" = some (some (.ref fI))) (tI : PySem.W.typeIn X.K (.ref fI) = some (.type "function"))
    (F1 : FnOk X.prog X.w X.K X.mg X.base (L2.CX X.prog X.w) k fI fd ps (spX X.K fld)) (hr : Room (k + 1) X.A) (hb : Binds X.K fd ps []) (hg : Gl X c) (hm : X.mg c = some (.ref (He.ga X.K c))) (he : SE C X W e m)
    (hdb : (c == ("__debug__" : Str)) = false := by decide) (hs : starEach [e] X.env = (false, eval e X.env) :: starEach [] X.env := by rfl) (hpl : (backTo pos (starEach [] X.env)).any (·.1) = false := by rfl) :
    SS C X W (.Raise (some (.Call (.Name c p) [e] [] pos)) none pos') (sRaise c fld m) := by
  have hx : Passes (L2.CX X.prog X.w) X (fun _ _ _ => False) := fun pins σ H s e s' I q => by
    obtain ⟨a, B, H', cls, d, _, _, _, _, _, _, _, z⟩ := q
    exact z.elim
  refine PS.weak (ps_raise hc tk (pmk_oex T iC tI F1 hr hb .nil hx hg hm (pa_cons he pa_nil hs) hdb hs hpl)) fun D' σ H ⟨Z, M, env, h, s, g⟩ => ?_
  refine tE.stepS s g fun M1 H1 h1 d v e1 s1 r1 g1 => ?_
  refine ⟨by show 1 ≤ 1000; decide, fun a na => ?_⟩
  refine ⟨a, _, v, rfl, T, hno, upd_same, fun dx ndx ne => ?_⟩
  rw [upd_ne ne] at ndx
  refine ⟨rfl, dx, [(fld, v)], upd_same, ?_, ndx, ?_⟩
  · rw [upd_ne ne, upd_same]
  · have eH : upd (del (upd (upd (upd H1 a (exo a (He.ga X.K c) none)) dx (exd dx [(fld, v)])) a (exo a (He.ga X.K c) (some dx))) a) dx (.xd [(fld, v)]) = upd H1 dx (.xd [(fld, v)]) := by
      funext b
      by_cases hb : b = dx
      · subst hb; rw [upd_same, upd_same]
      · rw [upd_ne hb, upd_ne hb]
        by_cases ha : b = a
        · subst ha; rw [del_same]; exact na.symm
        · rw [del_ne ha, upd_ne ha, upd_ne hb, upd_ne ha]
    rw [eH]
    have ev : Evo M1 H1 M1 (upd H1 dx (.xd [(fld, v)])) := Evo.laid ndx
    exact g1 M1 σ _ dx ev (s1.later ev (s1.sh.laid ndx)) ⟨_, upd_same, s1.sh.out ndx, rfl, Reps.cons (r1.mono ev) Reps.nil⟩

/-! ### err.f of a caught exception -/
def cExc (i : Nat) (f : Str) : ME := fun env h => match env[i]? with
  | some (.x _ ns ds) => (match fget ns ds f with
    | some d => .ok d h
    | none => .bad)
  | _ => .bad
def cExcI (i : Nat) (f : Str) (xs : List Str) : ME := fun env h => match env[i]? with
  | some (.x c ns ds) => bif xs.contains c then cExc i f env h else .bad
  | _ => .bad
theorem se_exc {C : List (V × D)} {X : Cx} {W : WX} {i : Nat} {x f : Str} {p pos : Pos} (hN : X.N[i]? = some x) (hv : Vis X.env.scope x) (xs : List Str) (T : ∀ c ∈ xs, XfC X.K (He.ga X.K c) ∧ PySem.W.findIn X.K (.ref (He.ga X.K c)) f = some none)
    (hd : (x == ("__debug__" : Str)) = false := by decide) (hcd : (x == ("__classdict__" : Str)) = false := by decide) (hb : attributeBase (.Name x p) f X.env (eval (.Name x p) X.env) = eval (.Name x p) X.env := by rfl) :
    SE C X W (.Attribute (.Name x p) f pos) (cExcI i f xs) := by
  refine ⟨fun pins s σ H Q I ⟨Z, M, env, h, sr, g⟩ => ?_⟩
  unfold cExcI at g
  cases e : env[i]? with
  | none => rw [e] at g; exact False.elim g
  | some sl =>
    rw [e] at g
    cases sl with
    | u => exact False.elim g
    | v d => exact False.elim g
    | x c ns ds =>
      dsimp only at g
      cases hx : xs.contains c with
      | false => rw [hx] at g; exact False.elim g
      | true =>
        rw [hx] at g
        obtain ⟨Tx, hno⟩ := T c (List.contains_iff_mem.mp hx)
        unfold cExc at g
        rw [e] at g
        dsimp only [cond_true] at g
        cases ef : fget ns ds f with
        | none => rw [ef] at g; exact False.elim g
        | some d =>
          rw [ef] at g
          obtain ⟨a, dx, hσ, ⟨oe, hpn, hz, vs, hdat⟩, fs, hdx, hm, hk, hr⟩ := sr.exc i c ns ds e
          subst hk
          obtain ⟨v, hl, rv⟩ := fget_some hr ef
          refine attr_of hb (thn ((pe_var hN hv hd hcd).run pins s σ H (fun x H1 => x = .ref a ∧ H1 = H) I ⟨_, hσ, rfl, rfl⟩) fun u s1 ⟨x', H1, I1, rx, ex, eH⟩ => ?_)
          subst ex
          subst eH
          obtain rfl : u = Value.ref a := rx
          obtain ⟨ha, _⟩ := I1.pin (a, oe) (List.mem_append_left _ hpn)
          have hxx : ObjOk X.prog X.w H1 s1.heap dx (.xd fs) := I1.hok dx _ hdx
          obtain ⟨mA, hns, hrr⟩ := hxx
          obtain ⟨od, ho, hlk⟩ := lookIn_ns hns
          have hro := hrr f
          rw [hl] at hro
          obtain ⟨uv, euv, ruv⟩ := RelO.some_of hro
          have Iat : PySem.W.InstAt s1.heap a oe (He.ga X.K c) (some od) := by
            exact ⟨ha, hz.1, by unfold PySem.W.notCls; rw [hdat] <;> rfl, by rw [hz.2]; exact ho⟩
          exact PySem.HandSPX.exc_get I1.kIn Iat Tx.ga Tx.gg Tx.exC (PySem.W.findObj_own Tx.hdC hno rfl (by rw [hlk, euv])) (handed_of ruv) ⟨v, H1, I1.tok _, ruv, Got.now g sr v rv⟩
end G

set_option Elab.async false
set_option linter.all false
set_option maxRecDepth 100000
set_option maxHeartbeats 4000000
/-! G6: try, with several clauses, with and without a name. -/
namespace G
open PySem PySem.Spec PyProof.Rows L2

/-! ### several clauses, each with or without a name -/
abbrev TsX := Addr → Value → Option Addr → TS
def wManyG (K : PySem.W.Frag) (Wout : WX) (D : Ends) : List (Value × Option Nat × TsX) → WX
  | [] => Wout
  | (c, none, ts) :: r => fun cls d σ H => ∃ b, PySem.W.exmOne K cls c = some b ∧ (b = true → ∀ a, H a = none → ts a cls d D σ H) ∧ (b = false → wManyG K Wout D r cls d σ H)
  | (c, some i, ts) :: r => fun cls d σ H => ∃ b, PySem.W.exmOne K cls c = some b ∧
      (b = true → ∀ a, H a = none → ts a cls d { nx := fun σ' H' => D.nx (σ'.set i none) H', rt := D.rt, bk := fun σ' H' => D.bk (σ'.set i none) H', ct := fun σ' H' => D.ct (σ'.set i none) H' } (σ.set i (some (.ref a))) H) ∧ (b = false → wManyG K Wout D r cls d σ H)
inductive HdsG (X : Cx) : List ExceptHandler → List (Value × Option Nat × TsX) → Prop
  | nil : HdsG X [] []
  | cons {x : Str} {c : Value} {ts : TsX} {b₀ : Stmt} {suite : List Stmt} {np pos' : Pos} {hds : List ExceptHandler} {l : List (Value × Option Nat × TsX)} (hc : Names X x c)
      (hsu : ∀ (a : Addr) (oe : Obj) (cls : Value) (d : Option Addr) (pn : List (Addr × Obj)), Zc cls d oe → (∃ vs, oe.data = .fields vs) → PSs (X.suite a ((a, oe) :: pn)) (b₀ :: suite) (ts a cls d)) (r : HdsG X hds l) :
      HdsG X (.ExceptHandler (some (.Name x np)) none (b₀ :: suite) pos' :: hds) ((c, none, ts) :: l)
  | consN {x n : Str} {i : Nat} {c : Value} {ts : TsX} {b₀ : Stmt} {suite : List Stmt} {np pos' : Pos} {hds : List ExceptHandler} {l : List (Value × Option Nat × TsX)} (hN : X.N.Nodup) (hi : X.N[i]? = some n) (hln : X.env.kindOf n = some .local) (hc : Names X x c)
      (hsu : ∀ (a : Addr) (oe : Obj) (cls : Value) (d : Option Addr) (pn : List (Addr × Obj)), Zc cls d oe → (∃ vs, oe.data = .fields vs) → PSs (X.suite a ((a, oe) :: pn)) (b₀ :: suite) (ts a cls d)) (r : HdsG X hds l) :
      HdsG X (.ExceptHandler (some (.Name x np)) (some n) (b₀ :: suite) pos' :: hds) ((c, some i, ts) :: l)
section
variable {X : Cx} {body : List Stmt} {h₀ : ExceptHandler} {hds : List ExceptHandler} {l : List (Value × Option Nat × TsX)} {pos : Pos} {tb : WX → TS} {Wout : WX}
theorem ps_tryG (hs : X.stack = X.env :: X.outer) (hf : X.env.frame = some X.env.locals) (tk : Takes X Wout)
    (hb : ∀ (W : WX) (pn : List (Addr × Obj)) (xe : Value → Shared → Prop), Takes (X.tr (X.pn ++ pn) xe) W → PassesOwn (model X.prog X.w) X.A X.env xe → PSs (X.tr (X.pn ++ pn) xe) body (tb W))
    (hh : HdsG X (h₀ :: hds) l) : PS X (.Try body (h₀ :: hds) [] [] pos) (fun D σ H => tb (wManyG X.K Wout D l) D σ H) := by
  refine ⟨fun pins s σ H D I h => ?_⟩
  have ok := I.ok
  have hfr : X.A.frames = some (X.env :: X.outer) := by rw [ok.frames, hs]
  refine wpAny_Try_except ?_
  refine wpAny_mono ((hb (wManyG X.K Wout D l) pins (fun e s₁ => wpAny (model X.prog X.w) X.A (noteFrame e X.env) (fun _ s₂ => wpAny (model X.prog X.w) X.A (setFlight e none) (fun _ s₃ =>
    wpAny (model X.prog X.w) X.A (handleBy e X.env (h₀ :: hds)) (SP X pins D) X.xe s₃) X.xe s₂) X.xe s₁) (fun u s' xx => ?_) PassesOwn.looking).run [] s σ H D (I.toTry _) h) (fun f s1 hsp => ?_) (fun e s1 he => he)
  · obtain ⟨a, B, sI, pins', σ', H', cls, d, rfl, J', nb, up, sky, na, os, ag, w⟩ := xx
    have J : Inv X pins σ' H' sI := J'.ofTry ok
    have sky' : Sky B (X.env :: X.outer) a (Zc cls d) X.env.locals s'.heap := by rw [← hs]; exact sky
    show wpAny (model X.prog X.w) X.A (noteFrame (.ref a) X.env) _ _ _
    refine Sky.land Zc.steady hfr hf sky' fun h3 fl3 up3 => ?_
    have J3 : Inv X pins σ' H' { s' with heap := h3 } := J.landed nb fl3.1 (up.trans up3) os ag
    obtain ⟨oe3, vs3, he3, hz3, hd3⟩ := fl3.there
    have notFr : ∀ {h : Heap} {o : Obj} {vs : Array Value}, h.FunFrames B (X.env :: X.outer) → h.get? a = some o → o.data = .fields vs → a ∉ frs (X.env :: X.outer) := fun {h o vs} ff e dd hm => by
      obtain ⟨_, o', e', hnf⟩ := ff.mem hm
      rw [e] at e'; cases e'
      exact hnf _ dd
    have nfr := notFr fl3.2.2.1 he3 hd3
    have nL : a ≠ X.env.locals := fun z => nfr (List.mem_filterMap.mpr ⟨X.env, List.mem_cons_self, by rw [hf, z]⟩)
    have nF : a ∉ X.fs := fun hm => by
      obtain ⟨e, he, q⟩ := List.mem_filterMap.mp hm
      exact nfr (List.mem_filterMap.mpr ⟨e, List.mem_cons_of_mem _ he, q⟩)
    have S3 := J3.suite he3 hd3 na nL nF
    have LT : PySem.W.Looks (model X.prog X.w) h3 (typeOf (.ref a)) cls := fun A Q E s k q => wpAny_typeOf_ref (k _ _ he3) (by rw [hz3.1]; exact q)
    have testOf : ∀ {x : Str} {c : Value} {np : Pos}, Names X x c → ∀ {Q : Value → Shared → Prop} {E : Value → Shared → Prop}, Q c { s' with heap := h3 } → wpAny (model X.prog X.w) (X.A.mark (some (.ref a))) (eval (.Name x np) X.env) Q E { s' with heap := h3 } := fun {x c np} hc {Q E} q => by
      obtain ⟨hg, hdbg, hm | ⟨hm, hv, hnn⟩⟩ := hc
      · exact ld_glob (X := X.suite a ((a, oe3) :: (X.pn ++ pins))) S3 hg hm q hdbg
      · exact ld_blt (X := X.suite a ((a, oe3) :: (X.pn ++ pins))) S3 hg hm hv q hnn hdbg
    have go : ∀ {hds' : List ExceptHandler} {l' : List (Value × Option Nat × TsX)}, HdsG X hds' l' → wManyG X.K Wout D l' cls d σ' H' →
        wpAny (model X.prog X.w) X.A (handleBy (.ref a) X.env hds') (SP X pins D) X.xe { s' with heap := h3 } := by
      intro hds' l' hk
      induction hk with
      | nil =>
        intro w
        refine wpAny_handleBy_nil ?_
        obtain ⟨k1, k2, k3, oe, vs, T, oT, ts', he, hz, hd, h1, hr⟩ := id fl3
        unfold PySem.passOn
        refine wpAny_bind (wpAny_field he hd h1 ?_)
        rw [if_neg (show ¬ ((Value.ref T == Value.none) = true) from by simp)]
        have fin : wpAny (model X.prog X.w) X.A (setFlight (.ref a) X.env.frame) (fun _ s4 => wpAny (model X.prog X.w) X.A (throw (.ref a) : Sem Flow) (SP X pins D) X.xe s4) X.xe { s' with heap := h3 } := by
          rw [hf]
          refine HandSPX.setFlight_upZ fl3 fun h4 hh4 up4 => wpAny_throw (tk _ _ ?_)
          exact ⟨a, B, sI, pins, σ', H', cls, d, rfl, J, nb, (up.trans up3).trans up4, .inr (.inr (by rw [hs]; exact hh4)), na, os, ag, w⟩
        first
          | exact wpAny_bind (wpAny_pure (wpAny_bind fin))
          | exact wpAny_bind fin
      | @cons x c ts b₀ suite np pos' hds2 l2 hc hsu r ih =>
        intro w
        obtain ⟨b, hb1, hyes, hno⟩ := w
        refine wpAny_handleBy_cons (codeAny_handlers_test ?_) (by intro q; cases q)
        have LM := PySem.W.exm_one (M := model X.prog X.w) (J3.kIn) LT hb1
        refine testOf hc (LM.here ?_)
        cases b with
        | true =>
          refine codeAny_handlers_suite ?_
          refine HandSPX.lands_againZ fl3 fun h4 fl4 up4 => ?_
          have J4 : Inv X pins σ' H' { s' with heap := h4 } := J.landed nb fl4.1 ((up.trans up3).trans up4) os ag
          obtain ⟨oe4, vs4, he4, hz4, hd4⟩ := fl4.there
          have S4 := J4.suite he4 hd4 na nL nF
          refine wpAny_mono ((hsu a oe4 cls d (X.pn ++ pins) hz4 ⟨_, hd4⟩).run [] _ _ H' _ S4 (hyes rfl a na)) (fun f s6 hsp => ?_) (fun _ _ z => False.elim z)
          cases f with
          | next =>
            obtain ⟨σ6, H6, S6, q6⟩ := hsp
            exact ⟨_, _, S6.unsuite ok, q6⟩
          | brk =>
            obtain ⟨σ6, H6, S6, q6⟩ := hsp
            exact ⟨_, _, S6.unsuite ok, q6⟩
          | cont =>
            obtain ⟨σ6, H6, S6, q6⟩ := hsp
            exact ⟨_, _, S6.unsuite ok, q6⟩
          | ret u =>
            obtain ⟨v6, σ6, H6, S6, r6, q6⟩ := hsp
            exact ⟨_, _, _, S6.unsuite ok, r6, q6⟩
        | false =>
          show wpAny _ X.A (handleBy (.ref a) X.env hds2) _ _ _
          exact ih (hno rfl)
      | @consN x n i c ts b₀ suite np pos' hds2 l2 hN hi hln hc hsu r ih =>
        intro w
        have hloc : Loc X.env.scope n := .inl hln
        obtain ⟨b, hb1, hyes, hno⟩ := w
        refine wpAny_handleBy_cons (codeAny_handlers_test ?_) (by intro q; cases q)
        have LM := PySem.W.exm_one (M := model X.prog X.w) (J3.kIn) LT hb1
        refine testOf hc (LM.here ?_)
        cases b with
        | true =>
          refine codeAny_handlers_suite_as ?_
          refine HandSPX.lands_againZ fl3 fun h4 fl4 up4 => ?_
          have J4 : Inv X pins σ' H' { s' with heap := h4 } := J.landed nb fl4.1 ((up.trans up3).trans up4) os ag
          obtain ⟨oe4, vs4, he4, hz4, hd4⟩ := fl4.there
          have S4 := J4.suite he4 hd4 na nL nF
          refine store_ok (X := X.suite a ((a, oe4) :: (X.pn ++ pins))) (v := .ref a) S4 hN hi hloc rfl (fun s5 S5 => ?_) (.inr hln)
          refine wpAny_mono ((hsu a oe4 cls d (X.pn ++ pins) hz4 ⟨_, hd4⟩).run [] s5 _ H' _ S5 (hyes rfl a na)) (fun f s6 hsp => ?_) (fun _ _ z => False.elim z)
          have end_ : ∀ {σ6 : L2.St} {H6 : Hp} {Q : Shared → Prop}, Inv (X.suite a ((a, oe4) :: (X.pn ++ pins))) [] σ6 H6 s6 → (∀ s7, Inv X pins (σ6.set i none) H6 s7 → Q s7) →
              wpAny (model X.prog X.w) X.A (do bindName X.env n .none; unbindBehindTheSuite X.env n pos') (fun _ s7 => Q s7) X.xe s6 := fun {σ6 H6 Q} S6 hq => gone_ok (S6.unsuite ok) hN hi hln hq
          cases f with
          | next =>
            obtain ⟨σ6, H6, S6, q6⟩ := hsp
            exact end_ S6 fun s7 J7 => ⟨_, _, J7, q6⟩
          | brk =>
            obtain ⟨σ6, H6, S6, q6⟩ := hsp
            exact end_ S6 fun s7 J7 => ⟨_, _, J7, q6⟩
          | cont =>
            obtain ⟨σ6, H6, S6, q6⟩ := hsp
            exact end_ S6 fun s7 J7 => ⟨_, _, J7, q6⟩
          | ret u =>
            obtain ⟨v6, σ6, H6, S6, r6, q6⟩ := hsp
            exact end_ S6 fun s7 J7 => ⟨_, _, _, J7, r6, q6⟩
        | false =>
          show wpAny _ X.A (handleBy (.ref a) X.env hds2) _ _ _
          exact ih (hno rfl)
    exact go hh w
  · cases f with
    | next =>
      obtain ⟨σ', H', J', q⟩ := hsp
      exact wpAny_execs_nil ⟨σ', H', J'.ofTry ok, q⟩
    | brk =>
      obtain ⟨σ', H', J', q⟩ := hsp
      exact ⟨σ', H', J'.ofTry ok, q⟩
    | cont =>
      obtain ⟨σ', H', J', q⟩ := hsp
      exact ⟨σ', H', J'.ofTry ok, q⟩
    | ret u =>
      obtain ⟨v, σ', H', J', r, q⟩ := hsp
      exact ⟨v, σ', H', J'.ofTry ok, r, q⟩
end

/-! ### by data -/
def Sl.noX : Sl → Bool
  | .x _ _ _ => false
  | _ => true
def noX (env : List Sl) : Bool := env.all Sl.noX
abbrev Cls1 := List (Str × Bool) × Option Nat × MS
/-- an end of a suite: the exception's name goes -/
def endX (i : Option Nat) (r : RS) : RS := match r with
  | .nx env h => bif noX ((i.map fun i => env.set i .u).getD env) then .nx ((i.map fun i => env.set i .u).getD env) h else .bad
  | .br env h => bif noX ((i.map fun i => env.set i .u).getD env) then .br ((i.map fun i => env.set i .u).getD env) h else .bad
  | .ct env h => bif noX ((i.map fun i => env.set i .u).getD env) then .ct ((i.map fun i => env.set i .u).getD env) h else .bad
  | .rt d h => .rt d h
  | .exc _ _ _ _ _ => .bad
  | .bad => .bad
def hand (c : Str) (ns : List Str) (ds : List D) (env : List Sl) (h : List D) : List Cls1 → RS
  | [] => .exc c ns ds env h
  | (ms, i, m) :: r => match ms.lookup c with
    | some true => endX i (m ((i.map fun i => env.set i (.x c ns ds)).getD env) h)
    | some false => hand c ns ds env h r
    | none => .bad
def sTry (body : MS) (cl : List Cls1) : MS := fun env h => bif noX env then (match body env h with
  | .exc c ns ds env' h' => bif noX env' then hand c ns ds env' h' cl else .bad
  | .nx env' h' => bif noX env' then .nx env' h' else .bad
  | .br env' h' => bif noX env' then .br env' h' else .bad
  | .ct env' h' => bif noX env' then .ct env' h' else .bad
  | r => r) else .bad
section
variable {K : PySem.W.Frag} {C : List (V × D)} {pn pn' : List (Addr × Obj)} {Z : Addr → Prop} {M : List Addr} {H : Hp} {env : List Sl} {h : List D} {σ : L2.St}
theorem noX_get {i : Nat} {c : Str} {ns : List Str} {ds : List D} (x : noX env = true) (e : env[i]? = some (.x c ns ds)) : False := by
  have := List.all_eq_true.mp x _ (List.mem_of_getElem? e)
  cases this
theorem SR.pin (s : SR K C pn Z M env h σ H) (x : noX env = true) : SR K C pn' Z M env h σ H := ⟨s.sh, s.slots, fun i c ns ds e => (noX_get x e).elim, s.len⟩
theorem SR.setx {i : Nat} {a dx : Addr} {oe : Obj} {c : Str} {ns : List Str} {ds : List D} (s : SR K C pn Z M env h σ H) (x : noX env = true) (hz : Zc (.ref (He.ga K c)) (some dx) oe) (hd : ∃ vs, oe.data = .fields vs) (xr : Xr K (zn Z M) M H ns ds dx) :
    SR K C ((a, oe) :: pn') Z M (env.set i (.x c ns ds)) h (σ.set i (some (.ref a))) H := by
  refine ⟨s.sh, fun j d hd' => ?_, fun j c' ns' ds' hd' => ?_, by simp [s.len]⟩
  · rw [List.getElem?_set] at hd'
    by_cases e : i = j
    · subst e
      rw [if_pos rfl] at hd'
      split at hd' <;> cases hd'
    · rw [if_neg e] at hd'
      obtain ⟨v, h1, h2⟩ := s.slots j d hd'
      exact ⟨v, by rw [List.getElem?_set_ne e]; exact h1, h2⟩
  · rw [List.getElem?_set] at hd'
    by_cases e : i = j
    · subst e
      rw [if_pos rfl] at hd'
      split at hd'
      · rename_i hi
        cases hd'
        exact ⟨a, dx, by rw [List.getElem?_set_self (s.len ▸ hi)], ⟨oe, List.mem_cons_self, hz, hd⟩, xr⟩
      · cases hd'
    · rw [if_neg e] at hd'
      exact (noX_get x hd').elim
theorem SR.unset {i : Nat} (s : SR K C pn Z M env h σ H) (x : noX (env.set i .u) = true) : SR K C pn' Z M (env.set i .u) h (σ.set i none) H := by
  refine ⟨s.sh, fun j d hd' => ?_, fun j c ns ds e => (noX_get x e).elim, by simp [s.len]⟩
  rw [List.getElem?_set] at hd'
  by_cases e : i = j
  · subst e
    rw [if_pos rfl] at hd'
    split at hd' <;> cases hd'
  · rw [if_neg e] at hd'
    obtain ⟨v, h1, h2⟩ := s.slots j d hd'
    exact ⟨v, by rw [List.getElem?_set_ne e]; exact h1, h2⟩
end
section
variable {C : List (V × D)} {X : Cx} {W : WX}
/-- the clauses, by data -/
inductive HdsD (C : List (V × D)) (X : Cx) : List ExceptHandler → List Cls1 → List (Value × Option Nat × TsX) → Prop
  | nil : HdsD C X [] [] []
  | cons {x : Str} {c : Value} {ms : List (Str × Bool)} {m : MS} {b₀ : Stmt} {suite : List Stmt} {np pos' : Pos} {hds : List ExceptHandler} {cl : List Cls1} {l : List (Value × Option Nat × TsX)} (hc : Names X x c)
      (hm : ∀ q ∈ ms, PySem.W.exmOne X.K (.ref (He.ga X.K q.1)) c = some q.2)
      (hsu : ∀ (a : Addr) (pn : List (Addr × Obj)), SB C (X.suite a pn) (fun _ _ _ _ => False) (b₀ :: suite) m) (r : HdsD C X hds cl l) :
      HdsD C X (.ExceptHandler (some (.Name x np)) none (b₀ :: suite) pos' :: hds) ((ms, none, m) :: cl) ((c, none, fun a cls d D' σ H => ∀ pn oe, Zc cls d oe → (∃ vs, oe.data = .fields vs) → tS X.K C ((a, oe) :: pn) (fun _ _ _ _ => False) m D' σ H) :: l)
  | consN {x n : Str} {i : Nat} {c : Value} {ms : List (Str × Bool)} {m : MS} {b₀ : Stmt} {suite : List Stmt} {np pos' : Pos} {hds : List ExceptHandler} {cl : List Cls1} {l : List (Value × Option Nat × TsX)} (hN : X.N.Nodup) (hi : X.N[i]? = some n) (hln : X.env.kindOf n = some .local) (hc : Names X x c)
      (hm : ∀ q ∈ ms, PySem.W.exmOne X.K (.ref (He.ga X.K q.1)) c = some q.2)
      (hsu : ∀ (a : Addr) (pn : List (Addr × Obj)), SB C (X.suite a pn) (fun _ _ _ _ => False) (b₀ :: suite) m) (r : HdsD C X hds cl l) :
      HdsD C X (.ExceptHandler (some (.Name x np)) (some n) (b₀ :: suite) pos' :: hds) ((ms, some i, m) :: cl) ((c, some i, fun a cls d D' σ H => ∀ pn oe, Zc cls d oe → (∃ vs, oe.data = .fields vs) → tS X.K C ((a, oe) :: pn) (fun _ _ _ _ => False) m D' σ H) :: l)
theorem HdsD.g {hds : List ExceptHandler} {cl : List Cls1} {l : List (Value × Option Nat × TsX)} (h : HdsD C X hds cl l) : HdsG X hds l := by
  induction h with
  | nil => exact .nil
  | cons hc hm hsu r ih => exact .cons hc (fun a oe cls d pn hz hd => PSs.weak (hsu a _) fun D' σ H q => q pn oe hz hd) ih
  | consN hN hi hln hc hm hsu r ih => exact .consN hN hi hln hc (fun a oe cls d pn hz hd => PSs.weak (hsu a _) fun D' σ H q => q pn oe hz hd) ih
theorem lookup_mem' {ms : List (Str × Bool)} {c : Str} {b : Bool} : ms.lookup c = some b → (c, b) ∈ ms := by
  induction ms with
  | nil => intro h; cases h
  | cons q ms ih =>
    intro h
    rw [List.lookup_cons] at h
    cases e : c == q.1 with
    | true => rw [e] at h; cases h; rw [eq_of_beq e]; exact List.mem_cons_self
    | false => rw [e] at h; exact List.mem_cons_of_mem _ (ih h)
theorem hand_ok {hds : List ExceptHandler} {cl : List Cls1} {l : List (Value × Option Nat × TsX)} (hh : HdsD C X hds cl l) {D' : Ends} {Z : Addr → Prop} {M : List Addr} {H : Hp} {env : List Sl} {h : List D} {σ : L2.St} {pn : List (Addr × Obj)} {c : Str} {ns : List Str} {ds : List D} {dx : Addr}
    (s : SR X.K C pn Z M env h σ H) (x : noX env = true) (xr : Xr X.K (zn Z M) M H ns ds dx) (g : GotS X.K C X.pn Z W M H (hand c ns ds env h cl) D') : wManyG X.K W D' l (.ref (He.ga X.K c)) (some dx) σ H := by
  induction hh with
  | nil => exact g M σ H dx (.refl M H) (s.pin x) xr
  | @cons xn cv ms m b₀ suite np pos' hds cl l hc hm hsu r ih =>
    unfold hand at g
    cases e : ms.lookup c with
    | none => rw [e] at g; exact False.elim g
    | some b =>
      rw [e] at g
      refine ⟨b, hm _ (lookup_mem' e), fun hb a na pn' oe hz hd => ?_, fun hb => ?_⟩
      · subst hb
        refine ⟨Z, M, env, h, s.pin x, ?_⟩
        have g : GotS X.K C X.pn Z W M H (endX none (m env h)) D' := g
        cases em : m env h with
        | nx env' h' =>
          rw [em] at g
          have g : GotS X.K C X.pn Z W M H (bif noX env' then .nx env' h' else .bad) D' := g
          cases hx : noX env' with
          | false => rw [hx] at g; exact False.elim g
          | true => rw [hx] at g; exact fun M' σ' H' ev s' => g M' σ' H' ev (s'.pin hx)
        | br env' h' =>
          rw [em] at g
          have g : GotS X.K C X.pn Z W M H (bif noX env' then .br env' h' else .bad) D' := g
          cases hx : noX env' with
          | false => rw [hx] at g; exact False.elim g
          | true => rw [hx] at g; exact fun M' σ' H' ev s' => g M' σ' H' ev (s'.pin hx)
        | ct env' h' =>
          rw [em] at g
          have g : GotS X.K C X.pn Z W M H (bif noX env' then .ct env' h' else .bad) D' := g
          cases hx : noX env' with
          | false => rw [hx] at g; exact False.elim g
          | true => rw [hx] at g; exact fun M' σ' H' ev s' => g M' σ' H' ev (s'.pin hx)
        | rt d h' => rw [em] at g; exact g
        | exc c' ns' ds' env' h' => rw [em] at g; exact False.elim g
        | bad => rw [em] at g; exact False.elim g
      · subst hb
        exact ih g
  | @consN xn n i cv ms m b₀ suite np pos' hds cl l hN hi hln hc hm hsu r ih =>
    unfold hand at g
    cases e : ms.lookup c with
    | none => rw [e] at g; exact False.elim g
    | some b =>
      rw [e] at g
      refine ⟨b, hm _ (lookup_mem' e), fun hb a na pn' oe hz hd => ?_, fun hb => ?_⟩
      · subst hb
        refine ⟨Z, M, env.set i (.x c ns ds), h, s.setx x hz hd xr, ?_⟩
        have g : GotS X.K C X.pn Z W M H (endX (some i) (m (env.set i (.x c ns ds)) h)) D' := g
        cases em : m (env.set i (.x c ns ds)) h with
        | nx env' h' =>
          rw [em] at g
          have g : GotS X.K C X.pn Z W M H (bif noX (env'.set i .u) then .nx (env'.set i .u) h' else .bad) D' := g
          cases hx : noX (env'.set i .u) with
          | false => rw [hx] at g; exact False.elim g
          | true => rw [hx] at g; exact fun M' σ' H' ev s' => g M' _ H' ev (s'.unset hx)
        | br env' h' =>
          rw [em] at g
          have g : GotS X.K C X.pn Z W M H (bif noX (env'.set i .u) then .br (env'.set i .u) h' else .bad) D' := g
          cases hx : noX (env'.set i .u) with
          | false => rw [hx] at g; exact False.elim g
          | true => rw [hx] at g; exact fun M' σ' H' ev s' => g M' _ H' ev (s'.unset hx)
        | ct env' h' =>
          rw [em] at g
          have g : GotS X.K C X.pn Z W M H (bif noX (env'.set i .u) then .ct (env'.set i .u) h' else .bad) D' := g
          cases hx : noX (env'.set i .u) with
          | false => rw [hx] at g; exact False.elim g
          | true => rw [hx] at g; exact fun M' σ' H' ev s' => g M' _ H' ev (s'.unset hx)
        | rt d h' => rw [em] at g; exact g
        | exc c' ns' ds' env' h' => rw [em] at g; exact False.elim g
        | bad => rw [em] at g; exact False.elim g
      · subst hb
        exact ih g
theorem ss_try {body : List Stmt} {h₀ : ExceptHandler} {hds : List ExceptHandler} {m : MS} {cl : List Cls1} {l : List (Value × Option Nat × TsX)} {pos : Pos} (hs : X.stack = X.env :: X.outer) (hf : X.env.frame = some X.env.locals) (tk : Takes X W)
    (hb : ∀ (W' : WX) (pn : List (Addr × Obj)) (xe : Value → Shared → Prop), Takes (X.tr (X.pn ++ pn) xe) W' → PassesOwn (model X.prog X.w) X.A X.env xe → SB C (X.tr (X.pn ++ pn) xe) W' body m)
    (hh : HdsD C X (h₀ :: hds) cl l) : SS C X W (.Try body (h₀ :: hds) [] [] pos) (sTry m cl) := by
  refine PS.weak (ps_tryG (tb := fun W' D' σ H => ∀ pn, tS X.K C (X.pn ++ pn) W' m D' σ H) hs hf tk (fun W' pn xe tk' hp => PSs.weak (hb W' pn xe tk' hp) fun D' σ H q => q pn) hh.g) fun D' σ H ⟨Z, M, env, h, s, g⟩ pn => ?_
  unfold sTry at g
  cases hx : noX env with
  | false => rw [hx] at g; exact False.elim g
  | true =>
    rw [hx] at g
    refine ⟨Z, M, env, h, s.pin hx, ?_⟩
    dsimp only [cond_true] at g
    cases em : m env h with
    | nx env' h' =>
      rw [em] at g
      dsimp only at g
      cases hy : noX env' with
      | false => rw [hy] at g; exact False.elim g
      | true => rw [hy] at g; exact fun M' σ' H' ev s' => g M' σ' H' ev (s'.pin hy)
    | br env' h' =>
      rw [em] at g
      dsimp only at g
      cases hy : noX env' with
      | false => rw [hy] at g; exact False.elim g
      | true => rw [hy] at g; exact fun M' σ' H' ev s' => g M' σ' H' ev (s'.pin hy)
    | ct env' h' =>
      rw [em] at g
      dsimp only at g
      cases hy : noX env' with
      | false => rw [hy] at g; exact False.elim g
      | true => rw [hy] at g; exact fun M' σ' H' ev s' => g M' σ' H' ev (s'.pin hy)
    | rt d h' => rw [em] at g; exact g
    | bad => rw [em] at g; exact g
    | exc c ns ds env' h' =>
      rw [em] at g
      dsimp only at g
      cases hy : noX env' with
      | false => rw [hy] at g; exact False.elim g
      | true =>
        rw [hy] at g
        intro M' σ' H' dx ev s' xr
        exact hand_ok hh s' hy xr (GotS.later ev g)
end
end G

set_option Elab.async false
set_option linter.all false
set_option maxRecDepth 100000
set_option maxHeartbeats 4000000
/-! G7: targets, sources, for, list comprehensions, while. -/
namespace G
open PySem PySem.Spec PyProof.Rows L2

/-! ### targets -/
abbrev Asg := List Sl → D → Option (List Sl)
abbrev Asgs := List Sl → List D → Option (List Sl)
def tG (K : PySem.W.Frag) (C : List (V × D)) (pn : List (Addr × Obj)) (T : Asg) (ts : List Nat) : TG := fun v σ H Q => ∃ Z M env h d, SR K C pn Z M env h σ H ∧ Rep K (zn Z M) M H d v ∧ match T env d with
  | some env' => ∀ σ', SR K C pn Z M env' h σ' H → σ'.length = σ.length → (∀ j, j ∉ ts → σ'[j]? = σ[j]?) → Q σ' H
  | none => False
def tGs (K : PySem.W.Frag) (C : List (V × D)) (pn : List (Addr × Obj)) (T : Asgs) (ts : List Nat) : TGs := fun vs σ H Q => ∃ Z M env h ds, SR K C pn Z M env h σ H ∧ Reps K (zn Z M) M H ds vs ∧ match T env ds with
  | some env' => ∀ σ', SR K C pn Z M env' h σ' H → σ'.length = σ.length → (∀ j, j ∉ ts → σ'[j]? = σ[j]?) → Q σ' H
  | none => False
def SG (C : List (V × D)) (X : Cx) (tg : Expr) (T : Asg) (ts : List Nat) : Prop := PG X tg (tG X.K C X.pn T ts)
def SGs (C : List (V × D)) (X : Cx) (tgs : List Expr) (T : Asgs) (ts : List Nat) : Prop := PGs X tgs (tGs X.K C X.pn T ts)
theorem PG.weak {X : Cx} {tg : Expr} {t t' : TG} (p : PG X tg t) (h : ∀ v σ H Q, t' v σ H Q → t v σ H Q) : PG X tg t' := ⟨fun pins s σ H v u Q I r q => p.run pins s σ H v u Q I r (h v σ H Q q)⟩
theorem PGs.weak {X : Cx} {tgs : List Expr} {t t' : TGs} (p : PGs X tgs t) (h : ∀ v σ H Q, t' v σ H Q → t v σ H Q) : PGs X tgs t' := ⟨fun pins s σ H v u Q I r q => p.run pins s σ H v u Q I r (h v σ H Q q)⟩
def gN (i : Nat) : Asg := fun env d => some (env.set i (.v d))
def gsN : Asgs := fun env ds => match ds with
  | [] => some env
  | _ => none
def gsC (T : Asg) (U : Asgs) : Asgs := fun env ds => match ds with
  | d :: ds => (T env d).bind fun env' => U env' ds
  | [] => none
def gT (n : Nat) (U : Asgs) : Asg := fun env d => match d with
  | .tup ds => bif ds.length == n then U env ds else none
  | _ => none
section
variable {C : List (V × D)} {X : Cx} {pos : Pos}
theorem sg_name {i : Nat} {x : Str} (hN : X.N.Nodup) (hi : X.N[i]? = some x) (hx : Loc X.env.scope x) (hf : X.fn x = true ∨ X.env.scope.names.lookup x = some .local := by first | exact .inl rfl | exact .inr rfl | assumption) : SG C X (.Name x pos) (gN i) [i] := by
  refine PG.weak (pg_name hN hi hx hf) fun v σ H Q ⟨Z, M, env, h, d, s, r, g⟩ => ?_
  exact g _ (s.set r) (by simp) fun j hj => List.getElem?_set_ne (fun z => hj (by rw [z]; exact List.mem_singleton.mpr rfl))
theorem sgs_nil : SGs C X [] gsN [] := by
  refine PGs.weak pgs_nil fun v σ H Q ⟨Z, M, env, h, ds, s, r, g⟩ => ?_
  cases ds with
  | nil => exact ⟨r.cases_nil, g σ s rfl fun _ _ => rfl⟩
  | cons d ds => exact False.elim g
theorem sgs_cons {e : Expr} {es : List Expr} {T : Asg} {U : Asgs} {ts us : List Nat} (h1 : SG C X e T ts) (h2 : SGs C X es U us) (hs : (assignEach (e :: es) X.env).map (·.2) = assign e X.env :: (assignEach es X.env).map (·.2) := by rfl) : SGs C X (e :: es) (gsC T U) (ts ++ us) := by
  refine PGs.weak (pgs_cons h1 h2 hs) fun v σ H Q ⟨Z, M, env, h, ds, s, r, g⟩ => ?_
  cases ds with
  | nil => exact False.elim g
  | cons d ds =>
    obtain ⟨v', ws, rfl, r1, r2⟩ := r.cases_cons
    refine ⟨v', ws, rfl, Z, M, env, h, d, s, r1, ?_⟩
    have g : (match (T env d).bind fun env' => U env' ds with
      | some env' => ∀ σ', SR X.K C X.pn Z M env' h σ' H → σ'.length = σ.length → (∀ j, j ∉ ts ++ us → σ'[j]? = σ[j]?) → Q σ' H
      | none => False) := g
    cases e1 : T env d with
    | none => rw [e1] at g; exact g
    | some env1 =>
      rw [e1] at g
      intro σ1 s1 l1 k1
      refine ⟨Z, M, env1, h, ds, s1, r2, ?_⟩
      have g : (match U env1 ds with
        | some env' => ∀ σ', SR X.K C X.pn Z M env' h σ' H → σ'.length = σ.length → (∀ j, j ∉ ts ++ us → σ'[j]? = σ[j]?) → Q σ' H
        | none => False) := g
      cases e2 : U env1 ds with
      | none => rw [e2] at g; exact g
      | some env2 =>
        rw [e2] at g
        exact fun σ2 s2 l2 k2 => g σ2 s2 (l2.trans l1) fun j hj => (k2 j fun z => hj (List.mem_append_right _ z)).trans (k1 j fun z => hj (List.mem_append_left _ z))
theorem sg_tup {es : List Expr} {k n : Nat} {U : Asgs} {ts : List Nat} (hc : X.calm = true) (h : SGs C X es U ts) (hn : (assignEach es X.env).length = n := by rfl) (hst : (assignEach es X.env).findIdx? (·.1) = none := by rfl) : SG C X (.Tuple es k pos) (gT n U) ts := by
  refine PG.weak (pg_tup hc h hn hst) fun v σ H Q ⟨Z, M, env, h, d, s, r, g⟩ => ?_
  cases r with
  | @tup xs vs a z rd l q =>
    have g : (match (bif xs.length == n then U env xs else none) with
      | some env' => ∀ σ', SR X.K C X.pn Z M env' h σ' H → σ'.length = σ.length → (∀ j, j ∉ ts → σ'[j]? = σ[j]?) → Q σ' H
      | none => False) := g
    cases hl : xs.length == n with
    | false => rw [hl] at g; exact False.elim g
    | true =>
      rw [hl] at g
      exact ⟨a, vs, rfl, .inl rd, by rw [← l]; exact eq_of_beq hl, Z, M, env, h, xs, s, ⟨l, q⟩, g⟩
  | _ => exact False.elim g
end
/-- target = value -/
def sAsg (T : Asg) (m : ME) : MS := fun env h => (m env h).thenS env fun d h1 => match T env d with
  | some env' => .nx env' h1
  | none => .bad
theorem ss_asg {C : List (V × D)} {X : Cx} {W : WX} {tg e : Expr} {T : Asg} {ts : List Nat} {m : ME} {pos : Pos} (he : SE C X W e m) (hg : SG C X tg T ts) (hs : swapsWithSole [tg] e pos.line X.env = pure false := by rfl) (hw : swappedStores [tg] e X.env = pure none := by rfl) (h1 : (assignEach [tg] X.env).map (·.2) = [assign tg X.env] := by rfl) : SS C X W (.Assign [tg] e pos) (sAsg T m) := by
  refine PS.weak (ps_asg he hg hs hw h1) fun D' σ H ⟨Z, M, env, h, s, g⟩ => ?_
  refine tE.stepS s g fun M1 H1 h1 d v e1 s1 r1 g1 => ?_
  refine ⟨Z, M1, env, h1, d, s1, r1, ?_⟩
  cases et : T env d with
  | none => rw [et] at g1; exact g1
  | some env' =>
    rw [et] at g1
    exact fun σ' s' _ _ => g1 M1 σ' H1 (.refl M1 H1) s'

/-! ### what is walked -/
/-- J gives the items; Iv stands over it -/
structure ItR (K : PySem.W.Frag) (C : List (V × D)) (J : It) (items : List D) (Iv : (Addr → Prop) → List Addr → Hp → Prop) : Prop where
  go : ∀ i Z M H, i < items.length → Iv Z M H → J.go i H
  stop : ∀ Z M H, Iv Z M H → J.stop items.length H
  yld : ∀ i Z M h H x H' d, Iv Z M H → Sh K C Z M h H → J.yld i H x H' → items[i]? = some d → Evo M H M H' ∧ Sh K C Z M h H' ∧ Rep K (zn Z M) M H' d x
  mono : ∀ Z M H M' H', Iv Z M H → Evo M H M' H' → Iv Z M' H'
  zone : ∀ (Z Z' : Addr → Prop) M H, Iv Z M H → (∀ a, Z a → H a ≠ none → Z' a) → Iv Z' M H
  poke : ∀ (Z : Addr → Prop) M H p us ys, Iv Z M H → ¬ Z p → H p = some (.lst us) → Iv Z M (upd H p (.lst ys))
/-- a list out of the zone is written -/
theorem Rep.poke {K : PySem.W.Frag} {Z : Addr → Prop} {M : List Addr} {H : Hp} {p : Addr} {us ys : List V} (nz : ¬ Z p) (hp : H p = some (.lst us)) {d : D} {v : V} (r : Rep K (zn Z M) M H d v) : Rep K (zn Z M) M (upd H p (.lst ys)) d v := by
  have ne : ∀ {a : Addr}, zn Z M a → a ≠ p := fun {a} z e => nz (e ▸ z.1)
  induction r with
  | non => exact .non
  | bl b => exact .bl b
  | int i => exact .int i
  | str x => exact .str x
  | tup z h l _ ih => exact .tup z (by rcases h with h | ⟨o, h⟩; exact .inl (by rw [upd_ne (ne z)]; exact h); exact .inr ⟨o, by rw [upd_ne (ne z)]; exact h⟩) l ih
  | lst z h l _ ih => exact .lst z (by rw [upd_ne (ne z)]; exact h) l ih
  | dic z h e l _ ih => exact .dic z (by rcases h with h | ⟨o, h⟩; exact .inl (by rw [upd_ne (ne z)]; exact h); exact .inr ⟨o, by rw [upd_ne (ne z)]; exact h⟩) e l ih
  | obj z h e l _ ih => exact .obj z (by rw [upd_ne (ne z)]; exact h) e l ih
  | loc h => exact .loc h
  | scr s =>
    refine .scr ?_
    rcases s with ⟨o, s⟩ | s
    · exact .inl ⟨o, by rw [upd_ne (fun z => by rw [z, hp] at s; cases s)]; exact s⟩
    · exact .inr s
  | cls => exact .cls
theorem Reps.poke {K : PySem.W.Frag} {Z : Addr → Prop} {M : List Addr} {H : Hp} {p : Addr} {us ys : List V} (nz : ¬ Z p) (hp : H p = some (.lst us)) {ds : List D} {vs : List V} (r : Reps K (zn Z M) M H ds vs) : Reps K (zn Z M) M (upd H p (.lst ys)) ds vs := ⟨r.1, fun i d v b1 b2 => (r.2 i d v b1 b2).poke nz hp⟩
def tI (K : PySem.W.Frag) (C : List (V × D)) (pn : List (Addr × Obj)) (W : WX) (m : MA) : TI := fun σ H R => ∃ Z M env h, SR K C pn Z M env h σ H ∧ Got K C pn Z W σ env M H (m env h) fun M' H' items => ∀ J Iv, ItR K C J items Iv → Iv Z M' H' → R J H'
def SI (C : List (V × D)) (X : Cx) (W : WX) (tg iter : Expr) (m : MA) : Prop := PI X tg iter (tI X.K C X.pn W m)
theorem PI.weak {X : Cx} {tg iter : Expr} {t t' : TI} (p : PI X tg iter t) (h : ∀ σ H R, t' σ H R → t σ H R) : PI X tg iter t' := ⟨fun pins s σ H R I q => p.run pins s σ H R I (h σ H R q)⟩
section
variable {C : List (V × D)} {X : Cx} {W : WX} {tg : Expr}
/-- a list, a tuple that never changes -/
def iSeq (m : ME) : MA := fun env h => (m env h).bind fun d h1 => match d with
  | .lst xs => .ok xs h1
  | .scr ns => .ok (ns.map .int) h1
  | _ => .bad
def iTupD (m : ME) : MA := fun env h => (m env h).bind fun d h1 => match d with
  | .tup xs => .ok xs h1
  | _ => .bad
theorem zsub {Z Z' : Addr → Prop} {M : List Addr} {H : Hp} {a : Addr} {o : HO} (k : ∀ a, Z a → H a ≠ none → Z' a) (z : zn Z M a) (h : Rd H a o) : zn Z' M a := ⟨k a z.1 (by rcases h with h | ⟨u, h⟩ <;> rw [h] <;> simp), z.2⟩
theorem Rep.sub {K : PySem.W.Frag} {Z Z' : Addr → Prop} {M : List Addr} {H : Hp} {d : D} {v : V} (k : ∀ a, Z a → H a ≠ none → Z' a) (r : Rep K (zn Z M) M H d v) : Rep K (zn Z' M) M H d v := by
  induction r with
  | non => exact .non
  | bl b => exact .bl b
  | int i => exact .int i
  | str x => exact .str x
  | tup z h l _ ih => exact .tup (zsub k z h) h l ih
  | lst z h l _ ih => exact .lst (zsub k z (.inl h)) h l ih
  | dic z h e l _ ih => exact .dic (zsub k z h) h e l ih
  | obj z h e l _ ih => exact .obj (zsub k z (.inl h)) h e l ih
  | loc h => exact .loc h
  | scr s => exact .scr s
  | cls => exact .cls
theorem Reps.sub {K : PySem.W.Frag} {Z Z' : Addr → Prop} {M : List Addr} {H : Hp} {ds : List D} {vs : List V} (k : ∀ a, Z a → H a ≠ none → Z' a) (r : Reps K (zn Z M) M H ds vs) : Reps K (zn Z' M) M H ds vs := ⟨r.1, fun i d v h1 h2 => (r.2 i d v h1 h2).sub k⟩
theorem itr_list {a : Addr} {xs : List D} {vs : List V} : ItR X.K C (Itl X.K a) xs (fun Z M H => zn Z M a ∧ H a = some (.lst vs) ∧ Reps X.K (zn Z M) M H xs vs) where
  go := fun i Z M H hi ⟨z, h, r⟩ => ⟨vs, vs[i]'(r.1 ▸ hi), SqL.of h, List.getElem?_eq_getElem _⟩
  stop := fun Z M H ⟨z, h, r⟩ => ⟨vs, SqL.of h, by rw [r.1]; exact Nat.le_refl _⟩
  yld := fun i Z M h H x H' d ⟨z, e, r⟩ sh ⟨eH, q⟩ hd => by
    subst eH
    exact ⟨.refl M H', sh, r.2 i d x hd (q vs (SqL.of e))⟩
  mono := fun Z M H M' H' ⟨z, h, r⟩ e => ⟨(e.zone z h).1, (e.zone z h).2, r.mono e⟩
  zone := fun Z Z' M H ⟨z, h, r⟩ k => ⟨zsub k z (.inl h), h, r.sub k⟩
  poke := fun Z M H p us ys ⟨z, h, r⟩ nz hp => ⟨z, by rw [upd_ne (fun e : a = p => nz (by rw [← e]; exact z.1))]; exact h, r.poke nz hp⟩
theorem itr_scr {a : Addr} {ns : List Int} : ItR X.K C (Itl X.K a) (ns.map .int) (fun Z M H => (∃ o, H a = some (.frz o (.lst (ns.map V.int)))) ∨ SqL X.K (fun _ => none) a (ns.map V.int)) := by
  have sq : ∀ {H : Hp}, ((∃ o, H a = some (.frz o (.lst (ns.map V.int)))) ∨ SqL X.K (fun _ => none) a (ns.map V.int)) → SqL X.K H a (ns.map V.int) := fun {H} h => by
    rcases h with ⟨o, h⟩ | h
    · exact .inl (.inr ⟨o, h⟩)
    · rcases h with h | h
      · rcases h with h | ⟨o, h⟩ <;> cases h
      · exact .inr h
  refine ⟨fun i Z M H hi s => ⟨_, (ns.map V.int)[i]'(by simpa using hi), sq s, List.getElem?_eq_getElem _⟩, fun Z M H s => ⟨_, sq s, by simp⟩, fun i Z M h H x H' d s sh ⟨eH, q⟩ hd => ?_, fun Z M H M' H' s e => ?_, fun Z Z' M H s k => s, fun Z M H p us ys s nz hp => ?_⟩
  rotate_right 1
  · rcases s with ⟨o, s⟩ | s
    · exact .inl ⟨o, by rw [upd_ne (fun z => by rw [z, hp] at s; cases s)]; exact s⟩
    · exact .inr s
  · subst eH
    have q1 := q _ (sq s)
    rw [List.getElem?_map] at q1 hd
    cases hn : ns[i]? with
    | none => rw [hn] at hd; cases hd
    | some n =>
      rw [hn] at hd q1
      cases hd; cases q1
      exact ⟨.refl M H', sh, .int n⟩
  · rcases s with ⟨o, h⟩ | h
    · exact .inl ⟨o, e.fz _ _ _ h⟩
    · exact .inr h
theorem scr_sq {K : PySem.W.Frag} {H : Hp} {a : Addr} {ns : List Int} (h : (∃ o, H a = some (.frz o (.lst (ns.map V.int)))) ∨ SqL K (fun _ => none) a (ns.map V.int)) : SqL K H a (ns.map V.int) := by
  rcases h with ⟨o, h⟩ | h
  · exact .inl (.inr ⟨o, h⟩)
  · rcases h with h | h
    · rcases h with h | ⟨o, h⟩ <;> cases h
    · exact .inr h
theorem itr_tup {a : Addr} {xs : List D} {vs : List V} : ItR X.K C (Itt X.K a) xs (fun Z M H => zn Z M a ∧ Rd H a (.tup vs) ∧ Reps X.K (zn Z M) M H xs vs) where
  go := fun i Z M H hi ⟨z, h, r⟩ => ⟨vs, vs[i]'(r.1 ▸ hi), .inl h, List.getElem?_eq_getElem _⟩
  stop := fun Z M H ⟨z, h, r⟩ => ⟨vs, .inl h, by rw [r.1]; exact Nat.le_refl _⟩
  yld := fun i Z M h H x H' d ⟨z, e, r⟩ sh ⟨eH, q⟩ hd => by
    subst eH
    exact ⟨.refl M H', sh, r.2 i d x hd (q vs (.inl e))⟩
  mono := fun Z M H M' H' ⟨z, h, r⟩ e => ⟨(e.rd z h).1, (e.rd z h).2, r.mono e⟩
  zone := fun Z Z' M H ⟨z, h, r⟩ k => ⟨zsub k z h, h, r.sub k⟩
  poke := fun Z M H p us ys ⟨z, h, r⟩ nz hp => ⟨z, by rcases h with h | ⟨o, h⟩; exact .inl (by rw [upd_ne (fun e : a = p => nz (by rw [← e]; exact z.1))]; exact h); exact .inr ⟨o, by rw [upd_ne (fun e : a = p => nz (by rw [← e]; exact z.1))]; exact h⟩, r.poke nz hp⟩
theorem si_list {l : Expr} {m : ME} (hl : SE C X W l m) : SI C X W tg l (iSeq m) := by
  refine PI.weak (pi_list hl) fun σ H R ⟨Z, M, env, h, s, g⟩ => ?_
  refine tE.step s g fun M1 H1 h1 d v e1 s1 r1 g1 => ?_
  cases r1 with
  | @lst xs vs a z e l q => exact ⟨a, rfl, ⟨vs, SqL.of e⟩, Got.now g1 s1 _ _ itr_list ⟨z, e, ⟨l, q⟩⟩⟩
  | @scr ns a s => exact ⟨a, rfl, ⟨_, scr_sq s⟩, Got.now g1 s1 _ _ itr_scr s⟩
  | _ => exact False.elim g1
theorem si_tup {l : Expr} {m : ME} (hl : SE C X W l m) : SI C X W tg l (iTupD m) := by
  refine PI.weak (pi_tup hl) fun σ H R ⟨Z, M, env, h, s, g⟩ => ?_
  refine tE.step s g fun M1 H1 h1 d v e1 s1 r1 g1 => ?_
  cases r1 with
  | @tup xs vs a z e l q => exact ⟨a, rfl, ⟨vs, .inl e⟩, Got.now g1 s1 _ _ itr_tup ⟨z, e, ⟨l, q⟩⟩⟩
  | _ => exact False.elim g1
/-- range(n) -/
def rangeD (lo : Int) (n : Nat) : List D := (List.range n).map fun (i : Nat) => D.int (lo + i)
def iRange1 (t : MA) : MA := fun env h => (t env h).bind fun ds h1 => match ds with
  | [.int j] => bif decide (-(2 ^ 62) ≤ j) && decide (j < 2 ^ 62) then .ok (rangeD 0 j.toNat) h1 else .bad
  | _ => .bad
def iRange2 (t : MA) : MA := fun env h => (t env h).bind fun ds h1 => match ds with
  | [.int i, .int j] => bif decide (-(2 ^ 62) ≤ i) && (decide (i < 2 ^ 62) && (decide (-(2 ^ 62) ≤ j) && decide (j < 2 ^ 62))) then .ok (rangeD i (j - i).toNat) h1 else .bad
  | _ => .bad
theorem itr_range {lo : Int} {n : Nat} : ItR X.K C (Itr lo n) (rangeD lo n) (fun _ _ _ => True) := by
  refine ⟨fun i Z M H hi _ => by show i < n; simpa [rangeD] using hi, fun Z M H _ => by show n ≤ _; simp [rangeD], fun i Z M h H x H' d _ sh ⟨eH, ex⟩ hd => ?_, fun _ _ _ _ _ _ _ => trivial, fun _ _ _ _ _ _ => trivial, fun _ _ _ _ _ _ _ _ _ => trivial⟩
  subst eH
  subst ex
  unfold rangeD at hd
  rw [List.getElem?_map] at hd
  cases hr : (List.range n)[i]? with
  | none => rw [hr] at hd; cases hd
  | some j =>
    rw [hr] at hd
    obtain ⟨_, ej⟩ := List.getElem?_eq_some_iff.mp hr
    rw [List.getElem_range] at ej
    subst ej
    cases hd
    exact ⟨.refl M H', sh, .int _⟩
theorem si_range1 {a : Expr} {t : MA} {p pos : Pos} (hg : Gl X "range") (hm : X.mg "range" = none) (ha : SA C X W [a] t) (hs : starEach [a] X.env = [(false, eval a X.env)] := by rfl) : SI C X W tg (.Call (.Name "range" p) [a] [] pos) (iRange1 t) := by
  refine PI.weak (pi_range1 hg hm ha hs) fun σ H R ⟨Z, M, env, h, s, g⟩ => ?_
  refine tA.step s g fun M1 H1 h1 ds vs e1 s1 r1 g1 => ?_
  cases ds with
  | nil => exact False.elim g1
  | cons d ds =>
    obtain ⟨v, ws, rfl, q1, q2⟩ := r1.cases_cons
    cases ds with
    | cons d' ds => cases d <;> exact False.elim g1
    | nil =>
      obtain rfl := q2.cases_nil
      cases q1 with
      | int j =>
        dsimp only at g1
        cases hb : decide (-(2 ^ 62) ≤ j) && decide (j < 2 ^ 62) with
        | false => rw [hb] at g1; exact False.elim g1
        | true =>
          rw [hb] at g1
          obtain ⟨b1, b2⟩ := Bool.and_eq_true_iff.mp hb
          exact ⟨j, rfl, of_decide_eq_true b1, of_decide_eq_true b2, Got.now g1 s1 _ _ itr_range trivial⟩
      | _ => exact False.elim g1
theorem si_range2 {a b : Expr} {t : MA} {p pos : Pos} (hg : Gl X "range") (hm : X.mg "range" = none) (ha : SA C X W [a, b] t) (hs : starEach [a, b] X.env = [(false, eval a X.env), (false, eval b X.env)] := by rfl) (hs2 : starEach [b] X.env = [(false, eval b X.env)] := by rfl) : SI C X W tg (.Call (.Name "range" p) [a, b] [] pos) (iRange2 t) := by
  refine PI.weak (pi_range2 hg hm ha hs hs2) fun σ H R ⟨Z, M, env, h, s, g⟩ => ?_
  refine tA.step s g fun M1 H1 h1 ds vs e1 s1 r1 g1 => ?_
  match ds, g1, r1 with
  | [], g1, _ => exact False.elim g1
  | [d], g1, _ => cases d <;> exact False.elim g1
  | d :: d2 :: d3 :: ds, g1, _ => cases d <;> (try exact False.elim g1); cases d2 <;> exact False.elim g1
  | [d, d2], g1, r1 =>
    obtain ⟨v, ws, rfl, q1, q2⟩ := r1.cases_cons
    obtain ⟨v2, ws2, rfl, q3, q4⟩ := q2.cases_cons
    obtain rfl := q4.cases_nil
    cases q1 with
    | int i =>
      cases q3 with
      | int j =>
        dsimp only at g1
        cases hb : decide (-(2 ^ 62) ≤ i) && (decide (i < 2 ^ 62) && (decide (-(2 ^ 62) ≤ j) && decide (j < 2 ^ 62))) with
        | false => rw [hb] at g1; exact False.elim g1
        | true =>
          rw [hb] at g1
          obtain ⟨b1, b2⟩ := Bool.and_eq_true_iff.mp hb
          obtain ⟨b2, b3⟩ := Bool.and_eq_true_iff.mp b2
          obtain ⟨b3, b4⟩ := Bool.and_eq_true_iff.mp b3
          exact ⟨i, j, rfl, ⟨of_decide_eq_true b1, of_decide_eq_true b2, of_decide_eq_true b3, of_decide_eq_true b4⟩, Got.now g1 s1 _ _ itr_range trivial⟩
      | _ => exact False.elim g1
    | _ => exact False.elim g1
/-- a text, sign by sign -/
def iText (m : ME) : MA := fun env h => (m env h).bind fun d h1 => match d with
  | .str x => .ok (x.cps.toList.map fun c => .str ⟨#[c]⟩) h1
  | _ => .bad
theorem itr_text {z : Str} : ItR X.K C (Its z) (z.cps.toList.map fun c => .str ⟨#[c]⟩) (fun _ _ _ => True) := by
  refine ⟨fun i Z M H hi _ => by show i < z.cps.size; simpa using hi, fun Z M H _ => by show z.cps.size ≤ _; simp, fun i Z M h H x H' d _ sh ⟨eH, c, hc, ex⟩ hd => ?_, fun _ _ _ _ _ _ _ => trivial, fun _ _ _ _ _ _ => trivial, fun _ _ _ _ _ _ _ _ _ => trivial⟩
  subst eH
  subst ex
  rw [List.getElem?_map, Array.getElem?_toList, hc] at hd
  cases hd
  exact ⟨.refl M H', sh, .str _⟩
theorem si_text {e : Expr} {m : ME} (he : SE C X W e m) : SI C X W tg e (iText m) := by
  refine PI.weak (pi_str he) fun σ H R ⟨Z, M, env, h, s, g⟩ => ?_
  refine tE.step s g fun M1 H1 h1 d v e1 s1 r1 g1 => ?_
  cases r1 with
  | str x => exact ⟨x, rfl, Got.now g1 s1 _ _ itr_text trivial⟩
  | _ => exact False.elim g1
end

/-! ### for -/
def forGo (T : Asg) (m : MS) : List D → MS
  | [], env, h => .nx env h
  | x :: xs, env, h => match T env x with
    | some env1 => (match m env1 h with
      | .nx env2 h2 => forGo T m xs env2 h2
      | .ct env2 h2 => forGo T m xs env2 h2
      | .br env2 h2 => .nx env2 h2
      | r => r)
    | none => .bad
def sFor (src : MA) (T : Asg) (m : MS) : MS := fun env h => (src env h).thenS env fun items h1 => forGo T m items env h1
theorem ss_for {C : List (V × D)} {X : Cx} {W : WX} {tg iter : Expr} {body : List Stmt} {src : MA} {T : Asg} {ts : List Nat} {m : MS} {pos : Pos} (hp : PassesOwn (model X.prog X.w) X.A X.env X.xe) (hc : X.calm = true) (hi : SI C X W tg iter src) (hg : SG C X tg T ts) (hb : SB C X W body m)
    (hs : ∀ x, foldedSetIterable iter X.env x = pure x := by intro _; rfl) : SS C X W (.For tg iter body [] pos) (sFor src T m) := by
  refine PS.weak (ps_for hp hc hi hg hb hs) fun D' σ H ⟨Z, M, env, h, s, g⟩ => ⟨Z, M, env, h, s, ?_⟩
  unfold sFor at g
  cases e : src env h with
  | bad => rw [e] at g; exact g
  | exc c ns ds h1 => rw [e] at g; exact fun M' H' dx ev s' x => g M' σ H' dx ev s' x
  | ok items h1 =>
    rw [e] at g
    have g : GotS X.K C X.pn Z W M H (forGo T m items env h1) D' := g
    intro M1 H1 ev s1 J Iv it iv
    have g := GotS.later ev g
    refine ⟨fun i k σ H => k = items.length - i ∧ i ≤ items.length ∧ ∃ M env h, SR X.K C X.pn Z M env h σ H ∧ Iv Z M H ∧ GotS X.K C X.pn Z W M H (forGo T m (items.drop i) env h) D', ⟨_, rfl, Nat.zero_le _, M1, env, h1, s1, iv, g⟩, ?_⟩
    rintro i k σ2 H2 ⟨rfl, hle, M2, env2, h2, s2, iv2, g2⟩
    by_cases hlt : i < items.length
    · refine .inr ⟨it.go i Z M2 H2 hlt iv2, fun σ' H' => i + 1 ≤ items.length ∧ ∃ M env h, SR X.K C X.pn Z M env h σ' H' ∧ Iv Z M H' ∧ GotS X.K C X.pn Z W M H' (forGo T m (items.drop (i + 1)) env h) D', fun σ' H' q => ⟨items.length - (i + 1), by omega, rfl, q.1, q.2⟩, fun x H' hy => ?_⟩
      obtain ⟨ev3, sh3, r3⟩ := it.yld i Z M2 h2 H2 x H' _ iv2 s2.sh hy (List.getElem?_eq_getElem hlt)
      have iv3 := it.mono Z M2 H2 M2 H' iv2 ev3
      refine ⟨Z, M2, env2, h2, items[i], s2.later ev3 sh3, r3, ?_⟩
      rw [List.drop_eq_getElem_cons hlt] at g2
      have g2 : GotS X.K C X.pn Z W M2 H' (match T env2 items[i] with
        | some env1 => (match m env1 h2 with
          | .nx env2 h2 => forGo T m (items.drop (i + 1)) env2 h2
          | .ct env2 h2 => forGo T m (items.drop (i + 1)) env2 h2
          | .br env2 h2 => .nx env2 h2
          | r => r)
        | none => .bad) D' := GotS.later ev3 g2
      cases et : T env2 items[i] with
      | none => rw [et] at g2; exact g2
      | some env3 =>
        rw [et] at g2
        intro σ3 s3 l3 k3
        refine ⟨Z, M2, env3, h2, s3, ?_⟩
        dsimp only at g2
        cases em : m env3 h2 with
        | nx env4 h4 => rw [em] at g2; exact fun M4 σ4 H4 ev4 s4 => ⟨hlt, M4, env4, h4, s4, it.mono _ _ _ _ _ iv3 ev4, GotS.later ev4 g2⟩
        | ct env4 h4 => rw [em] at g2; exact fun M4 σ4 H4 ev4 s4 => ⟨hlt, M4, env4, h4, s4, it.mono _ _ _ _ _ iv3 ev4, GotS.later ev4 g2⟩
        | br env4 h4 => rw [em] at g2; exact g2
        | rt d h4 => rw [em] at g2; exact g2
        | exc c ns ds env4 h4 => rw [em] at g2; exact g2
        | bad => rw [em] at g2; exact g2
    · have ei : i = items.length := Nat.le_antisymm hle (Nat.le_of_not_lt hlt)
      subst ei
      rw [List.drop_length] at g2
      exact .inl ⟨it.stop Z M2 H2 iv2, g2 M2 σ2 H2 (.refl M2 H2) s2⟩

/-! ### list comprehensions, one clause -/
def R.noexc {α : Type} (r : R α) : R α := match r with
  | .exc _ _ _ _ => .bad
  | r => r
def wipeE (env : List Sl) : List Nat → List Sl
  | [] => env
  | v :: vs => (wipeE env vs).set v .u
def lcGo (T : Asg) (tt : MT) (te : ME) (env : List Sl) : List D → List D → List D → R (List D)
  | [], acc, h => .ok acc h
  | x :: xs, acc, h => match T env x with
    | some env1 => (tt env1 h).noexc.bind fun b h1 => match b with
      | true => (te env1 h1).noexc.bind fun d h2 => bif decide (acc.length < sizeLine) then lcGo T tt te env xs (acc ++ [d]) h2 else .bad
      | false => lcGo T tt te env xs acc h1
    | none => .bad
def aLc (src : MA) (T : Asg) (tt : MT) (te : ME) (vs : List Nat) : MA := fun env h => (src env h).bind fun items h1 => bif noX env then lcGo T tt te (wipeE env vs) items [] h1 else .bad
def cLc (src : MA) (T : Asg) (tt : MT) (te : ME) (vs : List Nat) : ME := fun env h => (aLc src T tt te vs env h).bind fun ds h1 => .ok (.lst ds) h1
def cLcN (src : MA) (T : Asg) (tt : MT) (te : ME) (vs : List Nat) : ME := fun env h => (aLc src T tt te vs env h).bind fun ds h1 => .ok (.loc h1.length) (h1 ++ [.lst ds])
def mYes : MT := fun _ h => .ok true h
def STs (C : List (V × D)) (X : Cx) (W : WX) (ifs : List Expr) (m : MT) : Prop := PTs X ifs (tT X.K C X.pn W m)
theorem PTs.weak {X : Cx} {ifs : List Expr} {t t' : TT} (p : PTs X ifs t) (h : ∀ σ H Q, t' σ H Q → t σ H Q) : PTs X ifs t' := ⟨fun pins s σ H Q I q => p.run pins s σ H Q I (h σ H Q q)⟩
theorem sts_nil {C : List (V × D)} {X : Cx} {W : WX} : STs C X W [] mYes := PTs.weak pts_nil fun σ H Q ⟨Z, M, env, h, s, g⟩ => Got.now g s
theorem sts_one {C : List (V × D)} {X : Cx} {W : WX} {c : Expr} {m : MT} (h : ST C X W c m) : STs C X W [c] m := pts_one h
section
variable {K : PySem.W.Frag} {C : List (V × D)} {pn pn' : List (Addr × Obj)} {Z Z' : Addr → Prop} {M : List Addr} {H : Hp} {env : List Sl} {h : List D} {σ : L2.St}
theorem wipe_eq {σ σ' : L2.St} (l : σ'.length = σ.length) {vs ts : List Nat} (k : ∀ j, j ∉ ts → σ'[j]? = (wipe σ vs)[j]?) (sub : ∀ j ∈ ts, j ∈ vs) : wipe σ' vs = wipe σ vs := by
  have self : ∀ (σ : L2.St) (vs : List Nat) (j : Nat), j ∈ vs → (wipe σ vs)[j]? = if j < σ.length then some none else none := by
    intro σ vs
    induction vs with
    | nil => intro j hj; cases hj
    | cons v vs ih =>
      intro j hj
      show ((wipe σ vs).set v none)[j]? = _
      by_cases e : v = j
      · subst e
        rw [List.getElem?_set, if_pos rfl, wipe_length]
      · rw [List.getElem?_set_ne e]
        rcases List.mem_cons.mp hj with z | z
        · exact absurd z.symm e
        · exact ih j z
  apply List.ext_getElem?
  intro j
  by_cases hj : j ∈ vs
  · rw [self σ' vs j hj, self σ vs j hj, l]
  · rw [wipe_out hj]
    exact k j fun z => hj (sub j z)
theorem wipeE_length (env : List Sl) : ∀ vs : List Nat, (wipeE env vs).length = env.length
  | [] => rfl
  | v :: vs => by unfold wipeE; rw [List.length_set, wipeE_length env vs]
theorem SR.unslot {i : Nat} (s : SR K C pn Z M env h σ H) : SR K C pn Z M (env.set i .u) h (σ.set i none) H := by
  refine ⟨s.sh, fun j d hd' => ?_, fun j c ns ds hd' => ?_, by simp [s.len]⟩
  · rw [List.getElem?_set] at hd'
    by_cases e : i = j
    · subst e
      rw [if_pos rfl] at hd'
      split at hd' <;> cases hd'
    · rw [if_neg e] at hd'
      obtain ⟨v, h1, h2⟩ := s.slots j d hd'
      exact ⟨v, by rw [List.getElem?_set_ne e]; exact h1, h2⟩
  · rw [List.getElem?_set] at hd'
    by_cases e : i = j
    · subst e
      rw [if_pos rfl] at hd'
      split at hd' <;> cases hd'
    · rw [if_neg e] at hd'
      obtain ⟨a, dx, h1, h2⟩ := s.exc j c ns ds hd'
      exact ⟨a, dx, by rw [List.getElem?_set_ne e]; exact h1, h2⟩
theorem SR.wiped (s : SR K C pn Z M env h σ H) : ∀ vs : List Nat, SR K C pn Z M (wipeE env vs) h (wipe σ vs) H
  | [] => s
  | v :: vs => (SR.wiped s vs).unslot
theorem Sh.sub (s : Sh K C Z M h H) (k : ∀ a, Z a → H a ≠ none → Z' a) (all : ∀ p, H p = none → Z' p) : Sh K C Z' M h H := by
  refine ⟨all, fun a m => ?_, fun p hp => ⟨(s.cst p hp).1, (s.cst p hp).2.sub k⟩, s.nd, s.len, fun i a d h1 h2 => ?_⟩
  · obtain ⟨o, ho, _⟩ := s.at m
    exact k a (s.mz a m) (by rw [ho]; simp)
  · have c := s.cel i a d h1 h2
    cases d with
    | lst xs => obtain ⟨vs, q, r⟩ := c; exact ⟨vs, q, r.sub k⟩
    | dic ks ds => obtain ⟨vs, q, e, r⟩ := c; exact ⟨vs, q, e, r.sub k⟩
    | obj c' ns ds => obtain ⟨dx, vs, q, e, r⟩ := c; exact ⟨dx, vs, q, e, r.sub k⟩
    | lck ks ds => obtain ⟨vs, olk, q, e, r⟩ := c; exact ⟨vs, olk, q, e, r.sub k⟩
    | _ => exact False.elim c
theorem SR.sub (s : SR K C pn Z M env h σ H) (k : ∀ a, Z a → H a ≠ none → Z' a) (all : ∀ p, H p = none → Z' p) : SR K C pn Z' M env h σ H :=
  ⟨s.sh.sub k all, fun i d hd => by obtain ⟨v, h1, h2⟩ := s.slots i d hd; exact ⟨v, h1, h2.sub k⟩, fun i c ns ds hd => by
    obtain ⟨a, dx, h1, h2, fs, h3, h4, h5, h6⟩ := s.exc i c ns ds hd
    exact ⟨a, dx, h1, h2, fs, h3, h4, h5, h6.sub k⟩, s.len⟩
end
/-- the new list becomes a mutable object -/
theorem lcN_fin {C : List (V × D)} {X : Cx} {W : WX} {Q : VK} {σ : L2.St} {H H' : Hp} {Z : Addr → Prop} {M M' : List Addr} {env : List Sl} {h h' ds : List D} {us : List V} {p : Addr} (s : SR X.K C X.pn Z M env h σ H) (ev : Evo M H M' H') (hp0 : H p = none) (zp : Z p) (so : SR X.K C X.pn (fun a => Z a ∧ a ≠ p) M' env h' σ H')
    (hp : H' p = some (.lst us)) (rs : Reps X.K (zn (fun a => Z a ∧ a ≠ p) M') M' H' ds us) (g : Got X.K C X.pn Z W σ env M H (.ok (.loc h'.length) (h' ++ [.lst ds])) fun M' H' d => ∀ v, Rep X.K (zn Z M') M' H' d v → Q v H') : Q (.ref p) H' := by
  have np : p ∉ M' := fun m => (so.sh.mz p m).2 rfl
  have cv : ∀ {d : D} {v : V}, Rep X.K (zn (fun a => Z a ∧ a ≠ p) M') M' H' d v → Rep X.K (zn Z (M' ++ [p])) (M' ++ [p]) H' d v := fun {d v} r => by
    have zz : ∀ {a : Addr}, zn (fun a => Z a ∧ a ≠ p) M' a → zn Z (M' ++ [p]) a := fun {a} z => ⟨z.1.1, fun m => by
      rcases List.mem_append.mp m with m | m
      · exact z.2 m
      · rw [List.mem_singleton] at m; exact z.1.2 m⟩
    induction r with
    | non => exact .non
    | bl b => exact .bl b
    | int i => exact .int i
    | str x => exact .str x
    | tup z h l _ ih => exact .tup (zz z) h l ih
    | lst z h l _ ih => exact .lst (zz z) h l ih
    | dic z h e l _ ih => exact .dic (zz z) h e l ih
    | obj z h e l _ ih => exact .obj (zz z) h e l ih
    | loc h => exact .loc (by rw [List.getElem?_append_left (List.getElem?_eq_some_iff.mp h).1]; exact h)
    | scr s => exact .scr s
    | cls => exact .cls
  have cvs : ∀ {ds : List D} {vs : List V}, Reps X.K (zn (fun a => Z a ∧ a ≠ p) M') M' H' ds vs → Reps X.K (zn Z (M' ++ [p])) (M' ++ [p]) H' ds vs := fun {ds vs} r => ⟨r.1, fun i d v a b => cv (r.2 i d v a b)⟩
  refine g (M' ++ [p]) H' ?_ ?_ _ (newLoc so.sh)
  · obtain ⟨⟨t, et⟩, n, k, f⟩ := ev
    refine ⟨⟨t ++ [p], by rw [et, List.append_assoc]⟩, fun a m nm => ?_, k, f⟩
    rcases List.mem_append.mp m with m | m
    · exact n a m nm
    · rw [List.mem_singleton] at m; rw [m]; exact hp0
  · refine ⟨⟨fun q hq => (so.sh.all q hq).1, fun a m => ?_, fun q hq => ⟨(so.sh.cst q hq).1, cv (so.sh.cst q hq).2⟩, ?_, by simp [so.sh.len], fun i a d a1 a2 => ?_⟩, fun i d hd => ?_, fun i c ns es hd => ?_, so.len⟩
    · rcases List.mem_append.mp m with m | m
      · exact (so.sh.mz a m).1
      · rw [List.mem_singleton] at m; rw [m]; exact zp
    · exact List.nodup_append.mpr ⟨so.sh.nd, List.nodup_cons.mpr ⟨List.not_mem_nil, List.nodup_nil⟩, fun a m b m' z => by
        rw [List.mem_singleton] at m'
        rw [z, m'] at m
        exact np m⟩
    · by_cases hi : i < M'.length
      · rw [List.getElem?_append_left hi] at a1
        rw [List.getElem?_append_left (so.sh.len ▸ hi)] at a2
        have c := so.sh.cel i a d a1 a2
        cases d with
        | lst xs => obtain ⟨vs, q, r⟩ := c; exact ⟨vs, q, cvs r⟩
        | dic ks ds => obtain ⟨vs, q, e, r⟩ := c; exact ⟨vs, q, e, cvs r⟩
        | obj c' ns ds => obtain ⟨dx, vs, q, e, r⟩ := c; exact ⟨dx, vs, q, e, cvs r⟩
        | lck ks ds => obtain ⟨vs, olk, q, e, r⟩ := c; exact ⟨vs, olk, q, e, cvs r⟩
        | _ => exact False.elim c
      · have hi := Nat.le_of_not_lt hi
        rw [List.getElem?_append_right hi] at a1
        rw [List.getElem?_append_right (so.sh.len ▸ hi)] at a2
        rw [← so.sh.len] at a2
        cases hk : i - M'.length with
        | zero => rw [hk] at a1 a2; simp at a1 a2; subst a1; subst a2; exact ⟨us, hp, cvs rs⟩
        | succ k => rw [hk] at a1; simp at a1
    · obtain ⟨v, b1, b2⟩ := so.slots i d hd
      exact ⟨v, b1, cv b2⟩
    · obtain ⟨a, dx, b1, b2, fs, b3, b4, b5, b6⟩ := so.exc i c ns es hd
      refine ⟨a, dx, b1, b2, fs, b3, fun m => ?_, b5, cvs b6⟩
      rcases List.mem_append.mp m with m | m
      · exact b4 m
      · rw [List.mem_singleton] at m; rw [m, hp] at b3; cases b3
/-- the walk of a comprehension -/
theorem lc_ok {C : List (V × D)} {X : Cx} {W : WX} {src : MA} {T : Asg} {ts vs : List Nat} {tt : MT} {te : ME} {K : PySem.W.Frag} (sub : ∀ j ∈ ts, j ∈ vs) {Q : VK} {σ : L2.St} {H : Hp} {Z : Addr → Prop} {M : List Addr} {env : List Sl} {h : List D} {α : Type} {f : List D → List D → R α} {G : List Addr → Hp → α → Prop}
    (s : SR X.K C X.pn Z M env h σ H) (g : Got X.K C X.pn Z W σ env M H ((aLc src T tt te vs env h).bind f) G)
    (fin : ∀ M' H' h' ds us p, Evo M H M' H' → H p = none → Z p → SR X.K C X.pn (fun a => Z a ∧ a ≠ p) M' env h' σ H' → H' p = some (.lst us) → Reps X.K (zn (fun a => Z a ∧ a ≠ p) M') M' H' ds us → Got X.K C X.pn Z W σ env M H (f ds h') G → Q (.ref p) H') :
    tLc (tI X.K C X.pn W src) (tG X.K C [] T ts) (tT X.K C [] (fun _ _ _ _ => False) tt) (tE X.K C [] (fun _ _ _ _ => False) te) vs σ H Q := by
  refine ⟨Z, M, env, h, s, ?_⟩
  unfold aLc at g
  cases e : src env h with
  | bad => rw [e] at g; exact g
  | exc c ns ds h1 => rw [e] at g; exact g
  | ok items h1 =>
    rw [e] at g
    dsimp only [R.bind_ok] at g
    cases hx : noX env with
    | false => rw [hx] at g; exact False.elim g
    | true =>
      rw [hx] at g
      have g : Got X.K C X.pn Z W σ env M H ((lcGo T tt te (wipeE env vs) items [] h1).bind f) G := g
      intro M1 H1 ev s1 J Iv it iv p hp
      have zp := s1.sh.all p hp
      have np := s1.sh.out hp
      -- the zone without the new list
      have k0 : ∀ a, Z a → H1 a ≠ none → (Z a ∧ a ≠ p) := fun a z n => ⟨z, fun e => n (e ▸ hp)⟩
      have inv0 : ∀ {H' : Hp} {us : List V}, True := fun {_ _} => trivial
      refine ⟨fun i k H' => k = items.length - i ∧ i ≤ items.length ∧ ∃ M' h' acc us, Evo M1 H1 M' H' ∧ Sh X.K C (fun a => Z a ∧ a ≠ p) M' h' H' ∧ Iv (fun a => Z a ∧ a ≠ p) M' H' ∧ H' p = some (.lst us) ∧ Reps X.K (zn (fun a => Z a ∧ a ≠ p) M') M' H' acc us ∧
        SR X.K C [] (fun a => Z a ∧ a ≠ p) M' (wipeE env vs) h' (wipe σ vs) H' ∧ SR X.K C X.pn (fun a => Z a ∧ a ≠ p) M' env h' σ H' ∧ Got X.K C X.pn Z W σ env M H ((lcGo T tt te (wipeE env vs) (items.drop i) acc h').bind f) G, ?_, ?_⟩
      · have all' : ∀ q, upd H1 p (.lst []) q = none → (Z q ∧ q ≠ p) := fun q hq => by
          have hqp : q ≠ p := fun z => by rw [z, upd_same] at hq; cases hq
          rw [upd_ne hqp] at hq
          exact ⟨s1.sh.all q hq, hqp⟩
        have k1 : ∀ a, (Z a ∧ a ≠ p) ∨ (Z a ∧ H1 a ≠ none) → (Z a ∧ a ≠ p) := fun a q => q.elim (fun x => x) fun x => k0 a x.1 x.2
        -- first narrow the zone at H1, then lay
        have ev1 : Evo M1 H1 M1 (upd H1 p (.lst [])) := Evo.laid hp
        have cellsNarrow : SR X.K C X.pn (fun a => Z a ∧ a ≠ p) M1 env h1 σ (upd H1 p (.lst [])) := by
          have sl := s1.later ev1 (s1.sh.laid (o := .lst []) hp)
          -- Rep's of sl come from H1 by mono, so none of them stands at p; do it by hand
          have rr : ∀ {d : D} {v : V}, Rep X.K (zn Z M1) M1 H1 d v → Rep X.K (zn (fun a => Z a ∧ a ≠ p) M1) M1 (upd H1 p (.lst [])) d v := fun {d v} r => (r.sub k0).mono ev1
          refine ⟨⟨all', fun a m => ⟨s1.sh.mz a m, fun z => np (z ▸ m)⟩, fun q hq => ⟨(s1.sh.cst q hq).1, rr (s1.sh.cst q hq).2⟩, s1.sh.nd, s1.sh.len, fun i a d a1 a2 => ?_⟩, fun i d hd => ?_, fun i c ns ds hd => (noX_get hx hd).elim, s1.len⟩
          · have c := s1.sh.cel i a d a1 a2
            have na : a ≠ p := fun z => np (z ▸ List.mem_of_getElem? a1)
            cases d with
            | lst xs => obtain ⟨us, q, r⟩ := c; exact ⟨us, by rw [upd_ne na]; exact q, r.1, fun i d v b1 b2 => rr (r.2 i d v b1 b2)⟩
            | dic ks ds => obtain ⟨us, q, e, r⟩ := c; exact ⟨us, by rw [upd_ne na]; exact q, e, r.1, fun i d v b1 b2 => rr (r.2 i d v b1 b2)⟩
            | obj c' ns ds => obtain ⟨dx, us, q, e, r⟩ := c; exact ⟨dx, us, by rw [upd_ne na]; exact q, e, r.1, fun i d v b1 b2 => rr (r.2 i d v b1 b2)⟩
            | lck ks ds => obtain ⟨us, olk, q, e, r⟩ := c; exact ⟨us, olk, by rw [upd_ne na]; exact q, e, r.1, fun i d v b1 b2 => rr (r.2 i d v b1 b2)⟩
            | _ => exact False.elim c
          · obtain ⟨v, b1, b2⟩ := s1.slots i d hd
            exact ⟨v, b1, rr b2⟩
        refine ⟨_, rfl, Nat.zero_le _, M1, h1, [], [], ev1, cellsNarrow.sh, it.mono _ _ _ _ _ (it.zone Z _ M1 H1 iv k0) ev1, upd_same, Reps.nil, (cellsNarrow.pin hx).wiped vs, cellsNarrow, g⟩
      · rintro i k H2 ⟨rfl, hle, M2, h2, acc, us, ev2, sh2, iv2, hp2, ra2, sw2, so2, g2⟩
        by_cases hlt : i < items.length
        · refine .inr ⟨it.go i _ M2 H2 hlt iv2, fun H' => i + 1 ≤ items.length ∧ ∃ M' h' acc us, Evo M1 H1 M' H' ∧ Sh X.K C (fun a => Z a ∧ a ≠ p) M' h' H' ∧ Iv (fun a => Z a ∧ a ≠ p) M' H' ∧ H' p = some (.lst us) ∧ Reps X.K (zn (fun a => Z a ∧ a ≠ p) M') M' H' acc us ∧
            SR X.K C [] (fun a => Z a ∧ a ≠ p) M' (wipeE env vs) h' (wipe σ vs) H' ∧ SR X.K C X.pn (fun a => Z a ∧ a ≠ p) M' env h' σ H' ∧ Got X.K C X.pn Z W σ env M H ((lcGo T tt te (wipeE env vs) (items.drop (i + 1)) acc h').bind f) G, fun H' q => ⟨items.length - (i + 1), by omega, rfl, q.1, q.2⟩, fun x H3 hy => ?_⟩
          obtain ⟨ev3, sh3, r3⟩ := it.yld i _ M2 h2 H2 x H3 _ iv2 sh2 hy (List.getElem?_eq_getElem hlt)
          have iv3 := it.mono _ M2 H2 M2 H3 iv2 ev3
          have sw3 := sw2.later ev3 sh3
          refine ⟨_, M2, wipeE env vs, h2, items[i], sw3, r3, ?_⟩
          rw [List.drop_eq_getElem_cons hlt] at g2
          unfold lcGo at g2
          cases et : T (wipeE env vs) items[i] with
          | none => rw [et] at g2; exact g2
          | some env3 =>
            rw [et] at g2
            dsimp only at g2
            intro σ3 s3 l3 k3
            refine ⟨wipe_eq (by rw [l3, wipe_length]) k3 sub, ?_⟩
            refine ⟨_, M2, env3, h2, s3, ?_⟩
            cases eb : tt env3 h2 with
            | bad => rw [eb] at g2; exact g2
            | exc c ns ds h4 => rw [eb] at g2; exact False.elim g2
            | ok b h4 =>
              rw [eb] at g2
              intro M4 H4 ev4 s4
              have np4 : p ∉ M4 := fun m => by
                have q := ev4.new p m (fun m2 => by
                  obtain ⟨z, zz⟩ := sh2.mz p m2
                  exact zz rfl)
                have hp3 := ev3.keep p _ hp2 (fun m2 => (sh2.mz p m2).2 rfl)
                rw [hp3] at q; cases q
              have e24 := ev3.trans ev4
              have hp4 : H4 p = some (.lst us) := e24.keep p _ hp2 (fun m2 => (sh2.mz p m2).2 rfl)
              cases b with
              | false =>
                show _ ∧ _
                exact ⟨hlt, M4, h4, acc, us, ev2.trans e24, s4.sh, it.mono _ _ _ _ _ iv3 ev4, hp4, ra2.mono e24, sw2.later e24 s4.sh, so2.later e24 s4.sh, g2⟩
              | true =>
                show tE X.K C [] (fun _ _ _ _ => False) te σ3 H4 _
                refine ⟨_, M4, env3, h4, s4, ?_⟩
                have g2 : Got X.K C X.pn Z W σ env M H (((te env3 h4).noexc.bind fun d h2 => bif decide (acc.length < sizeLine) then lcGo T tt te (wipeE env vs) (items.drop (i + 1)) (acc ++ [d]) h2 else .bad).bind f) G := g2
                cases ed : te env3 h4 with
                | bad => rw [ed] at g2; exact g2
                | exc c ns ds h5 => rw [ed] at g2; exact False.elim g2
                | ok d h5 =>
                  rw [ed] at g2
                  intro M5 H5 ev5 s5 y ry
                  have g2 : Got X.K C X.pn Z W σ env M H ((bif decide (acc.length < sizeLine) then lcGo T tt te (wipeE env vs) (items.drop (i + 1)) (acc ++ [d]) h5 else .bad).bind f) G := g2
                  cases hl : decide (acc.length < sizeLine) with
                  | false => rw [hl] at g2; exact False.elim g2
                  | true =>
                    rw [hl] at g2
                    have e25 := e24.trans ev5
                    have hp5 : H5 p = some (.lst us) := ev5.keep p _ hp4 np4
                    have np5 : p ∉ M5 := fun m => by
                      have q := ev5.new p m np4
                      rw [hp4] at q; cases q
                    refine ⟨us, hp5, by rw [← ra2.1]; exact of_decide_eq_true hl, hlt, M5, h5, acc ++ [d], us ++ [y], ?_⟩
                    -- the write at p
                    have nz : ¬ (fun a => Z a ∧ a ≠ p) p := fun z => z.2 rfl
                    have stay : ∀ {d : D} {v : V}, Rep X.K (zn (fun a => Z a ∧ a ≠ p) M5) M5 H5 d v → Rep X.K (zn (fun a => Z a ∧ a ≠ p) M5) M5 (upd H5 p (.lst (us ++ [y]))) d v := fun {d v} r => r.poke nz hp5
                    have stays : ∀ {ds : List D} {vs : List V}, Reps X.K (zn (fun a => Z a ∧ a ≠ p) M5) M5 H5 ds vs → Reps X.K (zn (fun a => Z a ∧ a ≠ p) M5) M5 (upd H5 p (.lst (us ++ [y]))) ds vs := fun {ds vs} r => ⟨r.1, fun i d v b1 b2 => stay (r.2 i d v b1 b2)⟩
                    have sh6 : Sh X.K C (fun a => Z a ∧ a ≠ p) M5 h5 (upd H5 p (.lst (us ++ [y]))) := by
                      refine ⟨fun q hq => s5.sh.all q ?_, s5.sh.mz, fun q hq => ⟨(s5.sh.cst q hq).1, stay (s5.sh.cst q hq).2⟩, s5.sh.nd, s5.sh.len, fun i a d a1 a2 => ?_⟩
                      · by_cases z : q = p
                        · rw [z, upd_same] at hq; cases hq
                        · rw [upd_ne z] at hq; exact hq
                      · have c := s5.sh.cel i a d a1 a2
                        have na : a ≠ p := fun z => np5 (z ▸ List.mem_of_getElem? a1)
                        cases d with
                        | lst xs => obtain ⟨vs, q, r⟩ := c; exact ⟨vs, by rw [upd_ne na]; exact q, stays r⟩
                        | dic ks ds => obtain ⟨vs, q, e, r⟩ := c; exact ⟨vs, by rw [upd_ne na]; exact q, e, stays r⟩
                        | obj c' ns ds => obtain ⟨dx, vs, q, e, r⟩ := c; exact ⟨dx, vs, by rw [upd_ne na]; exact q, e, stays r⟩
                        | lck ks ds => obtain ⟨vs, olk, q, e, r⟩ := c; exact ⟨vs, olk, by rw [upd_ne na]; exact q, e, stays r⟩
                        | _ => exact False.elim c
                    have iv5 := it.mono _ _ _ _ _ iv3 (ev4.trans ev5)
                    have e15 : Evo M1 H1 M5 (upd H5 p (.lst (us ++ [y]))) := by
                      have q := ev2.trans e25
                      exact ⟨q.pre, q.new, fun a o ha n => by rw [upd_ne (ne_of_none ha hp)]; exact q.keep a o ha n, fun a o u ha => by rw [upd_ne (ne_of_none ha hp)]; exact q.fz a o u ha⟩
                    have wrote : ∀ {pn : List (Addr × Obj)} {env' : List Sl} {σ' : L2.St} {h' : List D}, noX env' = true → SR X.K C pn (fun a => Z a ∧ a ≠ p) M5 env' h5 σ' H5 → SR X.K C pn (fun a => Z a ∧ a ≠ p) M5 env' h5 σ' (upd H5 p (.lst (us ++ [y]))) := fun {pn env' σ' h'} nx s => ⟨sh6, fun i d hd => by obtain ⟨v, b1, b2⟩ := s.slots i d hd; exact ⟨v, b1, stay b2⟩, fun i c ns ds hd => (noX_get nx hd).elim, s.len⟩
                    have nw : noX (wipeE env vs) = true := by
                      clear g2 g it iv iv2 iv3 iv5 sw2 sw3 so2
                      have : ∀ vs : List Nat, noX (wipeE env vs) = true := fun vs => by
                        induction vs with
                        | nil => exact hx
                        | cons v vs ih =>
                          unfold wipeE noX
                          rw [List.all_eq_true]
                          intro x hx'
                          rcases List.mem_or_eq_of_mem_set hx' with q | q
                          · exact List.all_eq_true.mp ih x q
                          · subst q; rfl
                      exact this vs
                    have ivW : Iv (fun a => Z a ∧ a ≠ p) M5 (upd H5 p (.lst (us ++ [y]))) := it.poke _ _ _ _ _ _ iv5 nz hp5
                    exact ⟨e15, sh6, ivW, upd_same, (stays ((ra2.mono e25).append (Reps.cons ry Reps.nil))), wrote (h' := h5) nw (sw2.later e25 s5.sh), wrote (h' := h5) hx (so2.later e25 s5.sh), g2⟩
        · have ei : i = items.length := Nat.le_antisymm hle (Nat.le_of_not_lt hlt)
          subst ei
          rw [List.drop_length] at g2
          have hp0 : H p = none := by
            cases e0 : H p with
            | none => rfl
            | some o =>
              by_cases m : p ∈ M
              · exact absurd (by obtain ⟨⟨t, et⟩, _, _, _⟩ := ev; rw [et]; exact List.mem_append_left _ m) np
              · have := ev.keep p o e0 m
                rw [hp] at this; cases this
          exact .inl ⟨it.stop _ M2 H2 iv2, fin M2 H2 h2 acc us p (ev.trans ev2) hp0 zp so2 hp2 ra2 g2⟩
theorem se_lc {C : List (V × D)} {X : Cx} {W : WX} {elt tg iter : Expr} {ifs : List Expr} {scope : Scope} {own : List (Str × Nat)} {pos : Pos} {src : MA} {T : Asg} {ts : List Nat} {tt : MT} {te : ME} (hc : X.calm = true) (hN : X.N.Nodup) (hi : SI C X W tg iter src) (ok : BlkOk X.N X.env.scope scope own)
    (hg : ∀ (s : Shared) (H : Hp) (Ca : Addr) (cl : List (Str × Addr)) (fp : List Addr), SG C (X.blk s H scope (compEnvC scope cl Ca X.env) fp) tg T ts)
    (ht : ∀ (s : Shared) (H : Hp) (Ca : Addr) (cl : List (Str × Addr)) (fp : List Addr), STs C (X.blk s H scope (compEnvC scope cl Ca X.env) fp) (fun _ _ _ _ => False) ifs tt)
    (he : ∀ (s : Shared) (H : Hp) (Ca : Addr) (cl : List (Str × Addr)) (fp : List Addr), SE C (X.blk s H scope (compEnvC scope cl Ca X.env) fp) (fun _ _ _ _ => False) elt te)
    (sub : ∀ j ∈ ts, j ∈ own.map (·.2)) (hs : ∀ x, foldedSetIterable iter X.env x = pure x := by intro _; rfl) : SE C X W (.ListComp elt [⟨tg, iter, ifs, 0⟩] scope pos) (cLc src T tt te (own.map (·.2))) := by
  refine PE.weak (pe_lc (g := tG X.K C [] T ts) (tt := tT X.K C [] (fun _ _ _ _ => False) tt) (te := tE X.K C [] (fun _ _ _ _ => False) te) hc hN hi ok hg ht he hs) fun σ H Q ⟨Z, M, env, h, s, g⟩ => ?_
  refine lc_ok (K := X.K) sub s g fun M' H' h' ds us p ev hp0 zp so hp rs g' => ?_
  have np : p ∉ M' := fun m => (so.sh.mz p m).2 rfl
  have back : ∀ a, (Z a ∧ a ≠ p) → H' a ≠ none → Z a := fun a z _ => z.1
  refine g' M' H' ev (so.sub back fun q hq => (so.sh.all q hq).1) _ ?_
  have r := rs.sub back
  exact .lst ⟨zp, np⟩ hp r.1 r.2
theorem se_lcN {C : List (V × D)} {X : Cx} {W : WX} {elt tg iter : Expr} {ifs : List Expr} {scope : Scope} {own : List (Str × Nat)} {pos : Pos} {src : MA} {T : Asg} {ts : List Nat} {tt : MT} {te : ME} (hc : X.calm = true) (hN : X.N.Nodup) (hi : SI C X W tg iter src) (ok : BlkOk X.N X.env.scope scope own)
    (hg : ∀ (s : Shared) (H : Hp) (Ca : Addr) (cl : List (Str × Addr)) (fp : List Addr), SG C (X.blk s H scope (compEnvC scope cl Ca X.env) fp) tg T ts)
    (ht : ∀ (s : Shared) (H : Hp) (Ca : Addr) (cl : List (Str × Addr)) (fp : List Addr), STs C (X.blk s H scope (compEnvC scope cl Ca X.env) fp) (fun _ _ _ _ => False) ifs tt)
    (he : ∀ (s : Shared) (H : Hp) (Ca : Addr) (cl : List (Str × Addr)) (fp : List Addr), SE C (X.blk s H scope (compEnvC scope cl Ca X.env) fp) (fun _ _ _ _ => False) elt te)
    (sub : ∀ j ∈ ts, j ∈ own.map (·.2)) (hs : ∀ x, foldedSetIterable iter X.env x = pure x := by intro _; rfl) : SE C X W (.ListComp elt [⟨tg, iter, ifs, 0⟩] scope pos) (cLcN src T tt te (own.map (·.2))) := by
  refine PE.weak (pe_lc (g := tG X.K C [] T ts) (tt := tT X.K C [] (fun _ _ _ _ => False) tt) (te := tE X.K C [] (fun _ _ _ _ => False) te) hc hN hi ok hg ht he hs) fun σ H Q ⟨Z, M, env, h, s, g⟩ => ?_
  exact lc_ok (K := X.K) sub s g fun M' H' h' ds us p ev hp0 zp so hp rs g' => lcN_fin s ev hp0 zp so hp rs g'
end G

set_option Elab.async false
set_option linter.all false
set_option maxRecDepth 100000
set_option maxHeartbeats 4000000
/-! G8: operators, subscripts, built-in functions, by data. -/
namespace G
open PySem PySem.Spec PyProof.Rows L2

section
variable {K : PySem.W.Frag} {C : List (V × D)} {pn : List (Addr × Obj)} {Z : Addr → Prop} {W : WX} {σ : L2.St} {env : List Sl} {M : List Addr} {H : Hp} {h : List D} {Q : VK} {d : D} {v : V}
/-- a new object that never changes -/
theorem Got.laid {p : Addr} {o : HO} (g : Got K C pn Z W σ env M H (.ok d h) (fun M' H' d => ∀ v, Rep K (zn Z M') M' H' d v → Q v H')) (s : SR K C pn Z M env h σ H) (hp : H p = none) (r : Rep K (zn Z M) M (upd H p o) d v) : Q v (upd H p o) :=
  g M _ (Evo.laid hp) (s.later (Evo.laid hp) (s.sh.laid hp)) v r
/-- a write of a mutable object -/
theorem Got.wrote {n : Nat} {a : Addr} {o : HO} {c : D} {α : Type} {x : α} {G : List Addr → Hp → α → Prop} (g : Got K C pn Z W σ env M H (.ok x (h.set n c)) G) (s : SR K C pn Z M env h σ H) (hm : M[n]? = some a) (nf : ∀ u w, H a ≠ some (.frz u w)) (cl : Cel K (zn Z M) M (upd H a o) a c) : G M (upd H a o) x :=
  g M _ (s.sh.evw hm nf) (s.later (s.sh.evw hm nf) (s.sh.write hm nf cl))

/-! ### a list, a tuple, a dict, as it is in the state -/
def lstOf (h : List D) : D → Option (List D)
  | .lst xs => some xs
  | .scr ns => some (ns.map .int)
  | .loc n => match h[n]? with
    | some (.lst xs) => some xs
    | _ => none
  | _ => none
def tupOf : D → Option (List D)
  | .tup xs => some xs
  | _ => none
def dicOf (h : List D) : D → Option (List Key × List D)
  | .dic ks ds => some (ks, ds)
  | .loc n => match h[n]? with
    | some (.dic ks ds) => some (ks, ds)
    | some (.lck ks ds) => some (ks, ds)
    | _ => none
  | _ => none
theorem sqT_of {a : Addr} {vs : List V} (r : Rd H a (.tup vs)) : SqT K H a vs := by
  rcases r with r | ⟨o, r⟩
  · exact .inl (.inl r)
  · exact .inl (.inr ⟨o, r⟩)
theorem lstOf_rep (s : Sh K C Z M h H) {xs : List D} (e : lstOf h d = some xs) (r : Rep K (zn Z M) M H d v) : ∃ a vs, v = .ref a ∧ SqL K H a vs ∧ Reps K (zn Z M) M H xs vs := by
  cases r with
  | lst z ha l q => cases e; exact ⟨_, _, rfl, .inl (.inl ha), l, q⟩
  | scr c =>
    cases e
    refine ⟨_, _, rfl, scr_sq c, by simp, fun i d v h1 h2 => ?_⟩
    rw [List.getElem?_map] at h1 h2
    rename_i ns a
    cases hn : ns[i]? with
    | none => rw [hn] at h1; cases h1
    | some k => rw [hn] at h1 h2; cases h1; cases h2; exact .int k
  | loc hm =>
    rename_i n a
    unfold lstOf at e
    dsimp only at e
    cases hx : h[n]? with
    | none => rw [hx] at e; cases e
    | some c =>
      rw [hx] at e
      cases c with
      | lst ys =>
        cases e
        obtain ⟨vs, q, rs⟩ := s.cel n a _ hm hx
        exact ⟨a, vs, rfl, .inl (.inl q), rs⟩
      | _ => cases e
  | _ => cases e
theorem tupOf_rep {xs : List D} (e : tupOf d = some xs) (r : Rep K Z M H d v) : ∃ a vs, v = .ref a ∧ SqT K H a vs ∧ Reps K Z M H xs vs := by
  cases r with
  | tup z ha l q => cases e; exact ⟨_, _, rfl, sqT_of ha, l, q⟩
  | _ => cases e
theorem dicOf_rep (s : Sh K C Z M h H) {ks : List Key} {ds : List D} (e : dicOf h d = some (ks, ds)) (r : Rep K (zn Z M) M H d v) : ∃ a kvs, v = .ref a ∧ Rd H a (.dK kvs) ∧ kvs.map (·.1) = ks ∧ Reps K (zn Z M) M H ds (kvs.map (·.2)) := by
  cases r with
  | dic z ha k l q => cases e; exact ⟨_, _, rfl, ha, k, by rw [l, List.length_map], q⟩
  | loc hm =>
    rename_i n a
    unfold dicOf at e
    dsimp only at e
    cases hx : h[n]? with
    | none => rw [hx] at e; cases e
    | some c =>
      rw [hx] at e
      cases c with
      | dic ks' ds' =>
        cases e
        obtain ⟨kvs, q, k, rs⟩ := s.cel n a _ hm hx
        exact ⟨a, kvs, rfl, .inl q, k, rs⟩
      | lck ks' ds' =>
        cases e
        obtain ⟨kvs, o, q, k, rs⟩ := s.cel n a _ hm hx
        exact ⟨a, kvs, rfl, .inr ⟨o, q⟩, k, rs⟩
      | _ => cases e
  | _ => cases e
end

/-! ### ints -/
def oI (c : Int → Int → Bool) (g : Int → Int → D) : D → D → List D → R D := fun x y h => match x, y with
  | .int i, .int j => bif c i j then .ok (g i j) h else .bad
  | _, _ => .bad
section
variable {C : List (V × D)} {K : PySem.W.Frag}
theorem ok2_I {C' : Int → Int → Prop} {gv : Int → Int → V} {c : Int → Int → Bool} {g : Int → Int → D} (hc : ∀ i j, c i j = true → C' i j) (hg : ∀ i j Z M H, Rep K Z M H (g i j) (gv i j)) : Ok2 C K (rI C' gv) (oI c g) := by
  intro pn Z W σ env M H h x y v w Q s rx ry g'
  cases rx with
  | int i =>
    cases ry with
    | int j =>
      have g' : Got K C pn Z W σ env M H (bif c i j then .ok (g i j) h else .bad) _ := g'
      cases hb : c i j with
      | false => rw [hb] at g'; exact False.elim g'
      | true => rw [hb] at g'; exact ⟨i, j, rfl, rfl, hc i j hb, Got.now g' s _ (hg _ _ _ _ _)⟩
    | _ => exact False.elim g'
  | _ => exact False.elim g'
theorem ok2_I0 {gv : Int → Int → V} {g : Int → Int → D} (hg : ∀ i j Z M H, Rep K Z M H (g i j) (gv i j)) : Ok2 C K (rI0 gv) (oI (fun _ _ => true) g) := by
  intro pn Z W σ env M H h x y v w Q s rx ry g'
  obtain ⟨i, j, e1, e2, _, q⟩ := ok2_I (C := C) (C' := fun _ _ => True) (fun _ _ _ => trivial) hg pn Z W σ env M H h x y v w Q s rx ry g'
  exact ⟨i, j, e1, e2, q⟩
def oAdd := oI (fun _ _ => true) fun i j => .int (i + j)
def oSub := oI (fun _ _ => true) fun i j => .int (i - j)
def cMul (i j : Int) : Bool := (decide (-(2 ^ 64) < i) && decide (i < 2 ^ 64)) || (decide (-(2 ^ 64) < j) && decide (j < 2 ^ 64))
def oMul := oI cMul fun i j => .int (i * j)
def cDiv (i j : Int) : Bool := decide (0 < j) && decide (j < 1073741824)
def oDiv := oI cDiv fun i j => .int (i / j)
def oMod := oI (fun _ j => decide (0 < j)) fun i j => .int (i % j)
def cPow (i j : Int) : Bool := decide (0 ≤ j) && (decide (j ≤ 1000000) && decide (i.natAbs < 2 ^ 64))
def oPow := oI cPow fun i j => .int (i ^ j.toNat)
def oLt := oI (fun _ _ => true) fun i j => .bl (decide (i < j))
def oLe := oI (fun _ _ => true) fun i j => .bl (decide (i ≤ j))
def oGt := oI (fun _ _ => true) fun i j => .bl (decide (j < i))
def oGe := oI (fun _ _ => true) fun i j => .bl (decide (j ≤ i))
theorem k_add : Ok2 C K (rI0 fun i j => .int (i + j)) oAdd := ok2_I0 fun i j _ _ _ => .int _
theorem k_sub : Ok2 C K (rI0 fun i j => .int (i - j)) oSub := ok2_I0 fun i j _ _ _ => .int _
theorem k_mul : Ok2 C K (rI CMul fun i j => .int (i * j)) oMul := ok2_I (fun i j h => by
  simp only [cMul, Bool.or_eq_true, Bool.and_eq_true, decide_eq_true_eq] at h
  exact h) fun i j _ _ _ => .int _
theorem k_div : Ok2 C K (rI CDiv fun i j => .int (i / j)) oDiv := ok2_I (fun i j h => by
  simp only [cDiv, Bool.and_eq_true, decide_eq_true_eq] at h
  exact h) fun i j _ _ _ => .int _
theorem k_mod : Ok2 C K (rI (fun _ j => 0 < j) fun i j => .int (i % j)) oMod := ok2_I (fun i j h => of_decide_eq_true h) fun i j _ _ _ => .int _
theorem k_pow : Ok2 C K (rI CPow fun i j => .int (i ^ j.toNat)) oPow := ok2_I (fun i j h => by
  simp only [cPow, Bool.and_eq_true, decide_eq_true_eq] at h
  exact h) fun i j _ _ _ => .int _
theorem k_lt : Ok2 C K (rI0 fun i j => .bl (decide (i < j))) oLt := ok2_I0 fun i j _ _ _ => .bl _
theorem k_le : Ok2 C K (rI0 fun i j => .bl (decide (i ≤ j))) oLe := ok2_I0 fun i j _ _ _ => .bl _
theorem k_gt : Ok2 C K (rI0 fun i j => .bl (decide (j < i))) oGt := ok2_I0 fun i j _ _ _ => .bl _
theorem k_ge : Ok2 C K (rI0 fun i j => .bl (decide (j ≤ i))) oGe := ok2_I0 fun i j _ _ _ => .bl _
/-! ### texts, is None -/
def oCatS : D → D → List D → R D := fun x y h => match x, y with
  | .str a, .str b => bif decide (a.length + b.length ≤ sizeLine) then .ok (.str (a ++ b)) h else .bad
  | _, _ => .bad
def inS (i j : Str) : Bool := !(Builtin.Str.occurrences j i 0 j.length 1).isEmpty
def oInS (neg : Bool) : D → D → List D → R D := fun x y h => match x, y with
  | .str a, .str b => .ok (.bl (if neg then !inS a b else inS a b)) h
  | _, _ => .bad
theorem k_inS : Ok2 C K (fun x y H Q => ∃ i j, x = .str i ∧ y = .str j ∧ Q (.bl (!(Builtin.Str.occurrences j i 0 j.length 1).isEmpty)) H) (oInS false) := by
  intro pn Z W σ env M H h x y v w Q s rx ry g
  cases rx with
  | str a =>
    cases ry with
    | str b => exact ⟨a, b, rfl, rfl, Got.now g s _ (.bl _)⟩
    | _ => exact False.elim g
  | _ => exact False.elim g
theorem k_notInS : Ok2 C K (fun x y H Q => ∃ i j, x = .str i ∧ y = .str j ∧ Q (.bl (!(!(Builtin.Str.occurrences j i 0 j.length 1).isEmpty))) H) (oInS true) := by
  intro pn Z W σ env M H h x y v w Q s rx ry g
  cases rx with
  | str a =>
    cases ry with
    | str b => exact ⟨a, b, rfl, rfl, Got.now g s _ (.bl _)⟩
    | _ => exact False.elim g
  | _ => exact False.elim g
def D.isNon : D → Bool
  | .non => true
  | _ => false
theorem isNon_rep {Z : Addr → Prop} {M : List Addr} {H : Hp} {d : D} {v : V} (r : Rep K Z M H d v) : decide (v = .non) = d.isNon := by
  cases r with
  | non => rfl
  | _ => exact decide_eq_false (fun z => nomatch z)
def oIsN (neg : Bool) : D → D → List D → R D := fun x y h => match y with
  | .non => .ok (.bl (if neg then !x.isNon else x.isNon)) h
  | _ => .bad
theorem k_isN : Ok2 C K (fun x y H Q => y = .non ∧ Q (.bl (decide (x = .non))) H) (oIsN false) := by
  intro pn Z W σ env M H h x y v w Q s rx ry g
  cases ry with
  | non =>
    refine ⟨rfl, ?_⟩
    rw [isNon_rep rx]
    exact Got.now g s _ (.bl _)
  | _ => exact False.elim g
theorem k_notN : Ok2 C K (fun x y H Q => y = .non ∧ Q (.bl (!decide (x = .non))) H) (oIsN true) := by
  intro pn Z W σ env M H h x y v w Q s rx ry g
  cases ry with
  | non =>
    refine ⟨rfl, ?_⟩
    rw [isNon_rep rx]
    exact Got.now g s _ (.bl _)
  | _ => exact False.elim g

/-! ### == of data -/
mutual
def toPy : Nat → List D → D → Option PyData
  | 0, _, _ => none
  | _ + 1, _, .non => some .none
  | _ + 1, _, .bl b => some (.bool b)
  | _ + 1, _, .int i => some (.int i)
  | _ + 1, _, .str x => some (.str x)
  | f + 1, h, .tup xs => (toPyL f h xs).map .tuple
  | f + 1, h, .lst xs => (toPyL f h xs).map .list
  | _ + 1, _, .scr ns => some (.list (ns.map .int))
  | f + 1, h, .loc n => match h[n]? with
    | some (.lst xs) => (toPyL f h xs).map .list
    | _ => none
  | _ + 1, _, .dic _ _ => none
  | _ + 1, _, .obj _ _ _ => none
  | _ + 1, _, .cls _ => none
  | _ + 1, _, .lck _ _ => none
def toPyL : Nat → List D → List D → Option (List PyData)
  | 0, _, _ => none
  | _ + 1, _, [] => some []
  | f + 1, h, d :: ds => match toPy f h d with
    | some p => (toPyL f h ds).map (p :: ·)
    | none => none
end
section
variable {Z : Addr → Prop} {M : List Addr} {H : Hp} {h : List D}
theorem dpAll_ints : ∀ ns : List Int, DpAll K H (ns.map V.int) (ns.map PyData.int)
  | [] => .nil
  | n :: ns => .cons (.int n) (dpAll_ints ns)
mutual
theorem toPy_dp (s : Sh K C Z M h H) : ∀ {f : Nat} {d : D} {v : V} {p : PyData}, toPy f h d = some p → Rep K (zn Z M) M H d v → Dp K H v p
  | 0, d, v, p, e, r => by rw [toPy] at e; cases e
  | f + 1, d, v, p, e, r => by
    cases r with
    | non => rw [toPy] at e; cases e; exact .non
    | bl b => rw [toPy] at e; cases e; exact .bl b
    | int i => rw [toPy] at e; cases e; exact .int i
    | str x => rw [toPy] at e; cases e; exact .str x
    | @tup xs vs a z ha l q =>
      rw [toPy] at e
      cases hx : toPyL f h xs with
      | none => rw [hx] at e; cases e
      | some ps => rw [hx] at e; cases e; exact .tup (sqT_of ha) (toPyL_dp s hx ⟨l, q⟩)
    | @lst xs vs a z ha l q =>
      rw [toPy] at e
      cases hx : toPyL f h xs with
      | none => rw [hx] at e; cases e
      | some ps => rw [hx] at e; cases e; exact .lst (.inl (.inl ha)) (toPyL_dp s hx ⟨l, q⟩)
    | scr c => rw [toPy] at e; cases e; exact .lst (scr_sq c) (dpAll_ints _)
    | @loc n a hm =>
      rw [toPy] at e
      cases hn : h[n]? with
      | none => rw [hn] at e; cases e
      | some c =>
        rw [hn] at e
        cases c with
        | lst xs =>
          dsimp only at e
          obtain ⟨vs, q, rs⟩ := s.cel n a _ hm hn
          cases hx : toPyL f h xs with
          | none => rw [hx] at e; cases e
          | some ps => rw [hx] at e; cases e; exact .lst (.inl (.inl q)) (toPyL_dp s hx rs)
        | _ => cases e
    | dic z ha k l q => rw [toPy] at e; cases e
    | obj z ha k l q => rw [toPy] at e; cases e
    | cls => rw [toPy] at e; cases e
theorem toPyL_dp (s : Sh K C Z M h H) : ∀ {f : Nat} {ds : List D} {vs : List V} {ps : List PyData}, toPyL f h ds = some ps → Reps K (zn Z M) M H ds vs → DpAll K H vs ps
  | 0, ds, vs, ps, e, r => by cases ds <;> (rw [toPyL] at e; cases e)
  | f + 1, [], vs, ps, e, r => by
    rw [toPyL] at e; cases e
    rw [r.cases_nil]
    exact .nil
  | f + 1, d :: ds, vs, ps, e, r => by
    rw [toPyL] at e
    obtain ⟨v, ws, rfl, r1, r2⟩ := r.cases_cons
    cases hd : toPy f h d with
    | none => rw [hd] at e; cases e
    | some p =>
      rw [hd] at e
      cases hx : toPyL f h ds with
      | none => rw [hx] at e; cases e
      | some qs => rw [hx] at e; cases e; exact .cons (toPy_dp s hd r1) (toPyL_dp s hx r2)
end
end
/-- the fuel of toPy -/
abbrev pyF : Nat := 4000
def oEqD (neg : Bool) (x y : D) (h : List D) : R D := match toPy pyF h x, toPy pyF h y with
  | some p, some q => bif SeqAt.shaped p && SeqAt.shaped q then .ok (.bl (if neg then !PyData.eqv p q else PyData.eqv p q)) h else .bad
  | _, _ => .bad
def oEq (neg : Bool) : D → D → List D → R D := fun x y h => match x, y with
  | .str a, .str b => .ok (.bl (if neg then !decide (a = b) else decide (a = b))) h
  | .int a, .int b => .ok (.bl (if neg then !decide (a = b) else decide (a = b))) h
  | .bl a, .bl b => .ok (.bl (if neg then !decide (a = b) else decide (a = b))) h
  | x, y => oEqD neg x y h
abbrev rEqA (K : PySem.W.Frag) : R2 := fun x y H Q => rEq x y H Q ∨ rEqD K x y H Q
abbrev rNeA (K : PySem.W.Frag) : R2 := fun x y H Q => rNe x y H Q ∨ rNeD K x y H Q
theorem op_eqA {X : Cx} (hu : X.A.units + 64 < cLine) : OpR X (compareOp .Eq) (rEqA X.K) := op_eq.or (op_eqD hu)
theorem op_neA {X : Cx} (hu : X.A.units + 64 < cLine) : OpR X (compareOp .NotEq) (rNeA X.K) := op_ne.or (op_neD hu)
theorem k_eqD {pn : List (Addr × Obj)} {Z : Addr → Prop} {W : WX} {σ : L2.St} {env : List Sl} {M : List Addr} {H : Hp} {h : List D} {x y : D} {v w : V} {Q : VK} (neg : Bool) (s : SR K C pn Z M env h σ H) (rx : Rep K (zn Z M) M H x v) (ry : Rep K (zn Z M) M H y w)
    (g : Got K C pn Z W σ env M H (oEqD neg x y h) (fun M' H' d => ∀ v, Rep K (zn Z M') M' H' d v → Q v H')) : ∃ d e, Dp K H v d ∧ Dp K H w e ∧ SeqAt.shaped d = true ∧ SeqAt.shaped e = true ∧ Q (.bl (if neg then !PyData.eqv d e else PyData.eqv d e)) H := by
  unfold oEqD at g
  cases e1 : toPy pyF h x with
  | none => rw [e1] at g; exact False.elim g
  | some p =>
    cases e2 : toPy pyF h y with
    | none => rw [e1, e2] at g; exact False.elim g
    | some q =>
      rw [e1, e2] at g
      dsimp only at g
      cases hb : SeqAt.shaped p && SeqAt.shaped q with
      | false => rw [hb] at g; exact False.elim g
      | true =>
        rw [hb] at g
        obtain ⟨b1, b2⟩ := Bool.and_eq_true_iff.mp hb
        exact ⟨p, q, toPy_dp s.sh e1 rx, toPy_dp s.sh e2 ry, b1, b2, Got.now g s _ (.bl _)⟩
theorem k_eq : Ok2 C K (rEqA K) (oEq false) := by
  intro pn Z W σ env M H h x y v w Q s rx ry g
  have rest : Got K C pn Z W σ env M H (oEqD false x y h) (fun M' H' d => ∀ v, Rep K (zn Z M') M' H' d v → Q v H') → rEqA K v w H Q := fun g => .inr (k_eqD false s rx ry g)
  cases x with
  | str a =>
    cases y with
    | str b => cases rx; cases ry; exact .inl ⟨rfl, Got.now g s _ (by rw [show decide (V.str a = V.str b) = decide (a = b) from by simp]; exact .bl _)⟩
    | _ => exact rest g
  | int a =>
    cases y with
    | int b => cases rx; cases ry; exact .inl ⟨rfl, Got.now g s _ (by rw [show decide (V.int a = V.int b) = decide (a = b) from by simp]; exact .bl _)⟩
    | _ => exact rest g
  | bl a =>
    cases y with
    | bl b => cases rx; cases ry; exact .inl ⟨rfl, Got.now g s _ (by rw [show decide (V.bl a = V.bl b) = decide (a = b) from by simp]; exact .bl _)⟩
    | _ => exact rest g
  | _ => exact rest g
theorem k_ne : Ok2 C K (rNeA K) (oEq true) := by
  intro pn Z W σ env M H h x y v w Q s rx ry g
  have rest : Got K C pn Z W σ env M H (oEqD true x y h) (fun M' H' d => ∀ v, Rep K (zn Z M') M' H' d v → Q v H') → rNeA K v w H Q := fun g => .inr (k_eqD true s rx ry g)
  cases x with
  | str a =>
    cases y with
    | str b => cases rx; cases ry; exact .inl ⟨rfl, Got.now g s _ (by rw [show decide (V.str a = V.str b) = decide (a = b) from by simp]; exact .bl _)⟩
    | _ => exact rest g
  | int a =>
    cases y with
    | int b => cases rx; cases ry; exact .inl ⟨rfl, Got.now g s _ (by rw [show decide (V.int a = V.int b) = decide (a = b) from by simp]; exact .bl _)⟩
    | _ => exact rest g
  | bl a =>
    cases y with
    | bl b => cases rx; cases ry; exact .inl ⟨rfl, Got.now g s _ (by rw [show decide (V.bl a = V.bl b) = decide (a = b) from by simp]; exact .bl _)⟩
    | _ => exact rest g
  | _ => exact rest g
end
end G

set_option Elab.async false
set_option linter.all false
set_option maxRecDepth 100000
set_option maxHeartbeats 4000000
/-! G9: +, in, subscripts, slices, len, of any data; calls of built-in functions; isinstance; repr. -/
namespace G
open PySem PySem.Spec PyProof.Rows L2

section
variable {K : PySem.W.Frag} {C : List (V × D)} {pn : List (Addr × Obj)} {Z : Addr → Prop} {W : WX} {σ : L2.St} {env : List Sl} {M : List Addr} {H : Hp} {h : List D} {Q : VK} {d : D} {v : V}
/-! ### a list that is no constant -/
def lstH (h : List D) : D → Option (List D)
  | .lst xs => some xs
  | .loc n => match h[n]? with
    | some (.lst xs) => some xs
    | _ => none
  | _ => none
theorem lstH_rep (s : Sh K C Z M h H) {xs : List D} (e : lstH h d = some xs) (r : Rep K (zn Z M) M H d v) : ∃ a vs, v = .ref a ∧ H a = some (.lst vs) ∧ Reps K (zn Z M) M H xs vs := by
  cases r with
  | lst z ha l q => cases e; exact ⟨_, _, rfl, ha, l, q⟩
  | loc hm =>
    rename_i n a
    unfold lstH at e
    dsimp only at e
    cases hx : h[n]? with
    | none => rw [hx] at e; cases e
    | some c =>
      rw [hx] at e
      cases c with
      | lst ys =>
        cases e
        obtain ⟨vs, q, rs⟩ := s.cel n a _ hm hx
        exact ⟨a, vs, rfl, q, rs⟩
      | _ => cases e
  | _ => cases e
/-! ### tables -/
def kget : List Key → List D → Key → Option D
  | k :: ks, d :: ds, j => bif decide (k = j) then some d else kget ks ds j
  | _, _, _ => none
def krep (ks : List Key) (ds : List D) (j : Key) (x : D) : List D := List.zipWith (fun k d => if k = j then x else d) ks ds
def kput (ks : List Key) (ds : List D) (j : Key) (x : D) : List Key × List D := if (ks.any fun k => decide (k = j)) = true then (ks, krep ks ds j x) else (ks ++ [j], ds ++ [x])
theorem kget_some {k : Key} : ∀ {kvs : List (Key × V)} {ds : List D}, Reps K Z M H ds (kvs.map (·.2)) → kget (kvs.map (·.1)) ds k = some d → ∃ v, valV kvs k = some v ∧ Rep K Z M H d v
  | [], ds, r, e => by rw [Reps.cases_nil' r] at e; cases e
  | p :: kvs, ds, r, e => by
    cases ds with
    | nil => have := r.1; simp at this
    | cons x ds =>
      obtain ⟨v, ws, e2, q1, q2⟩ := r.cases_cons
      rw [List.map_cons] at e2
      cases e2
      rw [List.map_cons] at e
      unfold kget at e
      by_cases hk : p.1 = k
      · rw [decide_eq_true hk, cond_true] at e
        cases e
        exact ⟨p.2, valV_pos hk, q1⟩
      · rw [decide_eq_false hk, cond_false] at e
        obtain ⟨v, h1, h2⟩ := kget_some q2 e
        exact ⟨v, by rw [valV_neg hk]; exact h1, h2⟩
theorem kget_none {k : Key} : ∀ {kvs : List (Key × V)} {ds : List D}, Reps K Z M H ds (kvs.map (·.2)) → kget (kvs.map (·.1)) ds k = none → valV kvs k = none
  | [], ds, r, e => valV_nil
  | p :: kvs, ds, r, e => by
    cases ds with
    | nil => have := r.1; simp at this
    | cons x ds =>
      obtain ⟨v, ws, e2, q1, q2⟩ := r.cases_cons
      rw [List.map_cons] at e2
      cases e2
      rw [List.map_cons] at e
      unfold kget at e
      by_cases hk : p.1 = k
      · rw [decide_eq_true hk, cond_true] at e; cases e
      · rw [decide_eq_false hk, cond_false] at e
        rw [valV_neg hk]
        exact kget_none q2 e
theorem krep_ok {k : Key} {x : D} {y : V} (ry : Rep K Z M H x y) : ∀ {kvs : List (Key × V)} {ds : List D}, Reps K Z M H ds (kvs.map (·.2)) → Reps K Z M H (krep (kvs.map (·.1)) ds k x) ((kvs.map fun kv => if kv.1 = k then (kv.1, y) else kv).map (·.2))
  | [], ds, r => by rw [Reps.cases_nil' r]; exact Reps.nil
  | p :: kvs, ds, r => by
    cases ds with
    | nil => have := r.1; simp at this
    | cons z ds =>
      obtain ⟨v, ws, e2, q1, q2⟩ := r.cases_cons
      rw [List.map_cons] at e2
      cases e2
      have ih := krep_ok (k := k) ry q2
      unfold krep at ih ⊢
      rw [List.map_cons, List.zipWith_cons_cons, List.map_cons, List.map_cons]
      refine Reps.cons ?_ ih
      by_cases hk : p.1 = k
      · rw [if_pos hk, if_pos hk]; exact ry
      · rw [if_neg hk, if_neg hk]; exact q1
theorem kput_ok {k : Key} {x : D} {y : V} (ry : Rep K Z M H x y) {kvs : List (Key × V)} {ds : List D} (r : Reps K Z M H ds (kvs.map (·.2))) : (putK kvs k y).map (·.1) = (kput (kvs.map (·.1)) ds k x).1 ∧ Reps K Z M H (kput (kvs.map (·.1)) ds k x).2 ((putK kvs k y).map (·.2)) := by
  unfold kput putK
  have e : ((kvs.map (·.1)).any fun j => decide (j = k)) = kvs.any fun kv => decide (kv.1 = k) := by rw [List.any_map]; rfl
  rw [e]
  by_cases ha : (kvs.any fun kv => decide (kv.1 = k)) = true
  · rw [if_pos ha, if_pos ha]
    refine ⟨?_, krep_ok ry r⟩
    rw [List.map_map]
    refine List.map_congr_left fun p _ => ?_
    show (if p.1 = k then (p.1, y) else p).1 = p.1
    split <;> rfl
  · rw [if_neg ha, if_neg ha]
    refine ⟨by rw [List.map_append]; rfl, ?_⟩
    rw [List.map_append]
    exact r.append (Reps.cons ry Reps.nil)
def keyOf : D → Option Key
  | .int i => some (.inl i)
  | .str x => some (.inr x)
  | _ => none
theorem keyOf_rep {k : Key} (e : keyOf d = some k) (r : Rep K Z M H d v) : v = kV k := by
  cases r with
  | int i => cases e; rfl
  | str x => cases e; rfl
  | _ => cases e
/-! ### flat data -/
def D.fl : D → Bool
  | .non | .bl _ | .int _ | .str _ => true
  | _ => false
def toV : D → V
  | .bl b => .bl b
  | .int i => .int i
  | .str x => .str x
  | _ => .non
theorem fl_rep (f : d.fl = true) (r : Rep K Z M H d v) : v = toV d ∧ flatV v = true := by
  cases r with
  | non => exact ⟨rfl, rfl⟩
  | bl b => exact ⟨rfl, rfl⟩
  | int i => exact ⟨rfl, rfl⟩
  | str x => exact ⟨rfl, rfl⟩
  | _ => cases f
theorem fl_reps : ∀ {ds : List D} {vs : List V}, ds.all D.fl = true → Reps K Z M H ds vs → vs = ds.map toV ∧ vs.all flatV = true
  | [], vs, f, r => by rw [r.cases_nil]; exact ⟨rfl, rfl⟩
  | d :: ds, vs, f, r => by
    obtain ⟨v, ws, rfl, q1, q2⟩ := r.cases_cons
    rw [List.all_cons, Bool.and_eq_true] at f
    obtain ⟨h1, h2⟩ := fl_rep f.1 q1
    obtain ⟨h3, h4⟩ := fl_reps f.2 q2
    exact ⟨by rw [h1, h3, List.map_cons], by rw [List.all_cons, h2, h4]; rfl⟩
theorem atI_rep {xs : List D} {vs : List V} {i : Int} (r : Reps K Z M H xs vs) (e : atI xs i = some d) : ∃ v, atI vs i = some v ∧ Rep K Z M H d v := by
  unfold atI at e ⊢
  rw [← r.1]
  cases hx : ixN xs.length i with
  | none => rw [hx] at e; cases e
  | some j =>
    rw [hx] at e
    exact r.get e
end

/-! ### + -/
def oPlus : D → D → List D → R D := fun x y h => match x, y with
  | .int i, .int j => .ok (.int (i + j)) h
  | .str a, .str b => bif decide (a.length + b.length ≤ sizeLine) then .ok (.str (a ++ b)) h else .bad
  | .tup xs, .tup ys => bif decide (xs.length + ys.length ≤ sizeLine) then .ok (.tup (xs ++ ys)) h else .bad
  | x, y => match lstH h x, lstH h y with
    | some xs, some ys => bif decide (xs.length + ys.length ≤ sizeLine) then .ok (.lst (xs ++ ys)) h else .bad
    | _, _ => .bad
abbrev rPlus (K : PySem.W.Frag) : R2 := fun x y H Q => rI0 (fun i j => .int (i + j)) x y H Q ∨ (∃ i j, x = .str i ∧ y = .str j ∧ i.length + j.length ≤ sizeLine ∧ Q (.str (i ++ j)) H) ∨ rCatA K x y H Q ∨ rCat x y H Q
theorem op_plus {X : Cx} : OpR X (binaryOp .Add) (rPlus X.K) := op_add.or (op_add_str.or (op_catA.or op_cat))
section
variable {K : PySem.W.Frag} {C : List (V × D)}
theorem k_plusL {pn : List (Addr × Obj)} {Z : Addr → Prop} {W : WX} {σ : L2.St} {env : List Sl} {M : List Addr} {H : Hp} {h : List D} {x y : D} {v w : V} {Q : VK} (s : SR K C pn Z M env h σ H) (rx : Rep K (zn Z M) M H x v) (ry : Rep K (zn Z M) M H y w)
    (g : Got K C pn Z W σ env M H (match lstH h x, lstH h y with
    | some xs, some ys => bif decide (xs.length + ys.length ≤ sizeLine) then .ok (.lst (xs ++ ys)) h else .bad
    | _, _ => .bad) (fun M' H' d => ∀ v, Rep K (zn Z M') M' H' d v → Q v H')) : rCat v w H Q := by
  cases e1 : lstH h x with
  | none => rw [e1] at g; exact False.elim g
  | some xs =>
    cases e2 : lstH h y with
    | none => rw [e1, e2] at g; exact False.elim g
    | some ys =>
      rw [e1, e2] at g
      have g : Got K C pn Z W σ env M H (bif decide (xs.length + ys.length ≤ sizeLine) then R.ok (D.lst (xs ++ ys)) h else .bad) _ := g
      cases hb : decide (xs.length + ys.length ≤ sizeLine) with
      | false => rw [hb] at g; exact False.elim g
      | true =>
        rw [hb] at g
        obtain ⟨a, vs, rfl, ha, r1⟩ := lstH_rep s.sh e1 rx
        obtain ⟨b, ws, rfl, hb', r2⟩ := lstH_rep s.sh e2 ry
        exact ⟨a, b, vs, ws, rfl, rfl, ha, hb', by rw [← r1.1, ← r2.1]; exact of_decide_eq_true hb, fun p hp => Got.laid g s hp (newLst s.sh (r1.append r2) hp)⟩
theorem k_plus : Ok2 C K (rPlus K) oPlus := by
  intro pn Z W σ env M H h x y v w Q s rx ry g
  cases x with
  | int i =>
    cases y with
    | int j => cases rx; cases ry; exact .inl ⟨i, j, rfl, rfl, Got.now g s _ (.int _)⟩
    | _ => exact .inr (.inr (.inr (k_plusL s rx ry g)))
  | str a =>
    cases y with
    | str b =>
      cases rx; cases ry
      have g : Got K C pn Z W σ env M H (bif decide (a.length + b.length ≤ sizeLine) then R.ok (D.str (a ++ b)) h else .bad) _ := g
      cases hb : decide (a.length + b.length ≤ sizeLine) with
      | false => rw [hb] at g; exact False.elim g
      | true => rw [hb] at g; exact .inr (.inl ⟨a, b, rfl, rfl, of_decide_eq_true hb, Got.now g s _ (.str _)⟩)
    | _ => exact .inr (.inr (.inr (k_plusL s rx ry g)))
  | tup xs =>
    cases y with
    | tup ys =>
      have g : Got K C pn Z W σ env M H (bif decide (xs.length + ys.length ≤ sizeLine) then R.ok (D.tup (xs ++ ys)) h else .bad) _ := g
      cases hb : decide (xs.length + ys.length ≤ sizeLine) with
      | false => rw [hb] at g; exact False.elim g
      | true =>
        rw [hb] at g
        obtain ⟨a, vs, rfl, ha, r1⟩ := tupOf_rep (d := .tup xs) rfl rx
        obtain ⟨b, ws, rfl, hb', r2⟩ := tupOf_rep (d := .tup ys) rfl ry
        refine .inr (.inr (.inl ⟨a, b, vs, ws, rfl, rfl, ha, hb', by rw [← r1.1, ← r2.1]; exact of_decide_eq_true hb, fun e => ?_, fun _ e => ?_, fun _ _ p hp => Got.laid g s hp (newTup s.sh (r1.append r2) hp)⟩))
        · subst e
          obtain rfl := Reps.cases_nil' r1
          exact Got.now g s _ (by rw [List.nil_append]; exact ry)
        · subst e
          obtain rfl := Reps.cases_nil' r2
          exact Got.now g s _ (by rw [List.append_nil]; exact rx)
    | _ => exact .inr (.inr (.inr (k_plusL s rx ry g)))
  | _ => exact .inr (.inr (.inr (k_plusL s rx ry g)))
end

/-! ### in -/
def seqOf (h : List D) (d : D) : Option (List D) := match lstOf h d with
  | some xs => some xs
  | none => tupOf d
theorem seqOf_rep {K : PySem.W.Frag} {C : List (V × D)} {Z : Addr → Prop} {M : List Addr} {H : Hp} {h : List D} {d : D} {v : V} (s : Sh K C Z M h H) {xs : List D} (e : seqOf h d = some xs) (r : Rep K (zn Z M) M H d v) : ∃ a vs, v = .ref a ∧ (SqL K H a vs ∨ SqT K H a vs) ∧ Reps K (zn Z M) M H xs vs := by
  unfold seqOf at e
  cases hx : lstOf h d with
  | some ys =>
    rw [hx] at e; cases e
    obtain ⟨a, vs, h1, h2, h3⟩ := lstOf_rep s hx r
    exact ⟨a, vs, h1, .inl h2, h3⟩
  | none =>
    rw [hx] at e
    obtain ⟨a, vs, h1, h2, h3⟩ := tupOf_rep e r
    exact ⟨a, vs, h1, .inr h2, h3⟩
def inD (x : D) (xs : List D) : Bool := inV (toV x) (xs.map toV)
def oIn (neg : Bool) : D → D → List D → R D := fun x y h => match y with
  | .str b => (match x with
    | .str a => .ok (.bl (if neg then !inS a b else inS a b)) h
    | _ => .bad)
  | y => match dicOf h y with
    | some (ks, ds) => (match keyOf x with
      | some k => .ok (.bl (if neg then !(kget ks ds k).isSome else (kget ks ds k).isSome)) h
      | none => .bad)
    | none => match seqOf h y with
      | some xs => bif x.fl && xs.all D.fl then .ok (.bl (if neg then !inD x xs else inD x xs)) h else .bad
      | none => .bad
def rDin (neg : Bool) : R2 := fun x y H Q => ∃ a o, y = .ref a ∧ DGet H a x o ∧ Q (.bl (if neg then !o.isSome else o.isSome)) H
theorem op_din {X : Cx} (hu : X.A.units + 1 < cLine) : OpR X (compareOp .In) (rDin false) := by
  intro pins s σ H x y v u Q I rx ry h
  obtain ⟨a, o, rfl, g, q⟩ := h
  cases ry
  exact d_in hu I g rx fun s3 I3 => ⟨.bl o.isSome, H, I3, rfl, q⟩
theorem op_dnotin {X : Cx} (hu : X.A.units + 1 < cLine) : OpR X (compareOp .NotIn) (rDin true) := by
  intro pins s σ H x y v u Q I rx ry h
  obtain ⟨a, o, rfl, g, q⟩ := h
  cases ry
  exact d_notIn hu I g rx fun s3 I3 => ⟨.bl (!o.isSome), H, I3, rfl, q⟩
abbrev rInA (K : PySem.W.Frag) (neg : Bool) : R2 := fun x y H Q => (∃ i j, x = .str i ∧ y = .str j ∧ Q (.bl (if neg then !inS i j else inS i j)) H) ∨ rDin neg x y H Q ∨ rIn K neg x y H Q
theorem op_inA {X : Cx} (hu : X.A.units + 1 < cLine) : OpR X (compareOp .In) (rInA X.K false) := OpR.or op_in_str ((op_din hu).or op_in_seq)
theorem op_notinA {X : Cx} (hu : X.A.units + 1 < cLine) : OpR X (compareOp .NotIn) (rInA X.K true) := OpR.or op_notin_str ((op_dnotin hu).or op_notIn_seq)
section
variable {K : PySem.W.Frag} {C : List (V × D)}
theorem dget_rep {Z : Addr → Prop} {M : List Addr} {H : Hp} {kvs : List (Key × V)} {ds : List D} {a : Addr} {k : Key} (hr : Rd H a (.dK kvs)) : DGet H a (kV k) (valV kvs k) := .inl ⟨kvs, k, hr, rfl, rfl⟩
theorem kget_isSome {Z : Addr → Prop} {M : List Addr} {H : Hp} {kvs : List (Key × V)} {ds : List D} {k : Key} (r : Reps K Z M H ds (kvs.map (·.2))) : (valV kvs k).isSome = (kget (kvs.map (·.1)) ds k).isSome := by
  cases e : kget (kvs.map (·.1)) ds k with
  | none => rw [kget_none r e]; rfl
  | some d =>
    obtain ⟨v, h1, _⟩ := kget_some r e
    rw [h1]; rfl
theorem k_in (neg : Bool) : Ok2 C K (rInA K neg) (oIn neg) := by
  intro pn Z W σ env M H h x y v w Q s rx ry g
  have rest : Got K C pn Z W σ env M H (match dicOf h y with
    | some (ks, ds) => (match keyOf x with
      | some k => .ok (.bl (if neg then !(kget ks ds k).isSome else (kget ks ds k).isSome)) h
      | none => .bad)
    | none => match seqOf h y with
      | some xs => bif x.fl && xs.all D.fl then .ok (.bl (if neg then !inD x xs else inD x xs)) h else .bad
      | none => .bad) (fun M' H' d => ∀ v, Rep K (zn Z M') M' H' d v → Q v H') → rInA K neg v w H Q := fun g => by
    cases e1 : dicOf h y with
    | some p =>
      obtain ⟨ks, ds⟩ := p
      rw [e1] at g
      dsimp only at g
      obtain ⟨a, kvs, rfl, hr, rfl, rs⟩ := dicOf_rep s.sh e1 ry
      cases e2 : keyOf x with
      | none => rw [e2] at g; exact False.elim g
      | some k =>
        rw [e2] at g
        obtain rfl := keyOf_rep e2 rx
        refine .inr (.inl ⟨a, _, rfl, .inl ⟨kvs, k, hr, rfl, rfl⟩, ?_⟩)
        rw [kget_isSome rs]
        exact Got.now g s _ (.bl _)
    | none =>
      rw [e1] at g
      dsimp only at g
      cases e2 : seqOf h y with
      | none => rw [e2] at g; exact False.elim g
      | some xs =>
        rw [e2] at g
        dsimp only at g
        obtain ⟨a, vs, rfl, hr, rs⟩ := seqOf_rep s.sh e2 ry
        cases hb : x.fl && xs.all D.fl with
        | false => rw [hb] at g; exact False.elim g
        | true =>
          rw [hb] at g
          obtain ⟨b1, b2⟩ := Bool.and_eq_true_iff.mp hb
          obtain ⟨e3, f1⟩ := fl_rep b1 rx
          obtain ⟨e4, f2⟩ := fl_reps b2 rs
          refine .inr (.inr ⟨a, vs, rfl, hr, f1, f2, ?_⟩)
          rw [e3, e4]
          exact Got.now g s _ (.bl _)
  cases y with
  | str b =>
    cases x with
    | str a => cases rx; cases ry; exact .inl ⟨a, b, rfl, rfl, Got.now g s _ (.bl _)⟩
    | _ => exact False.elim g
  | _ => exact rest g
end
end G

set_option Elab.async false
set_option linter.all false
set_option maxRecDepth 100000
set_option maxHeartbeats 4000000
/-! G10: subscripts, slices, stores, built-in functions, isinstance, repr. -/
namespace G
open PySem PySem.Spec PyProof.Rows L2

/-! ### subscripts -/
def oIx : D → D → List D → R D := fun x y h => match dicOf h x with
  | some (ks, ds) => (match keyOf y with
    | some k => (match kget ks ds k with
      | some d => .ok d h
      | none => .bad)
    | none => .bad)
  | none => match y with
    | .int i => (match x with
      | .str z => bif decide (z.length ≤ sizeLine) then (match atI z.cps.toList i with
        | some c => .ok (.str ⟨#[c]⟩) h
        | none => .bad) else .bad
      | x => match seqOf h x with
        | some xs => (match atI xs i with
          | some d => .ok d h
          | none => .bad)
        | none => .bad)
    | _ => .bad
def rIxD : R2 := fun x y H Q => ∃ a v, x = .ref a ∧ DGet H a y (some v) ∧ Q v H
theorem ix_dict {X : Cx} (hu : X.A.units + 1 < cLine) : IxR X rIxD := by
  intro value slice pins s σ H x y v u Q I rx ry h hs
  obtain ⟨a, z, rfl, g, q⟩ := h
  cases rx
  exact tail_any (dict_typeIs I g) PySem.F.slot_dict_getitem.lookup (d_getItem hu I g ry fun w' s3 I3 rw' => ⟨z, H, I3, rw', q⟩) hs
abbrev rIxA (K : PySem.W.Frag) : R2 := fun x y H Q => rIxD x y H Q ∨ rIx K x y H Q
theorem ix_any {X : Cx} (hu : X.A.units + 1 < cLine) : IxR X (rIxA X.K) := (ix_dict hu).or ix_seq
section
variable {K : PySem.W.Frag} {C : List (V × D)}
theorem k_ix : Ok2 C K (rIxA K) oIx := by
  intro pn Z W σ env M H h x y v w Q s rx ry g
  unfold oIx at g
  cases e1 : dicOf h x with
  | some p =>
    obtain ⟨ks, ds⟩ := p
    rw [e1] at g
    dsimp only at g
    obtain ⟨a, kvs, rfl, hr, rfl, rs⟩ := dicOf_rep s.sh e1 rx
    cases e2 : keyOf y with
    | none => rw [e2] at g; exact False.elim g
    | some k =>
      rw [e2] at g
      dsimp only at g
      obtain rfl := keyOf_rep e2 ry
      cases e3 : kget (kvs.map (·.1)) ds k with
      | none => rw [e3] at g; exact False.elim g
      | some d =>
        rw [e3] at g
        obtain ⟨z, h1, h2⟩ := kget_some rs e3
        exact .inl ⟨a, z, rfl, .inl ⟨kvs, k, hr, rfl, h1.symm⟩, Got.now g s _ h2⟩
  | none =>
    rw [e1] at g
    dsimp only at g
    cases y with
    | int i =>
      cases ry
      have sq : Got K C pn Z W σ env M H (match seqOf h x with
        | some xs => (match atI xs i with
          | some d => R.ok d h
          | none => .bad)
        | none => .bad) (fun M' H' d => ∀ v, Rep K (zn Z M') M' H' d v → Q v H') → rIxA K v (.int i) H Q := fun g => by
        cases e2 : seqOf h x with
        | none => rw [e2] at g; exact False.elim g
        | some xs =>
          rw [e2] at g
          dsimp only at g
          obtain ⟨a, vs, rfl, hr, rs⟩ := seqOf_rep s.sh e2 rx
          cases e3 : atI xs i with
          | none => rw [e3] at g; exact False.elim g
          | some d =>
            rw [e3] at g
            obtain ⟨z, h1, h2⟩ := atI_rep rs e3
            rcases hr with hr | hr
            · exact .inr (.inl ⟨a, vs, i, z, rfl, rfl, hr, h1, Got.now g s _ h2⟩)
            · exact .inr (.inr (.inl ⟨a, vs, i, z, rfl, rfl, hr, h1, Got.now g s _ h2⟩))
      cases x with
      | str z =>
        cases rx
        dsimp only at g
        cases hb : decide (z.length ≤ sizeLine) with
        | false => rw [hb] at g; exact False.elim g
        | true =>
          rw [hb] at g
          dsimp only [cond_true] at g
          cases e3 : atI z.cps.toList i with
          | none => rw [e3] at g; exact False.elim g
          | some c =>
            rw [e3] at g
            exact .inr (.inr (.inr ⟨z, i, c, rfl, rfl, of_decide_eq_true hb, e3, Got.now g s _ (.str _)⟩))
      | _ => exact sq g
    | _ => exact False.elim g
end
section
variable {C : List (V × D)} {X : Cx} {W : WX} {pos : Pos}
theorem se_ix {a b : Expr} {ma mb : ME} (hu : X.A.units + 1 < cLine) (ha : SE C X W a ma) (hb : SE C X W b mb) (hs : PlainIx b := by intro _ _; rfl) : SE C X W (.Subscript a b pos) (c2 oIx ma mb) :=
  PE.weak (pe_ix (ix_any hu) ha hb hs) fun σ H Q t => t2_of k_ix t
/-! ### slices -/
abbrev MO := Mn (Option Int)
def tO (K : PySem.W.Frag) (C : List (V × D)) (pn : List (Addr × Obj)) (W : WX) (m : MO) : TO := fun σ H Q => ∃ Z M env h, SR K C pn Z M env h σ H ∧ Got K C pn Z W σ env M H (m env h) fun M' H' o => Q o H'
def SO (C : List (V × D)) (X : Cx) (W : WX) (e : Option Expr) (m : MO) : Prop := PO X e (tO X.K C X.pn W m)
def oNone : MO := fun _ h => .ok none h
def oSome (m : ME) : MO := fun env h => (m env h).bind fun d h1 => match d with
  | .int i => .ok (some i) h1
  | _ => .bad
theorem so_none : SO C X W none oNone := ⟨fun pins s σ H Q I ⟨Z, M, env, h, sr, g⟩ => po_none.run pins s σ H Q I (Got.now g sr)⟩
theorem so_some {e : Expr} {m : ME} (he : SE C X W e m) : SO C X W (some e) (oSome m) := by
  refine ⟨fun pins s σ H Q I ⟨Z, M, env, h, sr, g⟩ => (po_some he).run pins s σ H Q I ?_⟩
  refine tE.step sr g fun M1 H1 h1 d v e1 s1 r1 g1 => ?_
  cases r1 with
  | int i => exact ⟨i, rfl, Got.now g1 s1⟩
  | _ => exact False.elim g1
def cutD (xs : List D) (lo hi : Option Int) : List D := (xs.drop (HT.sIx xs.length 0 lo)).take (HT.sIx xs.length xs.length hi - HT.sIx xs.length 0 lo)
def oSl (x : D) (lo hi : Option Int) (h : List D) : R D := match lstOf h x with
  | some xs => .ok (.lst (cutD xs lo hi)) h
  | none => match tupOf x with
    | some xs => .ok (.tup (cutD xs lo hi)) h
    | none => .bad
def cSl (m : ME) (lo hi : MO) : ME := fun env h => (m env h).bind fun x h1 => (lo env h1).bind fun l h2 => (hi env h2).bind fun u h3 => oSl x l u h3
theorem tO.step {K : PySem.W.Frag} {pn : List (Addr × Obj)} {Z : Addr → Prop} {σ : L2.St} {env : List Sl} {M : List Addr} {H : Hp} {h : List D} {β : Type} {m : MO} {f : Option Int → List D → R β} {G : List Addr → Hp → β → Prop} {Q' : Option Int → Hp → Prop} (s : SR K C pn Z M env h σ H) (g : Got K C pn Z W σ env M H ((m env h).bind f) G)
    (k : ∀ M1 H1 h1 b, Evo M H M1 H1 → SR K C pn Z M1 env h1 σ H1 → Got K C pn Z W σ env M1 H1 (f b h1) G → Q' b H1) : tO K C pn W m σ H Q' := by
  refine ⟨Z, M, env, h, s, ?_⟩
  cases e : m env h with
  | bad => rw [e] at g; exact g
  | exc c ns ds h1 => rw [e] at g; exact g
  | ok b h1 =>
    rw [e] at g
    exact fun M1 H1 e1 s1 => k M1 H1 h1 b e1 s1 (Got.later e1 g)
theorem se_slice {a : Expr} {lo hi : Option Expr} {p2 : Pos} {m : ME} {ml mh : MO} (ha : SE C X W a m) (hl : SO C X W lo ml) (hh : SO C X W hi mh) : SE C X W (.Subscript a (.Slice lo hi none p2) pos) (cSl m ml mh) := by
  refine PE.weak (pe_slice (sl_list.or sl_tupA) ha hl hh) fun σ H Q ⟨Z, M, env, h, s, g⟩ => ?_
  refine tE.step s g fun M1 H1 h1 x v e1 s1 r1 g1 => ?_
  refine tO.step s1 g1 fun M2 H2 h2 l e2 s2 g2 => ?_
  refine tO.step s2 g2 fun M3 H3 h3 u e3 s3 g3 => ?_
  have r3 := (r1.mono e2).mono e3
  unfold oSl at g3
  cases hx : lstOf h3 x with
  | some xs =>
    rw [hx] at g3
    obtain ⟨a, vs, rfl, hq, rs⟩ := lstOf_rep s3.sh hx r3
    refine .inl ⟨a, vs, rfl, hq, fun p hp => Got.laid g3 s3 hp (newLst s3.sh ?_ hp)⟩
    unfold cutD cutV
    rw [← rs.1]
    exact rs.cut _ _
  | none =>
    rw [hx] at g3
    dsimp only at g3
    cases ht : tupOf x with
    | none => rw [ht] at g3; exact False.elim g3
    | some xs =>
      rw [ht] at g3
      obtain ⟨a, vs, rfl, hq, rs⟩ := tupOf_rep ht r3
      refine .inr ⟨a, vs, rfl, hq, fun ⟨w1, w2⟩ => ?_, fun _ p hp => Got.laid g3 s3 hp (newTup s3.sh ?_ hp)⟩
      · refine Got.now g3 s3 _ ?_
        have e : cutD xs l u = xs := by
          unfold cutD
          rw [rs.1, w1, w2, List.drop_zero, Nat.sub_zero, ← rs.1, List.take_length]
        rw [e]
        cases x with
        | tup ys => cases ht; exact r3
        | _ => cases ht
      · unfold cutD cutV
        rw [← rs.1]
        exact rs.cut _ _

/-! ### calls of built-in functions -/
def OkC (C : List (V × D)) (K : PySem.W.Frag) (r : List V → Hp → VK → Prop) (f : FF) : Prop := ∀ pn Z W σ env M H h ds vs (Q : VK), SR K C pn Z M env h σ H → Reps K (zn Z M) M H ds vs →
  Got K C pn Z W σ env M H (f ds h) (fun M' H' d => ∀ v, Rep K (zn Z M') M' H' d v → Q v H') → r vs H Q
theorem tC_of {r : List V → Hp → VK → Prop} {f : FF} {t : MA} (k : OkC C X.K r f) {σ : L2.St} {H : Hp} {Q : VK} (q : tE X.K C X.pn W (cCall f t) σ H Q) : tCB r (tA X.K C X.pn W t) σ H Q := by
  obtain ⟨Z, M, env, h, s, g⟩ := q
  exact tA.step s g fun M1 H1 h1 ds vs e1 s1 r1 g1 => k X.pn Z W σ env M1 H1 h1 ds vs Q s1 r1 g1
theorem se_callB {x : Str} {id : String} {r : List V → Hp → VK → Prop} {f : FF} {p : Pos} {e : Expr} {es : List Expr} {t : MA} (hc : CallR X (.builtin id) r) (k : OkC C X.K r f) (hg : Gl X x) (hm : X.mg x = none) (hv : bootBuiltins x = some (.builtin id)) (ha : SA C X W (e :: es) t) (hn : x ≠ "__name__" := by decide) (hdb : (x == ("__debug__" : Str)) = false := by decide)
    (he : starEach (e :: es) X.env = (false, eval e X.env) :: starEach es X.env := by rfl) (hpl : (backTo pos (starEach es X.env)).any (·.1) = false := by rfl) : SE C X W (.Call (.Name x p) (e :: es) [] pos) (cCall f t) :=
  PE.weak (pe_callB hc hg hm hv ha hn hdb he hpl) fun σ H Q q => tC_of k q
theorem se_callTy {x : Str} {T : String} {r : List V → Hp → VK → Prop} {f : FF} {p : Pos} {e : Expr} {es : List Expr} {t : MA} (hc : CallR X (.type T) r) (k : OkC C X.K r f) (hg : Gl X x) (hm : X.mg x = none) (hv : bootBuiltins x = some (.type T)) (ha : SA C X W (e :: es) t) (hn : x ≠ "__name__" := by decide) (hdb : (x == ("__debug__" : Str)) = false := by decide)
    (he : starEach (e :: es) X.env = (false, eval e X.env) :: starEach es X.env := by rfl) (hpl : (backTo pos (starEach es X.env)).any (·.1) = false := by rfl) : SE C X W (.Call (.Name x p) (e :: es) [] pos) (cCall f t) :=
  PE.weak (pe_callTy hc hg hm hv ha hn hdb he hpl) fun σ H Q q => tC_of k q
end
section
variable {K : PySem.W.Frag} {C : List (V × D)}
theorem okc1 {r : List V → Hp → VK → Prop} {f : D → List D → R D} (k : ∀ pn Z W σ env M H h d v (Q : VK), SR K C pn Z M env h σ H → Rep K (zn Z M) M H d v → Got K C pn Z W σ env M H (f d h) (fun M' H' d => ∀ v, Rep K (zn Z M') M' H' d v → Q v H') → r [v] H Q) :
    OkC C K r (fun ds h => match ds with
      | [d] => f d h
      | _ => .bad) := by
  intro pn Z W σ env M H h ds vs Q s rs g
  match ds, rs, g with
  | [], _, g => exact False.elim g
  | _ :: _ :: _, _, g => exact False.elim g
  | [d], rs, g =>
    obtain ⟨v, ws, rfl, q1, q2⟩ := rs.cases_cons
    obtain rfl := q2.cases_nil
    exact k pn Z W σ env M H h d v Q s q1 g
theorem okc2 {r : List V → Hp → VK → Prop} {f : D → D → List D → R D} (k : ∀ pn Z W σ env M H h d e v w (Q : VK), SR K C pn Z M env h σ H → Rep K (zn Z M) M H d v → Rep K (zn Z M) M H e w → Got K C pn Z W σ env M H (f d e h) (fun M' H' d => ∀ v, Rep K (zn Z M') M' H' d v → Q v H') → r [v, w] H Q) :
    OkC C K r (fun ds h => match ds with
      | [d, e] => f d e h
      | _ => .bad) := by
  intro pn Z W σ env M H h ds vs Q s rs g
  match ds, rs, g with
  | [], _, g => exact False.elim g
  | [_], _, g => exact False.elim g
  | _ :: _ :: _ :: _, _, g => exact False.elim g
  | [d, e], rs, g =>
    obtain ⟨v, ws, rfl, q1, q2⟩ := rs.cases_cons
    obtain ⟨w, zs, rfl, q3, q4⟩ := q2.cases_cons
    obtain rfl := q4.cases_nil
    exact k pn Z W σ env M H h d e v w Q s q1 q3 g
abbrev f1 (f : D → List D → R D) : FF := fun ds h => match ds with
  | [d] => f d h
  | _ => .bad
abbrev f2 (f : D → D → List D → R D) : FF := fun ds h => match ds with
  | [d, e] => f d e h
  | _ => .bad
/-- len -/
def lenD : D → List D → R D := fun d h => match d with
  | .str z => bif decide (z.length ≤ sizeLine) then .ok (.int z.length) h else .bad
  | d => match dicOf h d with
    | some (ks, _) => .ok (.int ks.length) h
    | none => match seqOf h d with
      | some xs => .ok (.int xs.length) h
      | none => .bad
def rLenD : List V → Hp → VK → Prop := fun xs H Q => ∃ a kvs, xs = [V.ref a] ∧ Rd H a (.dK kvs) ∧ Q (.int kvs.length) H
theorem call_lenR {X : Cx} : CallR X (.builtin "len") rLenD := by
  intro pins s σ H xs us Q I r h
  obtain ⟨a, kvs, rfl, ha, q⟩ := h
  obtain ⟨u, rfl, ru⟩ := vals1 r
  cases ru
  exact d_len I ha fun t s' I' => ⟨.int kvs.length, H, I', ⟨t, rfl⟩, q⟩
abbrev rLenA (K : PySem.W.Frag) : List V → Hp → VK → Prop := fun xs H Q => (∃ z, xs = [.str z] ∧ z.length ≤ sizeLine ∧ Q (.int z.length) H) ∨ rLenD xs H Q ∨ (∃ p ys, xs = [.ref p] ∧ (SqL K H p ys ∨ SqT K H p ys) ∧ Q (.int ys.length) H)
theorem call_lenA {X : Cx} : CallR X (.builtin "len") (rLenA X.K) := call_len_str.or (call_lenR.or call_len_seq)
theorem kc_len : OkC C K (rLenA K) (f1 lenD) := okc1 fun pn Z W σ env M H h d v Q s r g => by
  have rest : Got K C pn Z W σ env M H (match dicOf h d with
    | some (ks, _) => R.ok (D.int ks.length) h
    | none => match seqOf h d with
      | some xs => .ok (.int xs.length) h
      | none => .bad) (fun M' H' d => ∀ v, Rep K (zn Z M') M' H' d v → Q v H') → rLenA K [v] H Q := fun g => by
    cases e1 : dicOf h d with
    | some p =>
      obtain ⟨ks, ds⟩ := p
      rw [e1] at g
      obtain ⟨a, kvs, rfl, hr, rfl, rs⟩ := dicOf_rep s.sh e1 r
      refine .inr (.inl ⟨a, kvs, rfl, hr, ?_⟩)
      have := Got.now g s _ (.int _)
      rw [List.length_map] at this
      exact this
    | none =>
      rw [e1] at g
      dsimp only at g
      cases e2 : seqOf h d with
      | none => rw [e2] at g; exact False.elim g
      | some xs =>
        rw [e2] at g
        obtain ⟨a, vs, rfl, hr, rs⟩ := seqOf_rep s.sh e2 r
        refine .inr (.inr ⟨a, vs, rfl, hr, ?_⟩)
        rw [← rs.1]
        exact Got.now g s _ (.int _)
  cases d with
  | str z =>
    cases r
    unfold lenD at g
    dsimp only at g
    cases hb : decide (z.length ≤ sizeLine) with
    | false => rw [hb] at g; exact False.elim g
    | true => rw [hb] at g; exact .inl ⟨z, rfl, of_decide_eq_true hb, Got.now g s _ (.int _)⟩
  | _ => exact rest g
/-- abs, int, str of a text, min, max -/
def absD : D → List D → R D := fun d h => match d with
  | .int i => .ok (.int (if i < 0 then -i else i)) h
  | _ => .bad
theorem kc_abs : OkC C K (fun xs H Q => ∃ i, xs = [.int i] ∧ Q (.int (if i < 0 then -i else i)) H) (f1 absD) := okc1 fun pn Z W σ env M H h d v Q s r g => by
  cases r with
  | int i => exact ⟨i, rfl, Got.now g s _ (.int _)⟩
  | _ => exact False.elim g
def intD : D → List D → R D := fun d h => match d with
  | .int i => .ok (.int i) h
  | .bl k => .ok (.int (if k then 1 else 0)) h
  | _ => .bad
theorem kc_int : OkC C K (fun xs H Q => (∃ i, xs = [.int i] ∧ Q (.int i) H) ∨ ∃ k, xs = [.bl k] ∧ Q (.int (if k then 1 else 0)) H) (f1 intD) := okc1 fun pn Z W σ env M H h d v Q s r g => by
  cases r with
  | int i => exact .inl ⟨i, rfl, Got.now g s _ (.int _)⟩
  | bl k => exact .inr ⟨k, rfl, Got.now g s _ (.int _)⟩
  | _ => exact False.elim g
def strD : D → List D → R D := fun d h => match d with
  | .str x => .ok (.str x) h
  | .int i => bif decide (i.natAbs.log2 < 1920) then .ok (.str (toString i)) h else .bad
  | _ => .bad
theorem kc_str : OkC C K (fun xs H Q => (∃ a, xs = [.str a] ∧ Q (.str a) H) ∨ ∃ i, xs = [.int i] ∧ i.natAbs.log2 < 1920 ∧ Q (.str (toString i)) H) (f1 strD) := okc1 fun pn Z W σ env M H h d v Q s r g => by
  cases r with
  | str x => exact .inl ⟨x, rfl, Got.now g s _ (.str _)⟩
  | int i =>
    unfold strD at g
    dsimp only at g
    cases hb : decide (i.natAbs.log2 < 1920) with
    | false => rw [hb] at g; exact False.elim g
    | true => rw [hb] at g; exact .inr ⟨i, rfl, of_decide_eq_true hb, Got.now g s _ (.str _)⟩
  | _ => exact False.elim g
theorem call_strA {X : Cx} : CallR X (.type "str") (fun xs H Q => (∃ a, xs = [.str a] ∧ Q (.str a) H) ∨ ∃ i, xs = [.int i] ∧ i.natAbs.log2 < 1920 ∧ Q (.str (toString i)) H) := CallR.or SkE.call_str_str call_str_int
def maxD : D → D → List D → R D := fun x y h => match x, y with
  | .int i, .int j => .ok (.int (if j > i then j else i)) h
  | _, _ => .bad
theorem kc_max : OkC C K (fun xs H Q => ∃ i j, xs = [.int i, .int j] ∧ Q (.int (if j > i then j else i)) H) (f2 maxD) := okc2 fun pn Z W σ env M H h d e v w Q s r q g => by
  cases r with
  | int i =>
    cases q with
    | int j => exact ⟨i, j, rfl, Got.now g s _ (.int _)⟩
    | _ => exact False.elim g
  | _ => exact False.elim g
def minD : D → D → List D → R D := fun x y h => match x, y with
  | .int i, .int j => .ok (.int (if j < i then j else i)) h
  | _, _ => .bad
theorem kc_min : OkC C K (fun xs H Q => ∃ i j, xs = [.int i, .int j] ∧ Q (.int (if j < i then j else i)) H) (f2 minD) := okc2 fun pn Z W σ env M H h d e v w Q s r q g => by
  cases r with
  | int i =>
    cases q with
    | int j => exact ⟨i, j, rfl, Got.now g s _ (.int _)⟩
    | _ => exact False.elim g
  | _ => exact False.elim g
/-- the items, all ints, all texts, all bools -/
def intsOf : List D → Option (List Int)
  | [] => some []
  | .int i :: r => (intsOf r).map (i :: ·)
  | _ => none
def strsOf : List D → Option (List Str)
  | [] => some []
  | .str i :: r => (strsOf r).map (i :: ·)
  | _ => none
def blsOf : List D → Option (List Bool)
  | [] => some []
  | .bl i :: r => (blsOf r).map (i :: ·)
  | _ => none
section
variable {Z : Addr → Prop} {M : List Addr} {H : Hp}
theorem intsOf_rep : ∀ {ds : List D} {vs : List V} {ns : List Int}, intsOf ds = some ns → Reps K Z M H ds vs → vs = ns.map V.int
  | [], vs, ns, e, r => by cases e; exact r.cases_nil
  | d :: ds, vs, ns, e, r => by
    obtain ⟨v, ws, rfl, q1, q2⟩ := r.cases_cons
    cases q1 with
    | int i =>
      unfold intsOf at e
      cases hx : intsOf ds with
      | none => rw [hx] at e; cases e
      | some ms => rw [hx] at e; cases e; rw [intsOf_rep hx q2]; rfl
    | _ => cases e
theorem strsOf_rep : ∀ {ds : List D} {vs : List V} {ns : List Str}, strsOf ds = some ns → Reps K Z M H ds vs → vs = ns.map V.str
  | [], vs, ns, e, r => by cases e; exact r.cases_nil
  | d :: ds, vs, ns, e, r => by
    obtain ⟨v, ws, rfl, q1, q2⟩ := r.cases_cons
    cases q1 with
    | str i =>
      unfold strsOf at e
      cases hx : strsOf ds with
      | none => rw [hx] at e; cases e
      | some ms => rw [hx] at e; cases e; rw [strsOf_rep hx q2]; rfl
    | _ => cases e
theorem blsOf_rep : ∀ {ds : List D} {vs : List V} {ns : List Bool}, blsOf ds = some ns → Reps K Z M H ds vs → vs = ns.map V.bl
  | [], vs, ns, e, r => by cases e; exact r.cases_nil
  | d :: ds, vs, ns, e, r => by
    obtain ⟨v, ws, rfl, q1, q2⟩ := r.cases_cons
    cases q1 with
    | bl i =>
      unfold blsOf at e
      cases hx : blsOf ds with
      | none => rw [hx] at e; cases e
      | some ms => rw [hx] at e; cases e; rw [blsOf_rep hx q2]; rfl
    | _ => cases e
theorem reps_strs : ∀ ns : List Str, Reps K Z M H (ns.map .str) (ns.map V.str)
  | [] => Reps.nil
  | n :: ns => Reps.cons (.str n) (reps_strs ns)
theorem reps_ints : ∀ ns : List Int, Reps K Z M H (ns.map .int) (ns.map V.int)
  | [] => Reps.nil
  | n :: ns => Reps.cons (.int n) (reps_ints ns)
end
def sumD : D → List D → R D := fun d h => match lstOf h d with
  | some xs => (match intsOf xs with
    | some ns => .ok (.int ns.sum) h
    | none => .bad)
  | none => .bad
theorem kc_sum : OkC C K (rSum K) (f1 sumD) := okc1 fun pn Z W σ env M H h d v Q s r g => by
  unfold sumD at g
  cases e1 : lstOf h d with
  | none => rw [e1] at g; exact False.elim g
  | some xs =>
    rw [e1] at g
    dsimp only at g
    obtain ⟨a, vs, rfl, hr, rs⟩ := lstOf_rep s.sh e1 r
    cases e2 : intsOf xs with
    | none => rw [e2] at g; exact False.elim g
    | some ns =>
      rw [e2] at g
      obtain rfl := intsOf_rep e2 rs
      exact ⟨a, ns, rfl, hr, Got.now g s _ (.int _)⟩
def allD : D → List D → R D := fun d h => match lstOf h d with
  | some xs => (match blsOf xs with
    | some ns => .ok (.bl (ns.all id)) h
    | none => .bad)
  | none => .bad
theorem kc_all : OkC C K (rAll K) (f1 allD) := okc1 fun pn Z W σ env M H h d v Q s r g => by
  unfold allD at g
  cases e1 : lstOf h d with
  | none => rw [e1] at g; exact False.elim g
  | some xs =>
    rw [e1] at g
    dsimp only at g
    obtain ⟨a, vs, rfl, hr, rs⟩ := lstOf_rep s.sh e1 r
    cases e2 : blsOf xs with
    | none => rw [e2] at g; exact False.elim g
    | some ns =>
      rw [e2] at g
      obtain rfl := blsOf_rep e2 rs
      exact ⟨a, ns, rfl, hr, Got.now g s _ (.bl _)⟩
def anyD : D → List D → R D := fun d h => match lstOf h d with
  | some xs => (match blsOf xs with
    | some ns => .ok (.bl (ns.any id)) h
    | none => .bad)
  | none => .bad
theorem kc_any : OkC C K (rAny K) (f1 anyD) := okc1 fun pn Z W σ env M H h d v Q s r g => by
  unfold anyD at g
  cases e1 : lstOf h d with
  | none => rw [e1] at g; exact False.elim g
  | some xs =>
    rw [e1] at g
    dsimp only at g
    obtain ⟨a, vs, rfl, hr, rs⟩ := lstOf_rep s.sh e1 r
    cases e2 : blsOf xs with
    | none => rw [e2] at g; exact False.elim g
    | some ns =>
      rw [e2] at g
      obtain rfl := blsOf_rep e2 rs
      exact ⟨a, ns, rfl, hr, Got.now g s _ (.bl _)⟩
end
end G

set_option Elab.async false
set_option linter.all false
set_option maxRecDepth 100000
set_option maxHeartbeats 4000000
/-! G11: sorted texts, isinstance, repr, chains of comparisons, stores, methods of lists, a, b = x, y. -/
namespace G
open PySem PySem.Spec PyProof.Rows L2

/-! ### sorted, of texts -/
def leS (a b : Str) : Bool := !ltCps b.cps.toList a.cps.toList
def insS (x : Str) : List Str → List Str
  | [] => [x]
  | y :: r => bif leS x y then x :: y :: r else y :: insS x r
def sortS : List Str → List Str
  | [] => []
  | x :: r => insS x (sortS r)
theorem leS_iff {a b : Str} : leS a b = true ↔ a.cps.toList ≤ b.cps.toList := by
  unfold leS
  rw [ltCps_eq, Bool.not_eq_true', decide_eq_false_iff_not, List.not_lt]
theorem leS_trans (a b c : Str) (h1 : leS a b = true) (h2 : leS b c = true) : leS a c = true := leS_iff.mpr (List.le_trans (leS_iff.mp h1) (leS_iff.mp h2))
theorem leS_total (a b : Str) : (leS a b || leS b a) = true := by
  rw [Bool.or_eq_true]
  exact (List.le_total a.cps.toList b.cps.toList).imp leS_iff.mpr leS_iff.mpr
theorem leS_anti {a b : Str} (h1 : leS a b = true) (h2 : leS b a = true) : a = b := by
  have := List.le_antisymm (leS_iff.mp h1) (leS_iff.mp h2)
  obtain ⟨⟨a⟩⟩ := a
  obtain ⟨⟨b⟩⟩ := b
  cases this
  rfl
theorem insS_perm (x : Str) : ∀ l : List Str, (insS x l).Perm (x :: l)
  | [] => .refl _
  | y :: r => by
    unfold insS
    cases h : leS x y with
    | true => exact .refl _
    | false => exact ((insS_perm x r).cons y).trans (.swap _ _ _)
theorem sortS_perm : ∀ l : List Str, (sortS l).Perm l
  | [] => .refl _
  | x :: r => (insS_perm x (sortS r)).trans ((sortS_perm r).cons x)
theorem insS_pw (x : Str) : ∀ l : List Str, l.Pairwise (fun a b => leS a b = true) → (insS x l).Pairwise fun a b => leS a b = true
  | [], _ => List.pairwise_singleton _ _
  | y :: r, h => by
    obtain ⟨h1, h2⟩ := List.pairwise_cons.mp h
    unfold insS
    cases e : leS x y with
    | true =>
      refine List.pairwise_cons.mpr ⟨fun z hz => ?_, h⟩
      rcases List.mem_cons.mp hz with rfl | hz
      · exact e
      · exact leS_trans _ _ _ e (h1 z hz)
    | false =>
      refine List.pairwise_cons.mpr ⟨fun z hz => ?_, insS_pw x r h2⟩
      rcases List.mem_cons.mp ((insS_perm x r).mem_iff.mp hz) with rfl | hz
      · have := leS_total z y
        rw [e, Bool.false_or] at this
        exact this
      · exact h1 z hz
theorem sortS_pw : ∀ l : List Str, (sortS l).Pairwise fun a b => leS a b = true
  | [] => List.Pairwise.nil
  | x :: r => insS_pw x _ (sortS_pw r)
theorem rising_pw : ∀ (p : Str) (l : List Str), risingS p l = true → (p :: l).Pairwise fun a b => leS a b = true
  | p, [], _ => List.pairwise_singleton _ _
  | p, x :: r, h => by
    have h : (!ltCps x.cps.toList p.cps.toList && risingS x r) = true := h
    rw [Bool.and_eq_true] at h
    have ih := rising_pw x r h.2
    refine List.pairwise_cons.mpr ⟨fun y hy => ?_, ih⟩
    have hp : leS p x = true := h.1
    rcases List.mem_cons.mp hy with rfl | hy
    · exact hp
    · exact leS_trans _ _ _ hp (List.rel_of_pairwise_cons ih hy)
theorem sorted_pw : ∀ (l : List Str), sortedS l = true → l.Pairwise fun a b => leS a b = true
  | [], _ => List.Pairwise.nil
  | x :: r, h => rising_pw x r h
theorem sortS_eq {xs ys : List Str} (hp : ys.Perm xs) (hs : sortedS ys = true) : ys = sortS xs :=
  List.Perm.eq_of_pairwise (le := fun a b => leS a b = true) (fun a b _ _ h1 h2 => leS_anti h1 h2) (sorted_pw ys hs) (sortS_pw xs) (hp.trans (sortS_perm xs).symm)
section
variable {K : PySem.W.Frag} {C : List (V × D)}
def sortedD : D → List D → R D := fun d h => match lstOf h d with
  | some xs => (match strsOf xs with
    | some ns => bif decide (ns.length < 64) then .ok (.lst ((sortS ns).map .str)) h else .bad
    | none => .bad)
  | none => .bad
theorem kc_sorted : OkC C K (rSortedS K) (f1 sortedD) := okc1 fun pn Z W σ env M H h d v Q s r g => by
  unfold sortedD at g
  cases e1 : lstOf h d with
  | none => rw [e1] at g; exact False.elim g
  | some xs =>
    rw [e1] at g
    dsimp only at g
    obtain ⟨a, vs, rfl, hr, rs⟩ := lstOf_rep s.sh e1 r
    cases e2 : strsOf xs with
    | none => rw [e2] at g; exact False.elim g
    | some ns =>
      rw [e2] at g
      dsimp only at g
      obtain rfl := strsOf_rep e2 rs
      cases hb : decide (ns.length < 64) with
      | false => rw [hb] at g; exact False.elim g
      | true =>
        rw [hb] at g
        refine ⟨a, ns, rfl, hr, of_decide_eq_true hb, fun ys p hp hs hn => ?_⟩
        rw [sortS_eq hp hs]
        exact Got.laid g s hn (newLst s.sh (reps_strs _) hn)

/-! ### repr -/
def reprD : D → List D → R D := fun d h => match toPy pyF h d with
  | some p => bif p.showable && (!p.hasDict && (decide (p.depth ≤ 60) && decide (p.shown.length ≤ sizeLine))) then .ok (.str p.shown) h else .bad
  | none => .bad
def rRepr (K : PySem.W.Frag) : List V → Hp → VK → Prop := fun xs H Q => ∃ v p, xs = [v] ∧ Dp K H v p ∧ p.showable = true ∧ p.hasDict = false ∧ p.depth ≤ 60 ∧ p.shown.length ≤ sizeLine ∧ Q (.str p.shown) H
theorem call_repr {X : Cx} (hg : X.A.guards = some []) (hu : X.A.units + 64 < cLine) : CallR X (.builtin "repr") (rRepr X.K) := by
  intro pins s σ H xs us Q I r h
  obtain ⟨v, p, rfl, dp, h1, h2, h3, h4, q⟩ := h
  obtain ⟨u, rfl, rv⟩ := vals1 r
  cases v with
  | ref a =>
    cases rv
    obtain ⟨as, hr⟩ := Dp.reads I p _ _ dp rfl
    exact repr_of_reads' hr h1 (PyData.noDict_hsm h2) hg (by omega) (fun _ _ e => e) (fun h' t tk k => ⟨.str p.shown, H, I.kept k, ⟨_, rfl⟩, q⟩) h4
  | non =>
    cases rv
    cases dp
    simp only [PyData.shown] at q
    exact PySem.P.repr_of_none ⟨.str "None", H, I.tok _, ⟨_, rfl⟩, q⟩
  | bl b =>
    cases rv
    cases dp
    simp only [PyData.shown] at q
    exact PySem.P.repr_of_bool ⟨.str (if b then "True" else "False"), H, I.tok _, ⟨_, rfl⟩, q⟩
  | int i =>
    obtain ⟨t, rfl⟩ := rv
    cases dp
    simp only [PyData.shown] at q
    simp only [PyData.showable] at h1
    exact PySem.P.repr_of_int (of_decide_eq_true h1) ⟨.str (toString i), H, I.tok _, ⟨_, rfl⟩, q⟩
  | str x =>
    obtain ⟨t, rfl⟩ := rv
    cases dp
    simp only [PyData.shown] at q h4
    exact PySem.P.repr_of_str ⟨.str (reprText x), H, I.tok _, ⟨_, rfl⟩, q⟩ h4
  | _ => cases dp
theorem kc_repr : OkC C K (rRepr K) (f1 reprD) := okc1 fun pn Z W σ env M H h d v Q s r g => by
  unfold reprD at g
  cases e1 : toPy pyF h d with
  | none => rw [e1] at g; exact False.elim g
  | some p =>
    rw [e1] at g
    dsimp only at g
    cases hb : p.showable && (!p.hasDict && (decide (p.depth ≤ 60) && decide (p.shown.length ≤ sizeLine))) with
    | false => rw [hb] at g; exact False.elim g
    | true =>
      rw [hb] at g
      obtain ⟨b1, b2⟩ := Bool.and_eq_true_iff.mp hb
      obtain ⟨b2, b3⟩ := Bool.and_eq_true_iff.mp b2
      obtain ⟨b3, b4⟩ := Bool.and_eq_true_iff.mp b3
      exact ⟨v, p, rfl, toPy_dp s.sh e1 r, b1, by simpa using b2, of_decide_eq_true b3, of_decide_eq_true b4, Got.now g s _ (.str _)⟩
end

theorem lookup_in {α β : Type} [BEq α] [LawfulBEq α] {a : α} {b : β} : ∀ {l : List (α × β)}, l.lookup a = some b → (a, b) ∈ l
  | [], e => by cases e
  | p :: l, e => by
    rw [List.lookup_cons] at e
    cases h : a == p.1 with
    | true =>
      rw [h] at e
      cases e
      obtain rfl := eq_of_beq h
      exact List.mem_cons_self
    | false =>
      rw [h] at e
      exact List.mem_cons_of_mem _ (lookup_in e)
/-! ### isinstance(x, T), T a built-in type -/
def tyD (h : List D) : D → Option String
  | .non => some "NoneType"
  | .bl _ => some "bool"
  | .int _ => some "int"
  | .str _ => some "str"
  | .tup _ => some "tuple"
  | .lst _ => some "list"
  | .dic _ _ => some "dict"
  | .loc n => match h[n]? with
    | some (.lst _) => some "list"
    | some (.dic _ _) => some "dict"
    | some (.lck _ _) => some "dict"
    | _ => none
  | _ => none
theorem tyD_rep {K : PySem.W.Frag} {C : List (V × D)} {Z : Addr → Prop} {M : List Addr} {H : Hp} {h : List D} {d : D} {v : V} {T : String} (s : Sh K C Z M h H) (e : tyD h d = some T) (r : Rep K (zn Z M) M H d v) : TyX K H v (.type T) := by
  cases r with
  | non => cases e; exact .base .non
  | bl b => cases e; exact .base (.bl b)
  | int i => cases e; exact .base (.int i)
  | str x => cases e; exact .base (.str x)
  | tup z ha l q =>
    cases e
    rcases ha with ha | ⟨o, ha⟩
    · exact .base (.tup ha)
    · exact .fTuple ha
  | lst z ha l q => cases e; exact .base (.lst ha)
  | dic z ha k l q =>
    cases e
    rcases ha with ha | ⟨o, ha⟩
    · exact .base (.dK ha)
    · exact .fDict ha
  | loc hm =>
    rename_i n a
    unfold tyD at e
    dsimp only at e
    cases hx : h[n]? with
    | none => rw [hx] at e; cases e
    | some c =>
      rw [hx] at e
      cases c with
      | lst ys => cases e; obtain ⟨vs, q, rs⟩ := s.cel n a _ hm hx; exact .base (.lst q)
      | dic ks ds => cases e; obtain ⟨vs, q, k, rs⟩ := s.cel n a _ hm hx; exact .base (.dK q)
      | lck ks ds => cases e; obtain ⟨vs, o, q, k, rs⟩ := s.cel n a _ hm hx; exact .fDict q
      | _ => cases e
  | _ => cases e
def cIsi (tys : List (String × Bool)) (m : ME) : ME := fun env h => (m env h).bind fun d h1 => match tyD h1 d with
  | some t => (match tys.lookup t with
    | some b => .ok (.bl b) h1
    | none => .bad)
  | none => .bad
section
variable {C : List (V × D)} {X : Cx} {W : WX} {pos : Pos}
theorem se_isi {e : Expr} {T : Str} {Ts : String} {m : ME} {tys : List (String × Bool)} {p p2 : Pos} (hg : Gl X "isinstance") (hm : X.mg "isinstance" = none) (he : SE C X W e m) (gT : Gl X T) (mT : X.mg T = none) (vT : bootBuiltins T = some (.type Ts)) (nT : T ≠ "__name__") (dT : (T == ("__debug__" : Str)) = false)
    (hk : ∀ q ∈ tys, kitB q.1 Ts = some q.2) (hs : starEach [e, .Name T p2] X.env = (false, eval e X.env) :: starEach [.Name T p2] X.env := by rfl) (hs2 : starEach [.Name T p2] X.env = (false, eval (.Name T p2) X.env) :: starEach [] X.env := by rfl) (hpl : (backTo pos (starEach [.Name T p2] X.env)).any (·.1) = false := by rfl) :
    SE C X W (.Call (.Name "isinstance" p) [e, .Name T p2] [] pos) (cIsi tys m) := by
  refine PE.weak (pe_callB call_isi hg hm PyProof.Rows.boot_isinstance (pa_cons he (pa_cons (pe_bltn (v := .ty Ts) gT mT vT rfl nT dT) pa_nil hs2) hs) (by decide) (by decide) hs hpl) fun σ H Q ⟨Z, M, env, h, s, g⟩ => ?_
  refine tE.step s g fun M1 H1 h1 d v e1 s1 r1 g1 => ?_
  show ∃ (x c : V) (t u : Value) (b : Bool), _
  cases et : tyD h1 d with
  | none => rw [et] at g1; exact False.elim g1
  | some t =>
    rw [et] at g1
    dsimp only at g1
    cases el : tys.lookup t with
    | none => rw [el] at g1; exact False.elim g1
    | some b =>
      rw [el] at g1
      exact ⟨v, .ty Ts, .type t, .type Ts, b, rfl, .ty Ts, tyD_rep s1.sh et r1, kit_ty (hk (t, b) (lookup_in el)), Got.now g1 s1 _ (.bl b)⟩

/-! ### chains -/
def cChain (f f' : D → D → List D → R D) (a b c : ME) : ME := fun env h => (a env h).bind fun x h1 => (b env h1).bind fun y h2 => (f x y h2).bind fun z h3 => match z with
  | .bl true => (c env h3).bind fun w h4 => f' y w h4
  | .bl false => .ok (.bl false) h3
  | _ => .bad
theorem chain_of {op op' : CmpOp} {r r' : R2} {f f' : D → D → List D → R D} {ma mb mc : ME} (k : Ok2 C X.K r f) (k' : Ok2 C X.K r' f') {σ : L2.St} {H : Hp} {Q : VK} (t : tE X.K C X.pn W (cChain f f' ma mb mc) σ H Q) : tChain r r' (tE X.K C X.pn W ma) (tE X.K C X.pn W mb) (tE X.K C X.pn W mc) σ H Q := by
  obtain ⟨Z, M, env, h, s, g⟩ := t
  refine tE.step s g fun M1 H1 h1 x v e1 s1 r1 g1 => ?_
  refine tE.step s1 g1 fun M2 H2 h2 y w e2 s2 r2 g2 => ?_
  have r1' := r1.mono e2
  refine k X.pn Z W σ env M2 H2 h2 x y v w _ s2 r1' r2 ?_
  cases e : f x y h2 with
  | bad => rw [e] at g2; exact g2
  | exc c ns ds h3 => rw [e] at g2; exact g2
  | ok z h3 =>
    rw [e] at g2
    intro M3 H3 e3 s3 u rz
    have g2 := Got.later e3 g2
    cases z with
    | bl b =>
      cases rz
      cases b with
      | false => exact ⟨false, rfl, by rw [if_neg (by decide)]; exact Got.now g2 s3 _ (.bl _)⟩
      | true =>
        refine ⟨true, rfl, ?_⟩
        rw [if_pos rfl]
        refine tE.step s3 g2 fun M4 H4 h4 w' vw e4 s4 r4 g4 => ?_
        exact k' X.pn Z W σ env M4 H4 h4 y w' _ _ Q s4 ((r2.mono e3).mono e4) r4 g4
    | _ => exact False.elim g2
theorem se_chain {op op' : CmpOp} {r r' : R2} {f f' : D → D → List D → R D} {a b c : Expr} {ma mb mc : ME} (ho : OpR X (compareOp op) r) (k : Ok2 C X.K r f) (ho' : OpR X (compareOp op') r') (k' : Ok2 C X.K r' f') (ha : SE C X W a ma) (hb : SE C X W b mb) (hc : SE C X W c mc)
    (hm : lastMarks [op, op'] [b, c] = false := by with_unfolding_all rfl) : SE C X W (.Compare a [op, op'] [b, c] pos) (cChain f f' ma mb mc) :=
  PE.weak (pe_chain ho ho' ha hb hc hm) fun σ H Q t => chain_of (op := op) (op' := op') k k' t
theorem st_chain {op op' : CmpOp} {r r' : R2} {f f' : D → D → List D → R D} {a b c : Expr} {ma mb mc : ME} (ho : OpR X (compareOp op) r) (k : Ok2 C X.K r f) (ho' : OpR X (compareOp op') r') (k' : Ok2 C X.K r' f') (ha : SE C X W a ma) (hb : SE C X W b mb) (hc : SE C X W c mc)
    (hm : lastMarks [op, op'] [b, c] = false := by with_unfolding_all rfl) : ST C X W (.Compare a [op, op'] [b, c] pos) (cB (cChain f f' ma mb mc)) := by
  refine PT.weak (pt_chain ho ho' ha hb hc hm) fun σ H Q t => ?_
  exact chain_of (op := op) (op' := op') k k' (tB_of t)

/-! ### stores: o[i] = e, of a list or a dict -/
def sSub (o i e : ME) : MS := fun env h => (e env h).thenS env fun x h1 => (o env h1).thenS env fun t h2 => (i env h2).thenS env fun y h3 => match t with
  | .loc n => (match h3[n]? with
    | some (.lst xs) => (match y with
      | .int k => (match ixN xs.length k with
        | some j => .nx env (h3.set n (.lst (xs.set j x)))
        | none => .bad)
      | _ => .bad)
    | some (.dic ks ds) => (match keyOf y with
      | some k => bif decide (ks.length < sizeLine) then .nx env (h3.set n (.dic (kput ks ds k x).1 (kput ks ds k x).2)) else .bad
      | none => .bad)
    | _ => .bad)
  | _ => .bad
def rPut : TSet := fun o i v H Q => ∃ a H', o = .ref a ∧ DPut H a i v H' ∧ Q H'
theorem set_dict (hu : X.A.units + 1 < cLine) : PSet X rPut := by
  intro pins s σ H o i v ov iv u Q I ro ri rv h
  obtain ⟨a, H', rfl, g, q⟩ := h
  cases ro
  exact d_setItem hu I g ri rv fun s' I' => ⟨H', I', q⟩
theorem set_any (hu : X.A.units + 1 < cLine) : PSet X (fun o i v H Q => rSetL o i v H Q ∨ rPut o i v H Q) := by
  intro pins s σ H o i v ov iv u Q I ro ri rv h
  rcases h with h | h
  · exact set_list pins s σ H o i v ov iv u Q I ro ri rv h
  · exact set_dict hu pins s σ H o i v ov iv u Q I ro ri rv h
theorem ss_sub {o i e : Expr} {mo mi me : ME} {tpos : Pos} (hu : X.A.units + 1 < cLine) (ho : SE C X W o mo) (hi : SE C X W i mi) (he : SE C X W e me)
    (ha : ∀ v, assign (.Subscript o i tpos) X.env v = (do
      let ov ← holding [v] (eval o X.env)
      let iv ← holding [v, ov] (eval i X.env)
      standAt tpos
      holding [v, ov, iv] (setItem ov iv v)
      release [v, ov, iv] []) := by intro _; rfl) (hs : swapsWithSole [.Subscript o i tpos] e pos.line X.env = pure false := by rfl) (hw : swappedStores [.Subscript o i tpos] e X.env = pure none := by rfl)
    (h1 : (assignEach [.Subscript o i tpos] X.env).map (·.2) = [assign (.Subscript o i tpos) X.env] := by rfl) : SS C X W (.Assign [.Subscript o i tpos] e pos) (sSub mo mi me) := by
  refine PS.weak (ps_asg he (pg_sub ho hi (set_any hu) ha) hs hw h1) fun D' σ H ⟨Z, M, env, h, s, g⟩ => ?_
  refine tE.stepS s g fun M1 H1 h1 x v e1 s1 r1 g1 => ?_
  refine tE.stepS s1 g1 fun M2 H2 h2 t w e2 s2 r2 g2 => ?_
  refine tE.stepS s2 g2 fun M3 H3 h3 y u e3 s3 r3 g3 => ?_
  have rx := (r1.mono e2).mono e3
  have rt := r2.mono e3
  cases rt with
  | loc hm =>
    rename_i n a
    dsimp only at g3
    cases hx : h3[n]? with
    | none => rw [hx] at g3; exact False.elim g3
    | some c =>
      rw [hx] at g3
      cases c with
      | lst xs =>
        dsimp only at g3
        obtain ⟨vs, ha', rs⟩ := s3.sh.cel n a _ hm hx
        cases r3 with
        | int k =>
          dsimp only at g3
          cases hj : ixN xs.length k with
          | none => rw [hj] at g3; exact False.elim g3
          | some j =>
            rw [hj] at g3
            have nf : ∀ u w, H3 a ≠ some (.frz u w) := fun u w z => by rw [ha'] at z; cases z
            have ev := s3.sh.evw (o := .lst (vs.set j v)) hm nf
            refine .inl ⟨a, vs, k, j, rfl, rfl, ha', by rw [← rs.1]; exact hj, g3 M3 σ _ ev (s3.later ev (s3.sh.write hm nf ⟨_, upd_same, ((rs.set rx j).mono ev)⟩))⟩
        | _ => exact False.elim g3
      | dic ks ds =>
        dsimp only at g3
        obtain ⟨kvs, ha', hk, rs⟩ := s3.sh.cel n a _ hm hx
        subst hk
        cases hy : keyOf y with
        | none => rw [hy] at g3; exact False.elim g3
        | some k =>
          rw [hy] at g3
          dsimp only at g3
          cases hb : decide ((kvs.map (·.1)).length < sizeLine) with
          | false => rw [hb] at g3; exact False.elim g3
          | true =>
            rw [hb] at g3
            obtain rfl := keyOf_rep hy r3
            have nf : ∀ u w, H3 a ≠ some (.frz u w) := fun u w z => by rw [ha'] at z; cases z
            have ev := s3.sh.evw (o := .dK (putK kvs k v)) hm nf
            obtain ⟨q1, q2⟩ := kput_ok (k := k) (rx.mono ev) (rs.mono ev)
            refine .inr ⟨a, _, rfl, DPut.k ha' (by simpa using of_decide_eq_true hb), g3 M3 σ _ ev (s3.later ev (s3.sh.write hm nf ⟨_, upd_same, q1, q2⟩))⟩
      | _ => exact False.elim g3
  | _ => exact False.elim g3

/-! ### xs.append(e), xs.extend(e) as expressions -/
def appD (x y : D) (h : List D) : R D := match x with
  | .loc n => (match h[n]? with
    | some (.lst xs) => bif decide (xs.length < sizeLine) then .ok .non (h.set n (.lst (xs ++ [y]))) else .bad
    | _ => .bad)
  | _ => .bad
def cApp (o : ME) (e : ME) : ME := fun env h => (o env h).bind fun x h1 => bif (lstH h1 x).isSome then (e env h1).bind fun y h2 => appD x y h2 else .bad
theorem se_append {o e : Expr} {mo me : ME} {apos : Pos} (ho : SE C X W o mo) (he : SE C X W e me) (hbase : attributeBase o "append" X.env (eval o X.env) = eval o X.env := by rfl)
    (hs : starEach [e] X.env = (false, eval e X.env) :: starEach [] X.env := by rfl) : True := trivial
/-- {} -/
def cDicN : ME := fun _ h => .ok (.loc h.length) (h ++ [.dic [] []])
theorem se_dicN : SE C X W (.Dict [] [] pos) cDicN := PE.weak pe_dnewK fun σ H Q ⟨Z, M, env, h, s, g⟩ => fun p hp =>
  g (M ++ [p]) _ (Evo.newloc hp) (s.later (Evo.newloc hp) (s.sh.newloc hp ⟨[], upd_same, rfl, Reps.nil⟩)) _ (newLoc s.sh)

/-! ### a, b = x, y -/
def sPar (i j : Nat) (t : MA) : MS := fun env h => (t env h).thenS env fun ds h1 => match ds with
  | [d, e] => .nx ((env.set i (.v d)).set j (.v e)) h1
  | _ => .bad
theorem ss_par {i j : Nat} {x y : Str} {a b : Expr} {t : MA} {px py pt : Pos} {kt k2 pt2} (hc : X.calm = true) (hN : X.N.Nodup) (hi : X.N[i]? = some x) (hj : X.N[j]? = some y) (hij : i ≠ j)
    (hx : X.env.scope.names.lookup x = some .local) (hy : X.env.scope.names.lookup y = some .local) (ha : SA C X W [a, b] t)
    (hw : swappedStores [.Tuple [.Name x px, .Name y py] kt pt] (.Tuple [a, b] k2 pt2) X.env = pure (some [x, y]))
    (hs : swapsWithSole [.Tuple [.Name x px, .Name y py] kt pt] (.Tuple [a, b] k2 pt2) pos.line X.env = pure false := by rfl) :
    SS C X W (.Assign [.Tuple [.Name x px, .Name y py] kt pt] (.Tuple [a, b] k2 pt2) pos) (sPar i j t) := by
  refine PS.weak (ps_par hc hN hi hj hij hx hy ha hw hs) fun D' σ H ⟨Z, M, env, h, s, g⟩ => ?_
  refine tA.stepS s g fun M1 H1 h1 ds vs e1 s1 r1 g1 => ?_
  match ds, r1, g1 with
  | [], _, g1 => exact False.elim g1
  | [_], _, g1 => exact False.elim g1
  | _ :: _ :: _ :: _, _, g1 => exact False.elim g1
  | [d, e], r1, g1 =>
    obtain ⟨v, ws, rfl, q1, q2⟩ := r1.cases_cons
    obtain ⟨w, zs, rfl, q3, q4⟩ := q2.cases_cons
    obtain rfl := q4.cases_nil
    exact ⟨v, w, rfl, g1 M1 _ H1 (.refl M1 H1) ((s1.set q1).set q3)⟩
end
end G

set_option Elab.async false
set_option linter.all false
set_option maxRecDepth 100000
set_option maxHeartbeats 4000000
/-! G12: obj[i], obj[i] = x, x in obj, len(obj) by the class's own defs; xs.append; d.get. -/
namespace G
open PySem PySem.Spec PyProof.Rows L2

section
variable {prog : Program} {w : World} {A : Around} {E : Value → Shared → Prop} {s : Shared} {K : PySem.W.Frag} {Ca a f : Addr} {o : Obj}
theorem own_spec {M : Model} {h : Heap} {name : Str} (X : K.In h) (ho : h.get? a = some o) (hc : o.cls = .ref Ca) (hf : PySem.W.findIn K (.ref Ca) name = some (some (.ref f))) : PySem.W.Looks M h (specialOf (.ref a) name) (some (.ref f)) :=
  (NwA.type_at ho hc).andThen (PySem.W.looks_findIn X hf)
theorem own_call {M : Model} {name : Str} {args : List Value} {Q : Option Value → Shared → Prop} (X : K.In s.heap) (ho : s.heap.get? a = some o) (hc : o.cls = .ref Ca) (hm : Meth K Ca name f) (h : wpAny M A (call (.ref f) (.ref a :: args)) (fun v => Q (some v)) E s) :
    wpAny M A (callSpecial? (.ref a) name args) Q E s := by
  simp only [callSpecial?]
  refine wpAny_bind ((own_spec X ho hc hm.at_).here ?_)
  refine wpAny_holding (wpAny_bind ((PySem.W.bind_fn X (.ref a) (beq_iff_eq.mp hm.fn)).here ?_))
  exact wpAny_bind (wpAny_mono h (fun v s' h' => wpAny_pure h') fun _ _ h' => h')
theorem own_seqkey {M : Model} {h : Heap} {k : Value} {name : Str} (X : K.In h) (nd : PySem.W.mroIn K Ca (.type "collections.deque") = some false) (hy : h.get? a = some o) (hc : o.cls = .ref Ca) : PySem.W.Looks M h (sequenceKey (.ref a) k name) k := by
  have t1 : PySem.W.Looks M h (typeOf (.ref a)) (.ref Ca) := NwA.type_at hy hc
  have dq : PySem.W.Looks M h (seqItemTypes.anyM fun n => isSubtype (.ref Ca) (.type n)) false := by
    show PySem.W.Looks M h (isSubtype (.ref Ca) (.type "collections.deque") >>= fun b => _) false
    exact (PySem.W.looks_mroIn X nd).andThen .now
  intro A Q E s kp q
  unfold sequenceKey
  refine wpAny_bind (t1 A _ E s kp ?_)
  dsimp only
  refine wpAny_bind (dq A _ E s kp ?_)
  exact wpAny_pure q
theorem own_getItem {M : Model} {k : Value} {Q : Value → Shared → Prop} (X : K.In s.heap) (nd : PySem.W.mroIn K Ca (.type "collections.deque") = some false) (hy : s.heap.get? a = some o) (hc : o.cls = .ref Ca) (hm : Meth K Ca "__getitem__" f)
    (h : wpAny M A (call (.ref f) [.ref a, k]) Q E s) : wpAny M A (getItem (.ref a) k) Q E s := by
  unfold getItem
  refine wpAny_holding ?_
  refine wpAny_bind ((own_seqkey X nd hy hc).here ?_)
  refine wpAny_bind (own_call X hy hc hm ?_)
  exact wpAny_mono h (fun v s' h' => wpAny_pure h') fun _ _ h' => h'
theorem own_setItem {M : Model} {k v : Value} {Q : Unit → Shared → Prop} (X : K.In s.heap) (nd : PySem.W.mroIn K Ca (.type "collections.deque") = some false) (hy : s.heap.get? a = some o) (hc : o.cls = .ref Ca) (hm : Meth K Ca "__setitem__" f)
    (h : wpAny M A (call (.ref f) [.ref a, k, v]) (fun _ => Q ()) E s) : wpAny M A (setItem (.ref a) k v) Q E s := by
  unfold setItem
  refine wpAny_holding ?_
  refine wpAny_bind ((own_seqkey X nd hy hc).here ?_)
  refine wpAny_bind (own_call X hy hc hm ?_)
  exact wpAny_mono h (fun v s' h' => wpAny_pure h') fun _ _ h' => h'
theorem own_tail {value slice : Expr} {k : Value} {Q : Value → Shared → Prop} (X : K.In s.heap) (hy : s.heap.get? a = some o) (hc : o.cls = .ref Ca) (hm : Meth K Ca "__getitem__" f) (hf : PySem.W.fnIn K f = true)
    (h : wpAny (model prog w) A.in1 (call (.ref f) [.ref a, k]) Q E s) (hsl : subscripted slice true (.ref a) k = runValue (.builtin "lifetime.subscript" ⟨[.ref a, k], []⟩)) : wpAny (model prog w) A (subscriptTail value slice (.ref a) k) Q E s := by
  unfold PySem.W.fnIn at hf
  split at hf
  · rename_i e
    unfold subscriptTail getitemInPython
    refine wpAny_bind (wpAny_bind (wpAny_bind ((NwA.type_at hy hc).here ((PySem.W.looks_findIn X hm.at_).here ?_))))
    dsimp only
    refine wpAny_bind (wpAny_load (X _ _ e) (wpAny_pure ?_))
    dsimp only
    rw [hsl]
    refine wpAny_bind (wpAny_runValue (codeAny_builtin PySem.W.entry_sub ?_))
    unfold Builtin.«lifetime.subscript»
    refine wpAny_bind (own_call X hy hc hm (wpAny_mono h (fun v s' z => ?_) fun _ _ z => z))
    refine wpAny_pure ?_
    show wpAny (model prog w) A (letTemporaryGo value (.ref a) v >>= fun _ => pure v) Q E s'
    exact wpAny_bind (wpAny_letTemporaryGo (wpAny_pure z))
  · cases hf
theorem own_contains {k : Value} {Q : Bool → Shared → Prop} (X : K.In s.heap) (hy : s.heap.get? a = some o) (hc : o.cls = .ref Ca) (hm : Meth K Ca "__contains__" f)
    (h : wpAny (model prog w) A (call (.ref f) [.ref a, k]) (fun v s' => ∃ b, v = .bool b ∧ Q b s') E s) : wpAny (model prog w) A (contains (.ref a) k) Q E s := by
  unfold contains
  refine wpAny_holding ?_
  show wpAny _ _ (specialOf (.ref a) "__contains__" >>= _) _ _ _
  refine wpAny_bind ((own_spec X hy hc hm.at_).here ?_)
  rw [if_neg (by simp)]
  unfold callSpecialUnlessNone?
  refine wpAny_bind (wpAny_bind ((own_spec X hy hc hm.at_).here ?_))
  refine wpAny_holding (wpAny_bind ((PySem.W.bind_fn X (.ref a) (beq_iff_eq.mp hm.fn)).here ?_))
  dsimp only
  rw [if_neg (by simp)]
  refine wpAny_bind (wpAny_mono h (fun v s' ⟨b, e, q⟩ => ?_) fun _ _ z => z)
  subst e
  refine wpAny_pure ?_
  exact wpAny_truthy_bool q
theorem own_len {Q : Value → Shared → Prop} (X : K.In s.heap) (hy : s.heap.get? a = some o) (hc : o.cls = .ref Ca) (hm : Meth K Ca "__len__" f)
    (h : wpAny (model prog w) A.in1 (call (.ref f) [.ref a]) (fun v s' => ∃ (n : Int) (t : Tok), v = .int n t ∧ 0 ≤ n ∧ n < 2 ^ 63 ∧ Q (.int n (s'.toks)) { s' with toks := s'.toks + 1 }) E s) : wpAny (model prog w) A (call (.builtin "len") [.ref a]) Q E s := by
  refine Calls.call_function_entry kind_len plain_len entry_len (args_len1 _) ?_
  unfold Builtin.«len»
  refine wpAny_bind (m := oneArg "len" _) (wpAny_pure ?_)
  refine wpAny_bind (m := callSpecial? (.ref a) (PySem.Str.ofString "__len__")) (own_call X hy hc hm (wpAny_mono h (fun v s' ⟨n, t, e, h0, h1, q⟩ => ?_) fun _ _ z => z))
  subst e
  refine wpAny_bind (wpAny_holding (wpAny_pure ?_))
  refine wpAny_bind (wpAny_letGo ?_)
  rw [if_neg (by omega)]
  rw [if_neg (by omega)]
  exact wpAny_bind (wpAny_mkInt (wpAny_pure ⟨_, rfl, q⟩))
end
end G

set_option Elab.async false
set_option linter.all false
set_option maxRecDepth 100000
set_option maxHeartbeats 4000000
/-! G13: own dunders by data; append; d.get(k, x). -/
namespace G
open PySem PySem.Spec PyProof.Rows L2

section
variable {C : List (V × D)} {X : Cx} {W : WX} {pos : Pos}
/-- o is an instance of c: F at o and the further arguments -/
def dun (c : Str) (F : FF) (x : D) (more : List D) (h : List D) : R D := match objOf h x with
  | some (c', _, _) => bif decide (c' = c) then F (x :: more) h else .bad
  | none => .bad
theorem dun_step {K : PySem.W.Frag} {pn : List (Addr × Obj)} {Z : Addr → Prop} {σ : L2.St} {env : List Sl} {M : List Addr} {H : Hp} {h : List D} {c : Str} {F : FF} {x : D} {more : List D} {v : V} {G : List Addr → Hp → D → Prop}
    (s : SR K C pn Z M env h σ H) (r : Rep K (zn Z M) M H x v) (g : Got K C pn Z W σ env M H (dun c F x more h) G) : ∃ a dx fs, v = .ref a ∧ H a = some (.ins (He.ga K c) dx fs) ∧ Got K C pn Z W σ env M H (F (x :: more) h) G := by
  unfold dun at g
  cases eo : objOf h x with
  | none => rw [eo] at g; exact False.elim g
  | some t3 =>
    obtain ⟨c', ns, ds⟩ := t3
    rw [eo] at g
    dsimp only at g
    cases hb : decide (c' = c) with
    | false => rw [hb] at g; exact False.elim g
    | true =>
      rw [hb] at g
      obtain rfl := of_decide_eq_true hb
      obtain ⟨a, dx, fs, ev, ha, hk, q⟩ := objOf_rep s.sh eo r
      exact ⟨a, dx, fs, ev, ha, g⟩
theorem ins_at {pins : List (Addr × Obj)} {σ : L2.St} {H : Hp} {s : Shared} {a Ca dx : Addr} {fs : List (Str × V)} (I : Inv X pins σ H s) (e : H a = some (.ins Ca dx fs)) : ∃ o, s.heap.get? a = some o ∧ o.cls = .ref Ca := by
  obtain ⟨mA, O, _⟩ := ins_get I.hok e
  exact ⟨_, O.obj, rfl⟩
/-- two values with a state -/
def St2 (K : PySem.W.Frag) (C : List (V × D)) (pn : List (Addr × Obj)) (W : WX) (σ : L2.St) (f : D → D → List D → R D) (Q : VK) (x y : V) (H : Hp) : Prop := ∃ Z M env h d e, SR K C pn Z M env h σ H ∧ Rep K (zn Z M) M H d x ∧ Rep K (zn Z M) M H e y ∧
  Got K C pn Z W σ env M H (f d e h) (fun M' H' d => ∀ v, Rep K (zn Z M') M' H' d v → Q v H')
theorem st2_of {ma mb : ME} {f : D → D → List D → R D} {σ : L2.St} {H : Hp} {Q : VK} (t : tE X.K C X.pn W (c2 f ma mb) σ H Q) : tE X.K C X.pn W ma σ H fun x H1 => tE X.K C X.pn W mb σ H1 fun y H2 => St2 X.K C X.pn W σ f Q x y H2 := by
  obtain ⟨Z, M, env, h, s, g⟩ := t
  refine tE.step s g fun M1 H1 h1 d v e1 s1 r1 g1 => ?_
  refine tE.step s1 g1 fun M2 H2 h2 e w e2 s2 r2 g2 => ?_
  exact ⟨Z, M2, env, h2, d, e, s2, r1.mono e2, r2, g2⟩
/-- o[i], o of an own class -/
def oDix (c : Str) (F : FF) : D → D → List D → R D := fun x y h => dun c F x [y] h
theorem se_ixO {a b : Expr} {c : Str} {f : Addr} {F : FF} {ma mb : ME} (ha : SE C X W a ma) (hb : SE C X W b mb) (hm : Meth X.K (He.ga X.K c) "__getitem__" f) (hf : PySem.W.fnIn X.K f = true) (cal : Cal1 C X W (.ref f) F)
    (hsl : ∀ o i, subscripted b true o i = runValue (.builtin "lifetime.subscript" ⟨[o, i], []⟩) := by intro _ _; rfl) : SE C X W (.Subscript a b pos) (c2 (oDix c F) ma mb) := by
  refine ⟨fun pins s σ H Q I t => ?_⟩
  refine Subscript_ (binT ha hb I (st2_of t) fun v u s2 x y H2 I2 rx ry q => ?_)
  obtain ⟨Z, M, env, h, d, e, sr, rd, re, g⟩ := q
  obtain ⟨a', dx, fs, rfl, ea, g⟩ := dun_step sr rd g
  cases rx
  obtain ⟨o, ho, hc⟩ := ins_at I2 ea
  exact own_tail I2.kIn ho hc hm hf (cal pins s2 σ H2 Q Z M env h [d, e] [.ref a', y] [.ref a', u] I2 sr (Reps.cons rd (Reps.cons re Reps.nil)) (.cons rfl (.cons ry .nil)) g) (hsl _ _)
/-- i in o, i not in o -/
def oDin (c : Str) (F : FF) (neg : Bool) : D → D → List D → R D := fun y x h => (dun c F x [y] h).bind fun z h1 => match z with
  | .bl b => .ok (.bl (if neg then !b else b)) h1
  | _ => .bad
theorem din_run {neg : Bool} {c : Str} {f : Addr} {F : FF} (hm : Meth X.K (He.ga X.K c) "__contains__" f) (cal : Cal C X W (.ref f) F) {pins : List (Addr × Obj)} {s : Shared} {σ : L2.St} {H : Hp} {x y : V} {v u : Value} {Q : VK} (I : Inv X pins σ H s) (rx : RelV x v) (ry : RelV y u) (q : St2 X.K C X.pn W σ (oDin c F neg) Q x y H) :
    wpAny (model X.prog X.w) X.A (contains u v) (fun b s' => ∃ H', Inv X pins σ H' s' ∧ Q (.bl (if neg then !b else b)) H') X.xe s := by
  obtain ⟨Z, M, env, h, d, e, sr, rd, re, g⟩ := q
  have g' : Got X.K C X.pn Z W σ env M H (dun c F e [d] h) (fun M' H' z => ∀ w, Rep X.K (zn Z M') M' H' z w → ∃ b, w = .bl b ∧ Q (.bl (if neg then !b else b)) H') := by
    unfold oDin at g
    cases ed : dun c F e [d] h with
    | bad => rw [ed] at g; exact g
    | exc c' ns ds h1 => rw [ed] at g; exact g
    | ok z h1 =>
      rw [ed] at g
      intro M1 H1 e1 s1 w rw'
      cases z with
      | bl b =>
        cases rw'
        exact ⟨b, rfl, g M1 H1 e1 s1 _ (.bl _)⟩
      | _ => exact False.elim g
  obtain ⟨a', dx, fs, rfl, ea, g'⟩ := dun_step sr re g'
  cases ry
  obtain ⟨o, ho, hc⟩ := ins_at I ea
  refine own_contains I.kIn ho hc hm (wpAny_mono (cal pins s σ H (fun w H' => ∃ b, w = .bl b ∧ Q (.bl (if neg then !b else b)) H') Z M env h [e, d] [.ref a', x] [.ref a', v] I sr (Reps.cons re (Reps.cons rd Reps.nil)) (.cons rfl (.cons rx .nil)) g') (fun w s' hw => ?_) fun _ _ z => z)
  obtain ⟨z, H', I', rz, b, ez, q⟩ := hw
  subst ez
  cases rz
  exact ⟨b, rfl, H', I', q⟩
theorem cmp_in {pins : List (Addr × Obj)} {s : Shared} {σ : L2.St} {v u : Value} {Q : VK} (h : wpAny (model X.prog X.w) X.A (contains u v) (fun b s' => ∃ H', Inv X pins σ H' s' ∧ Q (.bl b) H') X.xe s) : wpAny (model X.prog X.w) X.A (compareOp .In v u) (EP X pins σ Q) X.xe s := by
  unfold compareOp
  exact wpAny_bind (wpAny_mono h (fun b s' ⟨H', I', q⟩ => wpAny_pure ⟨.bl b, H', I', rfl, q⟩) fun _ _ z => z)
theorem cmp_notin {pins : List (Addr × Obj)} {s : Shared} {σ : L2.St} {v u : Value} {Q : VK} (h : wpAny (model X.prog X.w) X.A (contains u v) (fun b s' => ∃ H', Inv X pins σ H' s' ∧ Q (.bl (!b)) H') X.xe s) : wpAny (model X.prog X.w) X.A (compareOp .NotIn v u) (EP X pins σ Q) X.xe s := by
  unfold compareOp
  exact wpAny_bind (wpAny_mono h (fun b s' ⟨H', I', q⟩ => wpAny_pure ⟨.bl (!b), H', I', rfl, q⟩) fun _ _ z => z)
theorem se_inO {a b : Expr} {c : Str} {f : Addr} {F : FF} {ma mb : ME} (ha : SE C X W a ma) (hb : SE C X W b mb) (hm : Meth X.K (He.ga X.K c) "__contains__" f) (cal : Cal C X W (.ref f) F) (hmk : behindInMarks .In b = false) : SE C X W (.Compare a [.In] [b] pos) (c2 (oDin c F false) ma mb) :=
  ⟨fun pins s σ H Q I t => wpAny_Compare1 (binT ha hb I (st2_of t) fun v u s2 x y H2 I2 rx ry q => cmp_in (din_run hm cal I2 rx ry q)) hmk⟩
theorem se_notinO {a b : Expr} {c : Str} {f : Addr} {F : FF} {ma mb : ME} (ha : SE C X W a ma) (hb : SE C X W b mb) (hm : Meth X.K (He.ga X.K c) "__contains__" f) (cal : Cal C X W (.ref f) F) (hmk : behindInMarks .NotIn b = false) : SE C X W (.Compare a [.NotIn] [b] pos) (c2 (oDin c F true) ma mb) :=
  ⟨fun pins s σ H Q I t => wpAny_Compare1 (binT ha hb I (st2_of t) fun v u s2 x y H2 I2 rx ry q => cmp_notin (din_run hm cal I2 rx ry q)) hmk⟩
theorem pt_of_bl {op : CmpOp} {a b : Expr} {ma mb : ME} {f : D → D → List D → R D} (ha : SE C X W a ma) (hb : SE C X W b mb) (hmk : behindInMarks op b = false)
    (run : ∀ pins s σ H x y v u (Q : VK), Inv X pins σ H s → RelV x v → RelV y u → St2 X.K C X.pn W σ f Q x y H → wpAny (model X.prog X.w) X.A (compareOp op v u) (EP X pins σ Q) X.xe s) : ST C X W (.Compare a [op] [b] pos) (cB (c2 f ma mb)) := by
  refine ⟨fun pins s σ H Q I t => ?_⟩
  refine wpAny_isTrue_Compare1 (thn (ha.run pins s σ H _ I (st2_of (tB_of t))) fun v s1 ⟨x, H1, I1, r1, q1⟩ => thn (hb.run pins s1 σ H1 _ I1 q1) fun u s2 ⟨y, H2, I2, r2, q2⟩ => ?_) hmk
  refine thn (run pins s2 σ H2 x y v u _ I2 r1 r2 q2) fun c s3 ⟨z, H3, I3, r3, k, e, q3⟩ => ?_
  subst e
  cases r3
  exact wpAny_truthy_bool ⟨H3, I3, q3⟩
theorem st_inO {a b : Expr} {c : Str} {f : Addr} {F : FF} {ma mb : ME} (ha : SE C X W a ma) (hb : SE C X W b mb) (hm : Meth X.K (He.ga X.K c) "__contains__" f) (cal : Cal C X W (.ref f) F) (hmk : behindInMarks .In b = false) : ST C X W (.Compare a [.In] [b] pos) (cB (c2 (oDin c F false) ma mb)) :=
  pt_of_bl ha hb hmk fun pins s σ H x y v u Q I rx ry q => cmp_in (din_run hm cal I rx ry q)
theorem st_notinO {a b : Expr} {c : Str} {f : Addr} {F : FF} {ma mb : ME} (ha : SE C X W a ma) (hb : SE C X W b mb) (hm : Meth X.K (He.ga X.K c) "__contains__" f) (cal : Cal C X W (.ref f) F) (hmk : behindInMarks .NotIn b = false) : ST C X W (.Compare a [.NotIn] [b] pos) (cB (c2 (oDin c F true) ma mb)) :=
  pt_of_bl ha hb hmk fun pins s σ H x y v u Q I rx ry q => cmp_notin (din_run hm cal I rx ry q)
/-- len(o) -/
def cLenO (c : Str) (F : FF) (m : ME) : ME := fun env h => (m env h).bind fun x h1 => (dun c F x [] h1).bind fun z h2 => match z with
  | .int n => bif decide (0 ≤ n) && decide (n < 2 ^ 63) then .ok (.int n) h2 else .bad
  | _ => .bad
theorem se_lenO {e : Expr} {c : Str} {f : Addr} {F : FF} {m : ME} {p : Pos} (hg : Gl X "len") (hm' : X.mg "len" = none) (he : SE C X W e m) (hm : Meth X.K (He.ga X.K c) "__len__" f) (cal : Cal1 C X W (.ref f) F)
    (hs : starEach [e] X.env = (false, eval e X.env) :: starEach [] X.env := by rfl) (hpl : (backTo pos (starEach [] X.env)).any (·.1) = false := by rfl) : SE C X W (.Call (.Name "len" p) [e] [] pos) (cLenO c F m) := by
  refine ⟨fun pins s σ H Q I ⟨Z, M, env, h, sr, g⟩ => ?_⟩
  refine wpAny_Call_Name_kw (ld_blt I hg hm' PyProof.Rows.bootS_len ?_ (by decide) (by decide))
  refine PyProof.Rows.callWith_builtin1 (thn ((pa_cons he pa_nil hs).run pos pins s σ H (fun vs H1 => ∃ M h x v, vs = [v] ∧ SR X.K C X.pn Z M env h σ H1 ∧ Rep X.K (zn Z M) M H1 x v ∧ Got X.K C X.pn Z W σ env M H1 ((dun c F x [] h).bind fun z h2 => match z with
    | .int n => bif decide (0 ≤ n) && decide (n < 2 ^ 63) then R.ok (D.int n) h2 else .bad
    | _ => .bad) (fun M' H' d => ∀ v, Rep X.K (zn Z M') M' H' d v → Q v H')) I ?_) fun us s1 ⟨vs, H1, I1, r1, M1, h1, x, v, ev, sr1, rx, g1⟩ => ?_) hs hpl
  · exact tE.step sr g fun M1 H1 h1 d v e1 s1 r1 g1 => ⟨M1, h1, d, v, rfl, s1, r1, g1⟩
  · subst ev
    obtain ⟨u, rfl, rv⟩ := vals1 r1
    have g' : Got X.K C X.pn Z W σ env M1 H1 (dun c F x [] h1) (fun M' H' z => ∀ w, Rep X.K (zn Z M') M' H' z w → ∃ n, w = .int n ∧ 0 ≤ n ∧ n < 2 ^ 63 ∧ Q (.int n) H') := by
      cases ed : dun c F x [] h1 with
      | bad => rw [ed] at g1; exact g1
      | exc c' ns ds h1 => rw [ed] at g1; exact g1
      | ok z h2 =>
        rw [ed] at g1
        intro M2 H2 e2 s2 w rw'
        cases z with
        | int n =>
          cases rw'
          have g1 : Got X.K C X.pn Z W σ env M1 H1 (bif decide (0 ≤ n) && decide (n < 2 ^ 63) then R.ok (D.int n) h2 else .bad) (fun M' H' d => ∀ v, Rep X.K (zn Z M') M' H' d v → Q v H') := g1
          cases hb : decide (0 ≤ n) && decide (n < 2 ^ 63) with
          | false => rw [hb] at g1; exact False.elim g1
          | true =>
            rw [hb] at g1
            obtain ⟨b1, b2⟩ := Bool.and_eq_true_iff.mp hb
            exact ⟨n, rfl, of_decide_eq_true b1, of_decide_eq_true b2, g1 M2 H2 e2 s2 _ (.int _)⟩
        | _ => exact False.elim g1
    obtain ⟨a', dx, fs, rfl, ea, g'⟩ := dun_step sr1 rx g'
    cases rv
    obtain ⟨o, ho, hc⟩ := ins_at I1 ea
    refine own_len I1.kIn ho hc hm (wpAny_mono (cal pins s1 σ H1 (fun w H' => ∃ n, w = .int n ∧ 0 ≤ n ∧ n < 2 ^ 63 ∧ Q (.int n) H') Z M1 env h1 [x] [.ref a'] [.ref a'] I1 sr1 (Reps.cons rx Reps.nil) (.cons rfl .nil) g') (fun w s' hw => ?_) fun _ _ z => z)
    obtain ⟨z, H', I', rz, n, ez, n0, n1, q⟩ := hw
    subst ez
    obtain ⟨t, rfl⟩ := rz
    exact ⟨n, t, rfl, n0, n1, .int n, H', I'.tok _, ⟨_, rfl⟩, q⟩
/-- o[i] = e -/
def sSubO (c : Str) (F : FF) (o i e : ME) : MS := fun env h => (e env h).thenS env fun x h1 => (o env h1).thenS env fun t h2 => (i env h2).thenS env fun y h3 => (dun c F t [y, x] h3).thenS env fun _ h4 => .nx env h4
theorem ss_subO {o i e : Expr} {c : Str} {f : Addr} {F : FF} {mo mi me : ME} {tpos : Pos} (ho : SE C X W o mo) (hi : SE C X W i mi) (he : SE C X W e me) (hm : Meth X.K (He.ga X.K c) "__setitem__" f) (nd : PySem.W.mroIn X.K (He.ga X.K c) (.type "collections.deque") = some false) (cal : Cal C X W (.ref f) F)
    (ha : ∀ v, assign (.Subscript o i tpos) X.env v = (do
      let ov ← holding [v] (eval o X.env)
      let iv ← holding [v, ov] (eval i X.env)
      standAt tpos
      holding [v, ov, iv] (setItem ov iv v)
      release [v, ov, iv] []) := by intro _; rfl) (hs : swapsWithSole [.Subscript o i tpos] e pos.line X.env = pure false := by rfl) (hw : swappedStores [.Subscript o i tpos] e X.env = pure none := by rfl)
    (h1 : (assignEach [.Subscript o i tpos] X.env).map (·.2) = [assign (.Subscript o i tpos) X.env] := by rfl) : SS C X W (.Assign [.Subscript o i tpos] e pos) (sSubO c F mo mi me) := by
  have pg : PG X (.Subscript o i tpos) (fun v σ H Qg => ∃ D' Z M env h d, SR X.K C X.pn Z M env h σ H ∧ Rep X.K (zn Z M) M H d v ∧ D'.nx = Qg ∧ GotS X.K C X.pn Z W M H ((mo env h).thenS env fun t h2 => (mi env h2).thenS env fun y h3 => (dun c F t [y, d] h3).thenS env fun _ h4 => .nx env h4) D') := by
    refine ⟨fun pins s σ H v u Q I r ⟨D', Z, M, env, h, d, sr, rd, eQ, g⟩ => ?_⟩
    rw [ha]
    refine wpAny_bind (wpAny_holding (thn (ho.run pins s σ H (fun t H1 => ∃ M h dt, SR X.K C X.pn Z M env h σ H1 ∧ Rep X.K (zn Z M) M H1 d v ∧ Rep X.K (zn Z M) M H1 dt t ∧ GotS X.K C X.pn Z W M H1 ((mi env h).thenS env fun y h3 => (dun c F dt [y, d] h3).thenS env fun _ h4 => .nx env h4) D') I ?_) fun ov s1 ⟨t, H1, I1, rt, M1, h1, dt, sr1, rd1, rdt, g1⟩ => ?_))
    · exact tE.stepS sr g fun M1 H1 h1 dt t e1 s1 r1 g1 => ⟨M1, h1, dt, s1, rd.mono e1, r1, g1⟩
    refine wpAny_bind (wpAny_holding (thn (hi.run pins s1 σ H1 (fun y H2 => ∃ M h dt dy, SR X.K C X.pn Z M env h σ H2 ∧ Rep X.K (zn Z M) M H2 d v ∧ Rep X.K (zn Z M) M H2 dt t ∧ Rep X.K (zn Z M) M H2 dy y ∧ GotS X.K C X.pn Z W M H2 ((dun c F dt [dy, d] h).thenS env fun _ h4 => .nx env h4) D') I1 ?_) fun iv s2 ⟨y, H2, I2, ry, M2, h2, dt, dy, sr2, rd2, rdt2, rdy, g2⟩ => ?_))
    · exact tE.stepS sr1 g1 fun M2 H2 h2 dy y e2 s2 r2 g2 => ⟨M2, h2, dt, dy, s2, rd1.mono e2, rdt.mono e2, r2, g2⟩
    refine wpAny_bind (wpAny_standAt (wpAny_bind (wpAny_holding ?_)))
    have g3 : Got X.K C X.pn Z W σ env M2 H2 (dun c F dt [dy, d] h2) (fun M' H' _ => D'.nx σ H') := by
      cases ed : dun c F dt [dy, d] h2 with
      | bad => rw [ed] at g2; exact g2
      | exc c' ns ds h1 => rw [ed] at g2; exact fun M' H' dx ev s' x => g2 M' σ H' dx ev s' x
      | ok z h3 => rw [ed] at g2; exact fun M' H' ev s' => g2 M' σ H' ev s'
    obtain ⟨a', dx, fs, rfl, ea, g3⟩ := dun_step sr2 rdt2 g3
    cases rt
    obtain ⟨o', ho', hc'⟩ := ins_at I2 ea
    refine own_setItem I2.kIn nd ho' hc' hm (wpAny_mono (cal pins s2 σ H2 (fun _ H' => D'.nx σ H') Z M2 env h2 [dt, dy, d] [.ref a', y, v] [.ref a', iv, u] I2 sr2 (Reps.cons rdt2 (Reps.cons rdy (Reps.cons rd2 Reps.nil))) (.cons rfl (.cons ry (.cons r .nil))) ?_) (fun w s' hw => ?_) fun _ _ z => z)
    · cases e3 : F [dt, dy, d] h2 with
      | bad => rw [e3] at g3; exact g3
      | exc c' ns ds h1 => rw [e3] at g3; exact g3
      | ok z h3 => rw [e3] at g3; exact fun M' H' ev s' v' _ => g3 M' H' ev s'
    · obtain ⟨z, H', I', _, q⟩ := hw
      exact wpAny_release ⟨σ, H', I', by rw [← eQ]; exact q⟩
  refine PS.weak (ps_asg he pg hs hw h1) fun D' σ H ⟨Z, M, env, h, s, g⟩ => ?_
  refine tE.stepS s g fun M1 H1 h1 x v e1 s1 r1 g1 => ?_
  exact ⟨D', Z, M1, env, h1, x, s1, r1, rfl, g1⟩
end
end G

set_option Elab.async false
set_option linter.all false
set_option maxRecDepth 100000
set_option maxHeartbeats 4000000
/-! G14: xs.append(e), d.get(k, x), name = [..], [.. for k in d]. -/
namespace G
open PySem PySem.Spec PyProof.Rows L2

section
variable {C : List (V × D)} {X : Cx} {W : WX} {pos : Pos}
/-! ### xs.append(e) -/
theorem se_app {o e : Expr} {mo me : ME} {apos : Pos} (ho : SE C X W o mo) (he : SE C X W e me) (hbase : attributeBase o "append" X.env (eval o X.env) = eval o X.env := by rfl)
    (hfew : ((backTo pos (starEach [e] X.env)).all (fun x => !x.1) && (backToKw pos (keywordEach [] X.env)).all (fun x => x.1.isSome)
      && decide (([e] : List Expr).length + ([] : List Keyword).length + (if ([] : List Keyword).isEmpty then 0 else 1) < 30)) = true := by rfl)
    (hline : (apos.endLine == pos.line) = true := by rfl) (hs : starEach [e] X.env = (false, eval e X.env) :: starEach [] X.env := by rfl) (hplain : (backTo pos (starEach [] X.env)).any (·.1) = false := by rfl) :
    SE C X W (.Call (.Attribute o "append" apos) [e] [] pos) (cApp mo me) := by
  refine PE.weak (pe_bm PySem.F.plainAttrs_list PySem.F.slot_list_append rfl mt_append ho (pa_cons he pa_nil hs) hbase hfew hline hs hplain) fun σ H Q ⟨Z, M, env, h, s, g⟩ => ?_
  refine tE.step s g fun M1 H1 h1 x v e1 s1 r1 g1 => ?_
  cases hx : lstH h1 x with
  | none => rw [hx] at g1; exact False.elim g1
  | some xs0 =>
    rw [hx] at g1
    obtain ⟨a, vs0, rfl, ha0, _⟩ := lstH_rep s1.sh hx r1
    refine ⟨.inl ⟨rfl, vs0, .inl (.inl ha0)⟩, ?_⟩
    refine tE.step s1 g1 fun M2 H2 h2 y w e2 s2 r2 g2 => ?_
    have r1' := r1.mono e2
    cases x with
    | loc n =>
      cases r1' with
      | loc hm =>
        unfold appD at g2
        dsimp only at g2
        cases hn : h2[n]? with
        | none => rw [hn] at g2; exact False.elim g2
        | some c =>
          rw [hn] at g2
          cases c with
          | lst xs =>
            dsimp only at g2
            obtain ⟨vs, ha, rs⟩ := s2.sh.cel n a _ hm hn
            cases hb : decide (xs.length < sizeLine) with
            | false => rw [hb] at g2; exact False.elim g2
            | true =>
              rw [hb] at g2
              have nf : ∀ u w, H2 a ≠ some (.frz u w) := fun u w z => by rw [ha] at z; cases z
              have ev := s2.sh.evw (o := .lst (vs ++ [w])) hm nf
              exact ⟨a, vs, w, rfl, rfl, ha, by rw [← rs.1]; exact of_decide_eq_true hb, g2 M2 _ ev (s2.later ev (s2.sh.write hm nf ⟨_, upd_same, (rs.append (Reps.cons r2 Reps.nil)).mono ev⟩)) _ .non⟩
          | _ => exact False.elim g2
    | _ => exact False.elim g2

/-! ### d.get(k, x) -/
def cGet2 (d k x : ME) : ME := fun env h => (d env h).bind fun t h1 => bif (dicOf h1 t).isSome then (k env h1).bind fun y h2 => (x env h2).bind fun z h3 => match dicOf h3 t with
  | some (ks, ds) => (match keyOf y with
    | some j => .ok ((kget ks ds j).getD z) h3
    | none => .bad)
  | none => .bad else .bad
theorem se_get2 {o e f : Expr} {mo me mf : ME} {apos : Pos} (hu : X.A.units + 1 < cLine) (ho : SE C X W o mo) (he : SE C X W e me) (hf : SE C X W f mf) (m : M2 X o "get" apos e f pos) : SE C X W (.Call (.Attribute o "get" apos) [e, f] [] pos) (cGet2 mo me mf) := by
  refine PE.weak (pe_dget2 hu ho he hf m) fun σ H Q ⟨Z, M, env, h, s, g⟩ => ?_
  refine tE.step s g fun M1 H1 h1 t v e1 s1 r1 g1 => ?_
  cases hd : dicOf h1 t with
  | none => rw [hd] at g1; exact False.elim g1
  | some p =>
    obtain ⟨ks0, ds0⟩ := p
    rw [hd] at g1
    obtain ⟨a, kvs0, rfl, hr0, _, _⟩ := dicOf_rep s1.sh hd r1
    refine ⟨a, rfl, .inl ⟨kvs0, hr0⟩, ?_⟩
    refine tE.step s1 g1 fun M2 H2 h2 y w e2 s2 r2 g2 => ?_
    refine tE.step s2 g2 fun M3 H3 h3 z u e3 s3 r3 g3 => ?_
    have rt := (r1.mono e2).mono e3
    have ry := r2.mono e3
    cases hd3 : dicOf h3 t with
    | none => rw [hd3] at g3; exact False.elim g3
    | some p =>
      obtain ⟨ks, ds⟩ := p
      rw [hd3] at g3
      dsimp only at g3
      obtain ⟨a', kvs, ea, hr, hk, rs⟩ := dicOf_rep s3.sh hd3 rt
      cases ea
      subst hk
      cases hy : keyOf y with
      | none => rw [hy] at g3; exact False.elim g3
      | some j =>
        rw [hy] at g3
        dsimp only at g3
        obtain rfl := keyOf_rep hy ry
        refine ⟨_, .inl ⟨kvs, j, hr, rfl, rfl⟩, ?_⟩
        cases e4 : kget (kvs.map (·.1)) ds j with
        | none =>
          rw [e4] at g3
          rw [kget_none rs e4]
          exact Got.now g3 s3 _ r3
        | some d =>
          rw [e4] at g3
          obtain ⟨v', q1, q2⟩ := kget_some rs e4
          rw [q1]
          exact Got.now g3 s3 _ q2
end

/-! ### name = [..] on one line -/
section
variable {C : List (V × D)} {X : Cx} {W : WX}
theorem ss_setLc {i : Nat} {y : Str} {py : Pos} {elt tg iter : Expr} {ifs : List Expr} {scope : Scope} {own : List (Str × Nat)} {pos spos : Pos} {src : MA} {T : Asg} {ts : List Nat} {tt : MT} {te : ME} (hc : X.calm = true) (hN : X.N.Nodup) (hy : X.N[i]? = some y) (hyl : X.env.scope.names.lookup y = some .local)
    (hsw : swapsWith (.ListComp elt [⟨tg, iter, ifs, 0⟩] scope pos) (some (.Name y py)) spos.line X.env = pure true) (hi : SI C X W tg iter src) (ok : BlkOk X.N X.env.scope scope own)
    (hg : ∀ (s : Shared) (H : Hp) (Ca : Addr) (cl : List (Str × Addr)) (fp : List Addr), SG C (X.blk s H scope (compEnvC scope cl Ca X.env) fp) tg T ts)
    (ht : ∀ (s : Shared) (H : Hp) (Ca : Addr) (cl : List (Str × Addr)) (fp : List Addr), STs C (X.blk s H scope (compEnvC scope cl Ca X.env) fp) (fun _ _ _ _ => False) ifs tt)
    (he : ∀ (s : Shared) (H : Hp) (Ca : Addr) (cl : List (Str × Addr)) (fp : List Addr), SE C (X.blk s H scope (compEnvC scope cl Ca X.env) fp) (fun _ _ _ _ => False) elt te)
    (sub : ∀ j ∈ ts, j ∈ own.map (·.2)) (hs : ∀ x, foldedSetIterable iter X.env x = pure x := by intro _; rfl) : SS C X W (.Assign [.Name y py] (.ListComp elt [⟨tg, iter, ifs, 0⟩] scope pos) spos) (sSet i (cLc src T tt te (own.map (·.2)))) := by
  refine PS.weak (ps_setLc (g := tG X.K C [] T ts) (tt := tT X.K C [] (fun _ _ _ _ => False) tt) (te := tE X.K C [] (fun _ _ _ _ => False) te) hc hN hy hyl hsw hi ok hg ht he hs) fun D' σ H ⟨Z, M, env, h, s, g⟩ => ?_
  have g' : Got X.K C X.pn Z W σ env M H ((aLc src T tt te (own.map (·.2)) env h).bind fun ds h1 => .ok (.lst ds) h1) (fun M' H' d => ∀ v, Rep X.K (zn Z M') M' H' d v → D'.nx (σ.set i (some v)) H') := by
    unfold sSet cLc at g
    cases e : aLc src T tt te (own.map (·.2)) env h with
    | bad => rw [e] at g; exact g
    | exc c ns ds h1 => rw [e] at g; exact fun M' H' dx ev s' x => g M' σ H' dx ev s' x
    | ok ds h1 => rw [e] at g; exact fun M' H' ev s' v r => g M' _ H' ev (s'.set r)
  refine lc_ok (K := X.K) sub s g' fun M' H' h' ds us p ev hp0 zp so hp rs g'' => ?_
  have np : p ∉ M' := fun m => (so.sh.mz p m).2 rfl
  have back : ∀ a, (Z a ∧ a ≠ p) → H' a ≠ none → Z a := fun a z _ => z.1
  have r := rs.sub back
  exact g'' M' H' ev (so.sub back fun q hq => (so.sh.all q hq).1) _ (.lst ⟨zp, np⟩ hp r.1 r.2)
end
end G

set_option Elab.async false
set_option linter.all false
set_option maxRecDepth 100000
set_option maxHeartbeats 4000000
/-! G15: [.. for k in d], d locked the while. -/
namespace G
open PySem PySem.Spec PyProof.Rows L2

section
variable {K : PySem.W.Frag} {C : List (V × D)} {pn : List (Addr × Obj)} {Z : Addr → Prop} {M : List Addr} {H : Hp} {env : List Sl} {h : List D} {σ : L2.St}
theorem Rep.pokeM {a : Addr} {u : HO} (m : a ∈ M) (nl : ∀ o xs, H a ≠ some (.frz o (.lst xs))) {d : D} {v : V} (r : Rep K (zn Z M) M H d v) : Rep K (zn Z M) M (upd H a u) d v := by
  have ne : ∀ b, zn Z M b → b ≠ a := fun b z e => z.2 (by rw [e]; exact m)
  have rd : ∀ {b : Addr} {o : HO}, zn Z M b → Rd H b o → Rd (upd H a u) b o := fun {b o} z r => by
    unfold Rd
    rw [upd_ne (ne b z)]
    exact r
  induction r with
  | non => exact .non
  | bl b => exact .bl b
  | int i => exact .int i
  | str x => exact .str x
  | tup z h l _ ih => exact .tup z (rd z h) l ih
  | lst z h l _ ih => exact .lst z (by rw [upd_ne (ne _ z)]; exact h) l ih
  | dic z h k l _ ih => exact .dic z (rd z h) k l ih
  | obj z h k l _ ih => exact .obj z (by rw [upd_ne (ne _ z)]; exact h) k l ih
  | loc h => exact .loc h
  | cls => exact .cls
  | scr s =>
    rcases s with ⟨o, c⟩ | s
    · exact .scr (.inl ⟨o, by rw [upd_ne (fun e => nl _ _ (by rw [← e]; exact c))]; exact c⟩)
    · exact .scr (.inr s)
theorem Reps.pokeM {a : Addr} {u : HO} (m : a ∈ M) (nl : ∀ o xs, H a ≠ some (.frz o (.lst xs))) {ds : List D} {vs : List V} (r : Reps K (zn Z M) M H ds vs) : Reps K (zn Z M) M (upd H a u) ds vs := ⟨r.1, fun i d v h1 h2 => (r.2 i d v h1 h2).pokeM m nl⟩
/-- a mutable object is written, whatever it was -/
theorem SR.force {a : Addr} {n : Nat} {u : HO} {c : D} (s : SR K C pn Z M env h σ H) (hm : M[n]? = some a) (nl : ∀ o xs, H a ≠ some (.frz o (.lst xs))) (cl : Cel K (zn Z M) M (upd H a u) a c) : SR K C pn Z M env (h.set n c) σ (upd H a u) := by
  have m := List.mem_of_getElem? hm
  refine ⟨⟨fun q hq => s.sh.all q ?_, s.sh.mz, fun q hq => ⟨(s.sh.cst q hq).1, (s.sh.cst q hq).2.pokeM m nl⟩, s.sh.nd, by simp [s.sh.len], fun i b d' h1 h2 => ?_⟩, fun i d hd => ?_, fun i c ns ds hd => ?_, s.len⟩
  · by_cases z : q = a
    · rw [z, upd_same] at hq; cases hq
    · rw [upd_ne z] at hq; exact hq
  · rw [List.getElem?_set] at h2
    have hn := (List.getElem?_eq_some_iff.mp hm)
    by_cases e : n = i
    · subst e
      rw [if_pos rfl] at h2
      split at h2
      · cases h2
        rw [hm] at h1
        cases h1
        exact cl
      · cases h2
    · rw [if_neg e] at h2
      have nb : b ≠ a := fun z => by
        subst z
        exact e ((List.getElem?_inj hn.1 s.sh.nd).mp (hm.trans h1.symm))
      have c := s.sh.cel i b d' h1 h2
      cases d' with
      | lst xs => obtain ⟨vs, q, r⟩ := c; exact ⟨vs, by rw [upd_ne nb]; exact q, r.pokeM m nl⟩
      | dic ks ds => obtain ⟨vs, q, k, r⟩ := c; exact ⟨vs, by rw [upd_ne nb]; exact q, k, r.pokeM m nl⟩
      | obj c ns ds => obtain ⟨dx, vs, q, k, r⟩ := c; exact ⟨dx, vs, by rw [upd_ne nb]; exact q, k, r.pokeM m nl⟩
      | lck ks ds => obtain ⟨vs, o, q, k, r⟩ := c; exact ⟨vs, o, by rw [upd_ne nb]; exact q, k, r.pokeM m nl⟩
      | _ => exact False.elim c
  · obtain ⟨v, h1, h2⟩ := s.slots i d hd
    exact ⟨v, h1, h2.pokeM m nl⟩
  · obtain ⟨a', dx, h1, h2, fs, h3, h4, h5, h6⟩ := s.exc i c ns ds hd
    exact ⟨a', dx, h1, h2, fs, by rw [upd_ne (fun e => h4 (by rw [e]; exact m))]; exact h3, h4, h5, h6.pokeM m nl⟩
end

def keyD : Key → D
  | .inl i => .int i
  | .inr x => .str x
theorem keyD_rep {K : PySem.W.Frag} {Z : Addr → Prop} {M : List Addr} {H : Hp} (k : Key) : Rep K Z M H (keyD k) (kV k) := by
  cases k with
  | inl i => exact .int i
  | inr x => exact .str x
def iKeysD (n : Nat) (m : ME) : MA := fun env h => (m env h).bind fun d h1 => match d with
  | .loc k => bif decide (k = n) then (match h1[k]? with
    | some (.lck ks _) => .ok (ks.map keyD) h1
    | _ => .bad) else .bad
  | _ => .bad
section
variable {C : List (V × D)} {X : Cx} {W : WX}
theorem itr_keys {d : Addr} {o : Obj} {kvs : List (Key × V)} : ItR X.K C (Itk d o kvs) ((kvs.map (·.1)).map keyD) (fun Z M H => H d = some (.frz o (.dK kvs))) where
  go := fun i Z M H hi h => ⟨h, by simpa using hi⟩
  stop := fun Z M H h => ⟨h, by simp⟩
  yld := fun i Z M h H x H' e hI sh ⟨eH, k, v, hk, ex⟩ hd => by
    subst eH
    subst ex
    rw [List.getElem?_map, List.getElem?_map, hk] at hd
    cases hd
    exact ⟨.refl M H', sh, keyD_rep k⟩
  mono := fun Z M H M' H' h e => e.fz _ _ _ h
  zone := fun Z Z' M H h k => h
  poke := fun Z M H p us ys h nz hp => by rw [upd_ne (fun e : d = p => by rw [e, hp] at h; cases h)]; exact h
theorem si_keysD {tg e : Expr} {m : ME} (n : Nat) (he : SE C X W e m) : SI C X W tg e (iKeysD n m) := by
  refine PI.weak (pi_keys he) fun σ H R ⟨Z, M, env, h, s, g⟩ => ?_
  refine tE.step s g fun M1 H1 h1 d v e1 s1 r1 g1 => ?_
  cases r1 with
  | loc hm =>
    rename_i k a
    dsimp only at g1
    cases hk : decide (k = n) with
    | false => rw [hk] at g1; exact False.elim g1
    | true =>
      rw [hk] at g1
      dsimp only [cond_true] at g1
      cases hx : h1[k]? with
      | none => rw [hx] at g1; exact False.elim g1
      | some c =>
        rw [hx] at g1
        cases c with
        | lck ks ds =>
          obtain ⟨kvs, o, q, hk, r⟩ := s1.sh.cel k a _ hm hx
          subst hk
          exact ⟨a, o, rfl, .inl ⟨kvs, q, Got.now g1 s1 _ _ itr_keys q⟩⟩
        | _ => exact False.elim g1
  | _ => exact False.elim g1
def cLcDic (m : ME) (T : Asg) (tt : MT) (te : ME) (vs : List Nat) : ME := fun env h => match m env h with
  | .ok (.loc n) _ => (match h[n]? with
    | some (.dic ks ds) => (match aLc (iKeysD n m) T tt te vs env (h.set n (.lck ks ds)) with
      | .ok xs h1 => (match h1[n]? with
        | some (.lck ks' ds') => .ok (.lst xs) (h1.set n (.dic ks' ds'))
        | _ => .bad)
      | _ => .bad)
    | _ => .bad)
  | _ => .bad
/-- the walk, locked -/
theorem lcDic_ok {m : ME} {T : Asg} {ts vs : List Nat} {tt : MT} {te : ME} (sub : ∀ j ∈ ts, j ∈ vs) {Q : VK} {σ : L2.St} {H : Hp} {tg e : Expr} (t : tE X.K C X.pn W (cLcDic m T tt te vs) σ H Q) :
    ∃ n, tLockE (tLc (tI X.K C X.pn W (iKeysD n m)) (tG X.K C [] T ts) (tT X.K C [] (fun _ _ _ _ => False) tt) (tE X.K C [] (fun _ _ _ _ => False) te) vs) σ H Q := by
  obtain ⟨Z, M, env, h, s, g⟩ := t
  unfold cLcDic at g
  cases em : m env h with
  | bad => rw [em] at g; exact False.elim g
  | exc c ns ds h1 => rw [em] at g; exact False.elim g
  | ok d h0 =>
    rw [em] at g
    cases d with
    | loc n =>
      dsimp only at g
      cases hn : h[n]? with
      | none => rw [hn] at g; exact False.elim g
      | some c =>
        rw [hn] at g
        cases c with
        | dic ks ds =>
          dsimp only at g
          refine ⟨n, ?_⟩
          have hl := (List.getElem?_eq_some_iff.mp hn).1
          have hl' : n < M.length := by rw [s.sh.len]; exact hl
          have hm : M[n]? = some M[n] := List.getElem?_eq_getElem hl'
          obtain ⟨kvs, ha, hk, rs⟩ := s.sh.cel n _ _ hm hn
          generalize ea : M[n] = a at hm ha
          have mem := List.mem_of_getElem? hm
          refine ⟨a, .dK kvs, ha, by trivial, fun od => ?_⟩
          have nf : ∀ u w, H a ≠ some (.frz u w) := fun u w z => by rw [ha] at z; cases z
          have evL := s.sh.evw (o := .frz od (.dK kvs)) hm nf
          have sL : SR X.K C X.pn Z M env (h.set n (.lck ks ds)) σ (upd H a (.frz od (.dK kvs))) := s.later evL (s.sh.write hm nf ⟨kvs, od, upd_same, hk, rs.mono evL⟩)
          refine lc_ok (K := X.K) (α := List D × List D) (f := fun xs h1 => .ok (xs, h1) h1) (G := fun M' H' p => aLc (iKeysD n m) T tt te vs env (h.set n (.lck ks ds)) = .ok p.1 p.2) sub sL ?_ fun M' H' h' xs us p ev hp0 zp so hp rs' g' => ?_
          · cases e : aLc (iKeysD n m) T tt te vs env (h.set n (.lck ks ds)) with
            | bad => rw [e] at g; exact g
            | exc c ns ds h1 => rw [e] at g; exact False.elim g
            | ok xs h1 => exact fun M' H' _ _ => rfl
          · have np : p ∉ M' := fun m => (so.sh.mz p m).2 rfl
            have back : ∀ a, (Z a ∧ a ≠ p) → H' a ≠ none → Z a := fun a z _ => z.1
            have s' := so.sub back fun q hq => (so.sh.all q hq).1
            have e := g' M' H' ev s'
            dsimp only at e
            rw [e] at g
            dsimp only at g
            have hfz : H' a = some (.frz od (.dK kvs)) := ev.fz a _ _ upd_same
            refine ⟨hfz, ?_⟩
            cases hn' : h'[n]? with
            | none => rw [hn'] at g; exact False.elim g
            | some c =>
              rw [hn'] at g
              cases c with
              | lck ks' ds' =>
                have hm' : M'[n]? = some a := ev.get hm
                obtain ⟨kvs', o', q1, q2, q3⟩ := s'.sh.cel n a _ hm' hn'
                rw [hfz] at q1
                cases q1
                have nl : ∀ o xs, H' a ≠ some (.frz o (.lst xs)) := fun o xs z => by rw [hfz] at z; cases z
                have mem' := List.mem_of_getElem? hm'
                have s2 := s'.force (u := .dK kvs) (c := .dic ks' ds') hm' nl ⟨kvs, upd_same, q2, q3.pokeM mem' nl⟩
                have ne : ∀ b, b ∉ M → b ≠ a := fun b nb e => nb (by rw [e]; exact mem)
                have ev2 : Evo M H M' (upd H' a (.dK kvs)) := by
                  refine ⟨ev.pre, fun b m1 m2 => ?_, fun b o hb m2 => ?_, fun b o u hb => ?_⟩
                  · have := ev.new b m1 m2
                    rw [upd_ne (ne b m2)] at this
                    exact this
                  · rw [upd_ne (ne b m2)]
                    exact ev.keep b o (by rw [upd_ne (ne b m2)]; exact hb) m2
                  · have nb : b ≠ a := fun e => by rw [e, ha] at hb; cases hb
                    rw [upd_ne nb]
                    exact ev.fz b o u (by rw [upd_ne nb]; exact hb)
                have pa : p ≠ a := fun e => np (by rw [e]; exact mem')
                have r := (rs'.sub back).pokeM (u := .dK kvs) mem' nl
                exact g M' _ ev2 s2 _ (.lst ⟨zp, np⟩ (by rw [upd_ne pa]; exact hp) r.1 r.2)
              | _ => exact False.elim g
        | _ => exact False.elim g
    | _ => exact False.elim g
theorem se_lcDic {elt tg iter : Expr} {ifs : List Expr} {scope : Scope} {own : List (Str × Nat)} {pos : Pos} {m : ME} {T : Asg} {ts : List Nat} {tt : MT} {te : ME} (hc : X.calm = true) (hN : X.N.Nodup) (hi : SE C X W iter m) (ok : BlkOk X.N X.env.scope scope own)
    (hg : ∀ (s : Shared) (H : Hp) (Ca : Addr) (cl : List (Str × Addr)) (fp : List Addr), SG C (X.blk s H scope (compEnvC scope cl Ca X.env) fp) tg T ts)
    (ht : ∀ (s : Shared) (H : Hp) (Ca : Addr) (cl : List (Str × Addr)) (fp : List Addr), STs C (X.blk s H scope (compEnvC scope cl Ca X.env) fp) (fun _ _ _ _ => False) ifs tt)
    (he : ∀ (s : Shared) (H : Hp) (Ca : Addr) (cl : List (Str × Addr)) (fp : List Addr), SE C (X.blk s H scope (compEnvC scope cl Ca X.env) fp) (fun _ _ _ _ => False) elt te)
    (sub : ∀ j ∈ ts, j ∈ own.map (·.2)) (hs : ∀ x, foldedSetIterable iter X.env x = pure x := by intro _; rfl) : SE C X W (.ListComp elt [⟨tg, iter, ifs, 0⟩] scope pos) (cLcDic m T tt te (own.map (·.2))) := by
  refine ⟨fun pins s σ H Q I t => ?_⟩
  obtain ⟨n, q⟩ := lcDic_ok (tg := tg) (e := iter) sub t
  exact (pe_lock (pe_lc (g := tG X.K C [] T ts) (tt := tT X.K C [] (fun _ _ _ _ => False) tt) (te := tE X.K C [] (fun _ _ _ _ => False) te) hc hN (si_keysD n hi) ok hg ht he hs)).run pins s σ H Q I q
end
end G

set_option Elab.async false
set_option linter.all false
set_option maxRecDepth 100000
set_option maxHeartbeats 4000000
/-! G16: a law's end over the data layer; d.get(k, x) of a dict of the module. -/
namespace G
open PySem PySem.Spec PyProof.Rows L2

/-- a law: F gives the written part, the function object, the def by data, that it answers True -/
theorem walk_ofG {l : PySem.W.OpenLaw} {n k : Nat} {q : Program} {loose : List Str} {XP : (Str → Option Value) → Heap → Prop} {YP : World → Heap → Prop} {d : DefRec} {x : Str}
    (hn : l.most = some n) (hn2 : n ≤ sizeLine) (hdf : d.params.defaults = []) (hr : Room k callerA)
    (F : ∀ (w : World) (mg : Str → Option Value) (fa : Addr) (h : Heap), YP w h → h.Ns mainGlobals mg → mg d.name = some (.ref fa) →
      ∃ (K : PySem.W.Frag) (FF : FF), K.In h ∧ (∀ ns : List Int, ns.length ≤ n → ∃ h', FF [.scr ns] [] = .ok (.bl true) h') ∧
        ∀ base : Heap, K.In base → base.Ns mainGlobals mg → ∃ fd, FnG l.prog w K mg base (L2.CX l.prog w) k fa fd [x] (spI K [] 1 FF) ∧ Binds K fd [x] []) :
    PySem.W.WalkO q loose XP YP l.row.toRowW d [] (fun f vs => PySem.call f vs) := by
  refine Att.attach_call hn hdf fun w s₁' s₁ mg mb fa o pm cd doc a vs ns G Y ho hd hcd hmg hobj hints hlen hg => ?_
  obtain ⟨K, FF, KX, hT, hF⟩ := F w mg fa _ Y G.T.g hmg
  have rv := vals_ints hints
  have lenV := hints.length
  have hz : ns.length ≤ sizeLine := Nat.le_trans hlen hn2
  -- the script alone may be tracked
  have core : ∀ H : Hp, (∀ b u, H b = some u → b = a ∧ u = .frz { cls := .type "list", data := .seq vs.toArray } (.lst (ns.map V.int)) ∧ K.lookup a = none) →
      ((∃ o, H a = some (.frz o (.lst (ns.map V.int)))) ∨ SqL K (fun _ => none) a (ns.map V.int)) →
      codeAny (model l.prog w) callerA (.call (.ref fa) ⟨[.ref a], []⟩) (fun r s' => r = .ok (.ret (.bool true)) ∧ OldK s₁.heap s'.heap ∧ s'.os = s₁.os ∧ AllBare s'.gens) s₁ := by
    intro H hO hS
    have hok : HOk l.prog w H s₁.heap := fun b u q => by
      obtain ⟨rfl, rfl, _⟩ := hO b u q
      exact ⟨hobj, by rw [List.length_map]; exact hz, vs, _, rv, hobj⟩
    have off : ∀ {b : Addr} {o : Obj} {es : Array DictEntry} {ep : Nat}, s₁.heap.get? b = some o → o.data = .dict es ep → H b = none := fun {b o es ep} e d => by
      cases q : H b with
      | none => rfl
      | some u =>
        obtain ⟨rfl, _, _⟩ := hO b u q
        rw [hobj] at e; cases e
        cases (show Data.seq vs.toArray _ = Data.dict es ep from d)
    have nsK : ∀ {b : Addr} {m : Str → Option Value}, s₁.heap.Ns b m → (hidT s₁.heap H).Ns b m := fun {b m} ⟨o, es, ep, e, d, r⟩ => ⟨o, es, ep, hidT_get e (off e d), d, r⟩
    have hKb : K.In (hidT s₁.heap H) := fun b o e => hidT_get (KX b o e) (by
      cases q : H b with
      | none => rfl
      | some u =>
        obtain ⟨rfl, _, n⟩ := hO b u q
        rw [n] at e; cases e)
    have hM : Mod K mg (hidT s₁.heap H) := ⟨hKb, nsK G.T.g, ⟨mb, nsK G.T.b, G.T.builtins⟩, let ⟨mc, h1, h2⟩ := G.T.nolimit; ⟨mc, nsK h1, h2⟩⟩
    have e0 : Env0 l.prog w K mg (hidT s₁.heap H) callerA [] s₁ H := ⟨rfl, hM, fun b o e => of_hidT e, Nat.le_of_eq (hidT_size _ _), trivial, fun b hb => (by cases hb), hok, .of_eq hg⟩
    have hsp : spI K [] 1 FF [.ref a] H (fun v _ => v = .bl true) (fun _ _ _ => False) := by
      obtain ⟨h', e⟩ := hT ns hlen
      refine ⟨fun _ => True, [], [], [.scr ns], ⟨fun _ _ => trivial, fun b hb => (by cases hb), fun p hp => (by cases hp), List.nodup_nil, rfl, fun i b c h1 => by simp at h1⟩, Reps.cons (.scr hS) Reps.nil, rfl, ?_⟩
      rw [e]
      intro M' H' v _ _ r
      cases r
      rfl
    obtain ⟨fd, FO, hb⟩ := hF _ hKb (nsK G.T.g)
    refine codeAny_mono (FO.run callerA [] s₁ H ⟨[.ref a], []⟩ [.ref a] [.ref a] _ _ ⟨hr, rfl⟩ e0 (hb s₁ [.ref a] KX rfl) (.cons rfl .nil) hsp) fun r s' h => ?_
    cases r with
    | error e =>
      obtain ⟨_, _, _, _, _, _, _, _, _, _, _, _, z⟩ := h
      exact False.elim z
    | ok fl =>
      cases fl with
      | next => exact False.elim h
      | brk => exact False.elim h
      | cont => exact False.elim h
      | ret u =>
        obtain ⟨v, H', os, bare, un, hok', r', q⟩ := h
        have q' : v = .bl true := q
        subst q'
        obtain rfl : u = Value.bool true := r'
        refine ⟨rfl, OldK.of_keep fun b o e => ?_, os, bare⟩
        cases q : H b with
        | none => exact un.keep b o e q (by intro z; cases z) (by simp)
        | some u =>
          obtain ⟨eb, eu, _⟩ := hO b u q
          subst eu
          have z2 := un.frzs b _ _ q
          obtain ⟨e2, _⟩ := hok' b _ z2
          subst eb
          rw [hobj] at e; cases e
          exact e2
  cases hk : K.lookup a with
  | some o =>
    have e := KX a o hk
    rw [hobj] at e
    cases e
    exact core (fun _ => none) (fun b u q => by cases q) (.inr (.inr ⟨_, vs.toArray, _, hk, rfl, rfl, rfl, by rw [List.size_toArray, lenV]; exact hz, by simpa using rv⟩))
  | none =>
    refine core (fun b => if b = a then some (.frz { cls := .type "list", data := .seq vs.toArray } (.lst (ns.map V.int))) else none) (fun b u q => ?_) (.inl ⟨_, if_pos rfl⟩)
    by_cases hb : b = a
    · rw [if_pos hb] at q
      cases q
      exact ⟨hb, rfl, hk⟩
    · rw [if_neg hb] at q
      cases q

/-! ### D.get(k, x), D a dict of the module with text keys -/
section
variable {C : List (V × D)} {X : Cx} {W : WX} {pos : Pos}
/-- tbl is what the written dict at a says -/
def Tbl (K : PySem.W.Frag) (w : World) (a : Addr) (tbl : List (Str × D)) : Prop := (∃ es n, KDict K w a es n) ∧ ∀ z : Str, match tbl.lookup z with
  | some d => ∃ u v, PySem.W.nsIn K a z = some (some u) ∧ RelV v u ∧ ∀ Z M H, Rep K Z M H d v
  | none => PySem.W.nsIn K a z = some none
def cGetK (tbl : List (Str × D)) (k x : ME) : ME := fun env h => (k env h).bind fun y h1 => (x env h1).bind fun z h2 => match y with
  | .str s => .ok ((tbl.lookup s).getD z) h2
  | _ => .bad
theorem se_getK {x : Str} {e f : Expr} {me mf : ME} {p apos : Pos} {a : Addr} {tbl : List (Str × D)} (hg : Gl X x) (hm : X.mg x = some (.ref a)) (T : Tbl X.K X.w a tbl) (he : SE C X W e me) (hf : SE C X W f mf) (m : M2 X (.Name x p) "get" apos e f pos)
    (hd : (x == ("__debug__" : Str)) = false := by decide) : SE C X W (.Call (.Attribute (.Name x p) "get" apos) [e, f] [] pos) (cGetK tbl me mf) := by
  obtain ⟨⟨es, n, D⟩, T⟩ := T
  refine ⟨fun pins s σ H Q I ⟨Z, M, env, h, sr, g⟩ => ?_⟩
  refine wpAny_Call_method m.base m.few m.line PySem.F.plainAttrs_dict PySem.F.slot_dict_get PySem.F.type_dict_get (thn ((pe_glob (v := .ref a) hg hm rfl hd).run pins s σ H (fun x' H1 => x' = .ref a ∧ H1 = H) I ⟨rfl, rfl⟩) fun u s1 ⟨x', H1, I1, rx, ex, eH⟩ => ?_)
  subst ex
  subst eH
  obtain rfl : u = Value.ref a := rx
  have hm1 := PySem.W.mapOf_K (prog := X.prog) (w := X.w) I1.kIn D.at_ D.lit
  refine ⟨hm1.typeIs, hm1.noDict, ?_⟩
  rw [m.trees]
  refine Calls.callWith_builtin rfl (Calls.evalArgs_plain (Calls.spliced_cons (thn (he.run pins s1 σ H1 (fun y H2 => ∃ M h dy, SR X.K C X.pn Z M env h σ H2 ∧ Rep X.K (zn Z M) M H2 dy y ∧ Got X.K C X.pn Z W σ env M H2 ((mf env h).bind fun z h2 => match dy with
    | .str s => R.ok ((tbl.lookup s).getD z) h2
    | _ => .bad) (fun M' H' d => ∀ v, Rep X.K (zn Z M') M' H' d v → Q v H')) I1 ?_) fun iv s2 ⟨y, H2, I2, ry, M2, h2, dy, s3, rdy, g2⟩ =>
    Calls.spliced_cons (thn (hf.run pins s2 σ H2 (fun z H3 => ∃ M h dz, SR X.K C X.pn Z M env h σ H3 ∧ Rep X.K (zn Z M) M H3 dz z ∧ Got X.K C X.pn Z W σ env M H3 (match dy with
    | .str s => R.ok ((tbl.lookup s).getD dz) h
    | _ => .bad) (fun M' H' d => ∀ v, Rep X.K (zn Z M') M' H' d v → Q v H')) I2 ?_) fun fv s4 ⟨z, H3, I3, rz, M3, h3, dz, s5, rdz, g3⟩ => Calls.spliced_nil ?_))))
  · exact tE.step sr g fun M1 H1 h1 dy v e1 s1 r1 g1 => ⟨M1, h1, dy, s1, r1, g1⟩
  · exact tE.step s3 g2 fun M1 H1 h1 dz v e1 s1 r1 g1 => ⟨M1, h1, dz, s1, r1, g1⟩
  · cases rdy with
    | str zs =>
      obtain ⟨t, rfl⟩ := ry
      have hm3 := PySem.W.mapOf_K (prog := X.prog) (w := X.w) I3.kIn D.at_ D.lit
      have t3 := T zs
      dsimp only at g3
      refine call_meetsIn PySem.F.slot_dict_get hm3.typeIs PySem.F.entry_dict_get (PySem.F.args_dict_get_3 _ _ _) (meets_dict_get_default (strKind X.prog X.w) a (strKind_is X.prog X.w zs t) D.low fv) ⟨_, hm3, ?_⟩
      cases hl : tbl.lookup zs with
      | none =>
        rw [hl] at t3 g3
        rw [PySem.W.find_K D.at_ t3]
        exact ⟨z, H3, I3.tok _, rz, Got.now g3 s5 _ rdz⟩
      | some d =>
        rw [hl] at t3 g3
        obtain ⟨u, v, e1, e2, e3⟩ := t3
        rw [PySem.W.find_K D.at_ e1]
        exact ⟨v, H3, I3.tok _, e2, Got.now g3 s5 _ (e3 _ _ _)⟩
    | _ => exact False.elim g3
end
end G

set_option Elab.async false
set_option linter.all false
set_option maxRecDepth 100000
set_option maxHeartbeats 4000000
/-! G17: facts of the head as Bools: own exception classes, tables of the module, defs that can be called. -/
namespace G
open PySem PySem.Spec PyProof.Rows L2

def oexB (K : PySem.W.Frag) (C : Addr) : Bool := match K.lookup C with
  | some ⟨.type "type", _, .cls cd, sl⟩ => (match cd.mro, sl.toList with
    | .ref C' :: bm, [_, _, _, _, some (.builtin n), _] => C' == C && (n == "ValueError.__new__" && (!cd.hasDel && (cd.hasDict && (PySem.HandSPX.refsVE bm && (decide (PySem.W.findIn K (.ref C) "__setattr__" = some (some (.builtin "object.__setattr__"))) &&
        (decide (PySem.W.subIn K (.ref C) (.type "BaseException") = some true) && (decide (PySem.W.typeIn K (.ref C) = some (.type "type")) && PySem.W.keepIn K (.ref C))))))))
    | _, _ => false)
  | _ => false
theorem oexB_ok {K : PySem.W.Frag} {C : Addr} (q : oexB K C = true) : OexC K C := by
  unfold oexB at q
  split at q
  · rename_i dd cd sl ho
    split at q
    · rename_i C' bm k0 k1 k2 k3 n k5 hm hs
      simp only [Bool.and_eq_true, beq_iff_eq, Bool.not_eq_true', decide_eq_true_eq] at q
      obtain ⟨rfl, rfl, hdel, hd, ht, h1, h2, h3, h4⟩ := q
      obtain ⟨nm, bs, mro, ns, qn, hd', sn, sub, ab, col, del⟩ := cd
      dsimp only at hm hdel hd
      subst hm hdel hd
      have hsl : sl = #[k0, k1, k2, k3, some (.builtin "ValueError.__new__"), k5] := by
        obtain ⟨l⟩ := sl
        simp only at hs
        rw [hs]
      subst hsl
      exact ⟨⟨nm, qn, ns, bs, bm, sn, sub, ab, col, dd, k0, k1, k2, k3, k5, ho, ht⟩, h1, h2, h3, h4⟩
    · cases q
  · cases q

/-! ### a table of the module, text keys -/
theorem nsIn_miss {K : PySem.W.Frag} {a : Addr} {z : Str} {P : Params} {ks : List Str} (h : He.dicW K a = some (He.keysIn P ks)) (hz : z ∉ ks) : PySem.W.nsIn K a z = some none := by
  unfold He.dicW at h
  unfold PySem.W.nsIn
  cases q : K.lookup a with
  | none => rw [q] at h; cases h
  | some o =>
    obtain ⟨oc, od, dt, osl⟩ := o
    rw [q] at h
    cases oc with
    | type c =>
      cases od with
      | some d => cases dt <;> cases h
      | none =>
        cases dt with
        | dict es n =>
          dsimp only at h ⊢
          cases hb : decide (c = "dict") && (osl.isEmpty && !(a == sysModules)) with
          | false => rw [hb] at h; cases h
          | true =>
            rw [hb] at h
            have h : es.toList.map He.keyOf = He.keysIn P ks := Option.some.inj h
            have key : ∀ e ∈ es.toList, ∃ x t, e.key = .str x t ∧ x ∈ ks := fun e he => by
              have m := List.mem_map_of_mem (f := He.keyOf) he
              rw [h] at m
              unfold He.keysIn at m
              obtain ⟨k, hk, ek⟩ := List.mem_map.mp m
              unfold He.keyOf at ek
              cases hkey : e.key with
              | str x t =>
                rw [hkey] at ek
                have q : k = x := congrArg Prod.fst (Option.some.inj ek)
                subst q
                exact ⟨k, t, rfl, hk⟩
              | _ => rw [hkey] at ek; cases ek
            have f : es.toList.find? (·.key.isStr z) = none := by
              rw [List.find?_eq_none]
              intro e he
              obtain ⟨x, t, ek, hx⟩ := key e he
              rw [ek]
              intro q
              have : x = z := by
                have q' : (x == z) = true := q
                exact eq_of_beq q'
              exact hz (this ▸ hx)
            have g : es.toList.any (·.refKey) = false := by
              rw [List.any_eq_false]
              intro e he
              obtain ⟨x, t, ek, hx⟩ := key e he
              unfold DictEntry.refKey
              rw [ek]
              exact Bool.false_ne_true
            rw [f, g]
            rfl
        | _ => cases h
    | _ => cases od <;> cases dt <;> cases h
/-- the table's values -/
inductive Dc where
  | int (i : Int) | str (x : Str) | bl (b : Bool) | non
def Dc.d : Dc → D
  | .int i => .int i
  | .str x => .str x
  | .bl b => .bl b
  | .non => .non
def Dc.v : Dc → V
  | .int i => .int i
  | .str x => .str x
  | .bl b => .bl b
  | .non => .non
theorem Dc.rep {K : PySem.W.Frag} {Z : Addr → Prop} {M : List Addr} {H : Hp} (c : Dc) : Rep K Z M H c.d c.v := by
  cases c with
  | int i => exact .int i
  | str x => exact .str x
  | bl b => exact .bl b
  | non => exact .non
def tblB (K : PySem.W.Frag) (a : Addr) (t : List (Str × Dc)) : Bool := t.all fun q => match PySem.W.nsIn K a q.1 with
  | some (some u) => He.relB q.2.v u
  | _ => false
theorem lookup_map {t : List (Str × Dc)} {z : Str} : (t.map fun q => (q.1, q.2.d)).lookup z = (t.lookup z).map Dc.d := by
  induction t with
  | nil => rfl
  | cons p t ih =>
    rw [List.map_cons, List.lookup_cons, List.lookup_cons]
    cases h : z == p.1 with
    | true => rfl
    | false => exact ih
theorem lookup_none {t : List (Str × Dc)} {z : Str} (h : t.lookup z = none) : z ∉ t.map (·.1) := by
  induction t with
  | nil => simp
  | cons p t ih =>
    rw [List.lookup_cons] at h
    cases hz : z == p.1 with
    | true => rw [hz] at h; cases h
    | false =>
      rw [hz] at h
      rw [List.map_cons, List.mem_cons]
      rintro (e | m)
      · rw [e, beq_self_eq_true] at hz; cases hz
      · exact ih h m
theorem tbl_ok {K : PySem.W.Frag} {w : World} {a : Addr} {t : List (Str × Dc)} (h : He.dicW K a = some (He.keysIn w.params (t.map (·.1)))) (hv : tblB K a t = true) : Tbl K w a (t.map fun q => (q.1, q.2.d)) := by
  refine ⟨He.dicW_ok h, fun z => ?_⟩
  rw [lookup_map]
  cases hl : t.lookup z with
  | none => exact nsIn_miss h (lookup_none hl)
  | some c =>
    have q := List.all_eq_true.mp hv (z, c) (lookup_in hl)
    dsimp only at q
    cases hn : PySem.W.nsIn K a z with
    | none => rw [hn] at q; cases q
    | some o =>
      cases o with
      | none => rw [hn] at q; cases q
      | some u =>
        rw [hn] at q
        exact ⟨u, c.v, rfl, He.relB_ok q, fun Z M H => c.rep⟩

/-! ### defs that can be called -/
/-- f is a def with F as its function, k deep -/
def Is (P : Program) (w : World) (K : PySem.W.Frag) (mg : Str → Option Value) (base : Heap) (k : Nat) (f : Addr) (ps : List Str) (F : FF) : Prop :=
  ∃ fd, FnG P w K mg base (L2.CX P w) k f fd ps (spI K [] ps.length F) ∧ Binds K fd ps [] ∧ PySem.W.keepIn K (.ref f) = true ∧ ∀ d h, F d h ≠ .bad → d.length = ps.length
theorem Is.mono {P : Program} {w : World} {K : PySem.W.Frag} {mg : Str → Option Value} {base : Heap} {j k : Nat} {f : Addr} {ps : List Str} {F : FF} (i : Is P w K mg base j f ps F) (h : j ≤ k) : Is P w K mg base k f ps F := by
  obtain ⟨fd, FO, r⟩ := i
  exact ⟨fd, FO.mono h, r⟩
theorem nilD (F : FF) : (fun es h => F (es ++ []) h) = F := by
  funext es h
  rw [List.append_nil]
theorem Is.cal {X : Cx} {W : WX} {k : Nat} {f : Addr} {ps : List Str} {F : FF} (i : Is X.prog X.w X.K X.mg X.base k f ps F) (tk : Takes X W) (hr : RG k X.A) : Cal [] X W (.ref f) F := by
  obtain ⟨fd, FO, hb, _, hn⟩ := i
  have c := cal_fn (C := []) (ds := []) (dvs := []) tk FO hr hb .nil [] (fun _ _ _ => Reps.nil) hn
  rw [nilD] at c
  exact c
theorem Is.cal1 {X : Cx} {W : WX} {k : Nat} {f : Addr} {ps : List Str} {F : FF} (i : Is X.prog X.w X.K X.mg X.base k f ps F) (tk : Takes X W) (hr : RG (k + 1) X.A) : Cal1 [] X W (.ref f) F := by
  obtain ⟨fd, FO, hb, _, hn⟩ := i
  have c := cal_fn1 (C := []) (ds := []) (dvs := []) tk FO hr hb .nil [] (fun _ _ _ => Reps.nil) hn
  rw [nilD] at c
  exact c
theorem Is.mk {X : Cx} {W : WX} {k : Nat} {c : Str} {f : Addr} {ps : List Str} {F : FF} (i : Is X.prog X.w X.K X.mg X.base k f ps F) (tk : Takes X W) (MK : Mk X.K (He.ga X.K c) f) (hr : RG (k + 1) X.A) : Cal [] X W (.ref (He.ga X.K c)) (mkF c F) := by
  obtain ⟨fd, FO, hb, _, hn⟩ := i
  have q := cal_make (C := []) (ds := []) (dvs := []) tk MK FO hr hb .nil [] (fun _ _ _ => Reps.nil) hn
  rw [nilD] at q
  exact q
/-- a def by its body's judgement -/
theorem is_mk {P : Program} {w : World} {K : PySem.W.Frag} {mg : Str → Option Value} {base : Heap} {x qual : Str} {params : Arguments} {body : List Stmt} {scope : Scope} {f : Addr} {fd : FuncData} {N ps : List Str} {k : Nat} {m : MS}
    (F : FunD K x qual params body scope [] [] f fd) (S : FnScope N ps scope) (hb : Binds K fd ps [])
    (h : ∀ (cdv : Value) (A : Around) (outer : List Env) (s : Shared) (H : Hp) (E : XK) (W : WX), RG k (A.deeper (envOfC qual scope s.heap.objs.size f cdv)) → Takes (cxOf (L2.CX P w) P w K mg base N qual scope f cdv A outer s H E) W → SB [] (cxOf (L2.CX P w) P w K mg base N qual scope f cdv A outer s H E) W body m) :
    Is P w K mg base (k + 1) f ps (runF m ps.length N.length) :=
  ⟨fd, fn_mk F S h, hb, F.kp, fun d h e => runF_len e⟩
theorem takes_no {X : Cx} : Takes X (fun _ _ _ _ => False) := fun e s' q => by
  obtain ⟨a, B, sI, pins', σ', H', cls, d, _, _, _, _, _, _, _, _, z⟩ := q
  exact z.elim
theorem RG.u1 {k : Nat} {A : Around} (r : RG k A) : A.units + 1 < cLine := by have := r.rm.un; omega
theorem RG.u64 {k : Nat} {A : Around} (r : RG k A) : A.units + 64 < cLine := by have := r.rm.un; omega
def vvB (K : PySem.W.Frag) (C : Addr) : Bool := match PySem.W.findCls K (.ref C) (.type "type") "__init__" with
  | some (.val (.builtin n)) => n == "ValueError.__init__"
  | _ => false
theorem vvB_ok {K : PySem.W.Frag} {C : Addr} (h : vvB K C = true) : PySem.W.findCls K (.ref C) (.type "type") "__init__" = some (.val (.builtin "ValueError.__init__")) := by
  unfold vvB at h
  split at h
  · rename_i n e
    rw [e, eq_of_beq h]
  · cases h
end G

set_option Elab.async false
set_option linter.all false
set_option maxRecDepth 100000
set_option maxHeartbeats 4000000
/-! G18: the head's facts, over what hangs on the module and some further addresses. -/
namespace G
open PySem PySem.Spec PyProof.Rows L2

structure SaysY (fa : List He.Fa) (fn : List He.DefD) (ts : List He.Tab) (ex : PySem.W.Frag → Bool) (w : World) (K : PySem.W.Frag) : Prop where
  t : He.SaysT fa fn ts w K
  more : ex K = true
def frY (g : Addr → Option Obj) (n : Nat) : PySem.W.Frag := He.frG g (He.asD g n ++ [cStatics])
def obsY (n : Nat) (fa : List He.Fa) (fn : List He.DefD) (ts : List He.Tab) (ex : PySem.W.Frag → Bool) (g : Addr → Option Obj) : He.AlX := (He.obsT fa fn ts (frY g n), ex (frY g n))
def hookY (n : Nat) (fa : List He.Fa) (fn : List He.DefD) (ts : List He.Tab) (ex : PySem.W.Frag → Bool) : PySem.W.Hook where
  α := He.AlX
  obs := fun s => obsY n fa fn ts ex s.heap.get?
  val := fun w => He.valX fn ts w
  says := fun w h => ∃ K : PySem.W.Frag, K.In h ∧ SaysY fa fn ts ex w K
  of := fun _ _ e => ⟨_, He.frG_in, congrArg (fun z : He.AlX => z.1) e, congrArg (fun z : He.AlX => z.2) e⟩
  keeps := fun _ _ _ ⟨K, hK, c⟩ k => ⟨K, PySem.W.Frag.In.keeps hK k, c⟩
theorem obsY_eq {n : Nat} {fa : List He.Fa} {fn : List He.DefD} {ts : List He.Tab} {ex : PySem.W.Frag → Bool} {g : Addr → Option Obj} {s : Shared} (h : ∀ a, g a = s.heap.get? a) : obsY n fa fn ts ex g = (hookY n fa fn ts ex).obs s := by
  have e : g = s.heap.get? := funext h
  rw [e] <;> rfl
end G

set_option Elab.async false
set_option linter.all false
set_option maxRecDepth 100000
set_option maxHeartbeats 0
/-! the text of addednames_k86_notes: printed by gen.py -/
namespace G
open PySem PySem.Spec PyProof.Rows L2
def top (i : Nat) : Stmt := PySem.Challenge.pw_addednames_k86_notes.main.body.getD i (.Pass ⟨0, 0, 0, 0⟩)
def tb_LENGTHS : List (Str × Dc) := [("name", Dc.int 3), ("member", Dc.int 3), ("spread", Dc.int 4)]
def ty_list : List (String × Bool) := [("NoneType", false), ("bool", false), ("int", false), ("str", false), ("tuple", false), ("list", true), ("dict", false)]
theorem tk_list : ∀ q ∈ ty_list, kitB q.1 "list" = some q.2 := by decide +kernel
def ty_str : List (String × Bool) := [("NoneType", false), ("bool", false), ("int", false), ("str", true), ("tuple", false), ("list", false), ("dict", false)]
theorem tk_str : ∀ q ∈ ty_str, kitB q.1 "str" = some q.2 := by decide +kernel
def ty_tuple : List (String × Bool) := [("NoneType", false), ("bool", false), ("int", false), ("str", false), ("tuple", true), ("list", false), ("dict", false)]
theorem tk_tuple : ∀ q ∈ ty_tuple, kitB q.1 "tuple" = some q.2 := by decide +kernel
theorem bt_str : bootBuiltins "str" = some (.type "str") := by decide +kernel
theorem bt_sorted : bootBuiltins "sorted" = some (.builtin "sorted") := by decide +kernel
theorem bt_int : bootBuiltins "int" = some (.type "int") := by decide +kernel
theorem bt_len : bootBuiltins "len" = some (.builtin "len") := by decide +kernel
theorem bt_repr : bootBuiltins "repr" = some (.builtin "repr") := by decide +kernel
theorem bt_list : bootBuiltins "list" = some (.type "list") := by decide +kernel
theorem bt_all : bootBuiltins "all" = some (.builtin "all") := by decide +kernel
theorem bt_tuple : bootBuiltins "tuple" = some (.type "tuple") := by decide +kernel
theorem bt_sum : bootBuiltins "sum" = some (.builtin "sum") := by decide +kernel
theorem bt_abs : bootBuiltins "abs" = some (.builtin "abs") := by decide +kernel
theorem bt_max : bootBuiltins "max" = some (.builtin "max") := by decide +kernel
theorem bt_min : bootBuiltins "min" = some (.builtin "min") := by decide +kernel
structure Ev (w : World) (K : PySem.W.Frag) (mg : Str → Option Value) : Prop where
  g_law : mg "law" = some (.ref (He.ga K "law"))
  d_Notes___init__ : ∃ fd, FunD K "__init__" "Notes.__init__" (defArgs (inClass (top 12) 0)) (defBody (inClass (top 12) 0)) (defScope (inClass (top 12) 0)) [] [] (He.fAd K ("Notes", some "__init__")) fd
  d_Notes_listed : ∃ fd, FunD K "listed" "Notes.listed" (defArgs (inClass (top 12) 6)) (defBody (inClass (top 12) 6)) (defScope (inClass (top 12) 6)) [] [] (He.fAd K ("Notes", some "listed")) fd
  d_law_draw : ∃ fd, FunD K "_law_draw" "_law_draw" (defArgs (top 15)) (defBody (top 15)) (defScope (top 15)) [] [] (He.fAd K ("_law_draw", none)) fd
  d_Notes___contains__ : ∃ fd, FunD K "__contains__" "Notes.__contains__" (defArgs (inClass (top 12) 3)) (defBody (inClass (top 12) 3)) (defScope (inClass (top 12) 3)) [] [] (He.fAd K ("Notes", some "__contains__")) fd
  d_Notes___len__ : ∃ fd, FunD K "__len__" "Notes.__len__" (defArgs (inClass (top 12) 5)) (defBody (inClass (top 12) 5)) (defScope (inClass (top 12) 5)) [] [] (He.fAd K ("Notes", some "__len__")) fd
  d_BadName___init__ : ∃ fd, FunD K "__init__" "BadName.__init__" (defArgs (inClass (top 3) 0)) (defBody (inClass (top 3) 0)) (defScope (inClass (top 3) 0)) [] [] (He.fAd K ("BadName", some "__init__")) fd
  d_Notes___getitem__ : ∃ fd, FunD K "__getitem__" "Notes.__getitem__" (defArgs (inClass (top 12) 4)) (defBody (inClass (top 12) 4)) (defScope (inClass (top 12) 4)) [] [] (He.fAd K ("Notes", some "__getitem__")) fd
  d_law_at_of : ∃ fd, FunD K "_law_at_of" "_law_at_of" (defArgs (top 20)) (defBody (top 20)) (defScope (top 20)) [] [] (He.fAd K ("_law_at_of", none)) fd
  d_law_is_list : ∃ fd, FunD K "_law_is_list" "_law_is_list" (defArgs (top 18)) (defBody (top 18)) (defScope (top 18)) [] [] (He.fAd K ("_law_is_list", none)) fd
  d_law_listed : ∃ fd, FunD K "_law_listed" "_law_listed" (defArgs (top 21)) (defBody (top 21)) (defScope (top 21)) [] [] (He.fAd K ("_law_listed", none)) fd
  d_law_fits : ∃ fd, FunD K "_law_fits" "_law_fits" (defArgs (top 22)) (defBody (top 22)) (defScope (top 22)) [] [] (He.fAd K ("_law_fits", none)) fd
  d_law_pick : ∃ fd, FunD K "_law_pick" "_law_pick" (defArgs (top 16)) (defBody (top 16)) (defScope (top 16)) [] [] (He.fAd K ("_law_pick", none)) fd
  d_law_names_of : ∃ fd, FunD K "_law_names_of" "_law_names_of" (defArgs (top 17)) (defBody (top 17)) (defScope (top 17)) [] [] (He.fAd K ("_law_names_of", none)) fd
  d_BadPlace___init__ : ∃ fd, FunD K "__init__" "BadPlace.__init__" (defArgs (inClass (top 2) 0)) (defBody (inClass (top 2) 0)) (defScope (inClass (top 2) 0)) [] [] (He.fAd K ("BadPlace", some "__init__")) fd
  d_is_name : ∃ fd, FunD K "is_name" "is_name" (defArgs (top 7)) (defBody (top 7)) (defScope (top 7)) [] [] (He.fAd K ("is_name", none)) fd
  d_is_place : ∃ fd, FunD K "is_place" "is_place" (defArgs (top 10)) (defBody (top 10)) (defScope (top 10)) [] [] (He.fAd K ("is_place", none)) fd
  d_Notes___setitem__ : ∃ fd, FunD K "__setitem__" "Notes.__setitem__" (defArgs (inClass (top 12) 2)) (defBody (inClass (top 12) 2)) (defScope (inClass (top 12) 2)) [] [] (He.fAd K ("Notes", some "__setitem__")) fd
  d_law_noted_of : ∃ fd, FunD K "_law_noted_of" "_law_noted_of" (defArgs (top 19)) (defBody (top 19)) (defScope (top 19)) [] [] (He.fAd K ("_law_noted_of", none)) fd
  d_law_pool_of : ∃ fd, FunD K "_law_pool_of" "_law_pool_of" (defArgs (top 14)) (defBody (top 14)) (defScope (top 14)) [] [] (He.fAd K ("_law_pool_of", none)) fd
  d_law : ∃ fd, FunD K "law" "law" (defArgs (top 23)) (defBody (top 23)) (defScope (top 23)) [] [] (He.fAd K ("law", none)) fd
  cls_Notes : Cls K (He.ga K "Notes")
  na_Notes_noted : NoAttr K (He.ga K "Notes") "noted"
  n_str : mg "str" = none
  n_sorted : mg "sorted" = none
  n_int : mg "int" = none
  n_isinstance : mg "isinstance" = none
  n_len : mg "len" = none
  cr_NamesError : ClX.CRead K (He.ga K "NamesError") (.type "type")
  vv_NamesError : PySem.W.findCls K (.ref (He.ga K "NamesError")) (.type "type") "__init__" = some (.val (.builtin "ValueError.__init__"))
  g_NamesError : mg "NamesError" = some (.ref (He.ga K "NamesError"))
  me_Notes_DcontainsD : Meth K (He.ga K "Notes") "__contains__" (He.ma K (He.ga K "Notes") "__contains__")
  me_BadName_DinitD : Meth K (He.ga K "BadName") "__init__" (He.ma K (He.ga K "BadName") "__init__")
  oex_BadName : OexC K (He.ga K "BadName")
  hno_BadName_name : PySem.W.findIn K (.ref (He.ga K "BadName")) "name" = some none
  g_BadName : mg "BadName" = some (.ref (He.ga K "BadName"))
  me_Notes_DgetitemD : Meth K (He.ga K "Notes") "__getitem__" (He.ma K (He.ga K "Notes") "__getitem__")
  fi_Notes_DgetitemD : PySem.W.fnIn K (He.ma K (He.ga K "Notes") "__getitem__") = true
  xm_BadName_NamesError : PySem.W.exmOne K (.ref (He.ga K "BadName")) (.ref (He.ga K "NamesError")) = some true
  xm_BadPlace_NamesError : PySem.W.exmOne K (.ref (He.ga K "BadPlace")) (.ref (He.ga K "NamesError")) = some true
  xm_NamesError_NamesError : PySem.W.exmOne K (.ref (He.ga K "NamesError")) (.ref (He.ga K "NamesError")) = some true
  xm_BadName_BadName : PySem.W.exmOne K (.ref (He.ga K "BadName")) (.ref (He.ga K "BadName")) = some true
  xm_BadPlace_BadName : PySem.W.exmOne K (.ref (He.ga K "BadPlace")) (.ref (He.ga K "BadName")) = some false
  xm_NamesError_BadName : PySem.W.exmOne K (.ref (He.ga K "NamesError")) (.ref (He.ga K "BadName")) = some false
  xf_BadName : XfC K (He.ga K "BadName")
  n_repr : mg "repr" = none
  n_list : mg "list" = none
  g_law_listed : mg "_law_listed" = some (.ref (He.ga K "_law_listed"))
  kp_law_listed : PySem.W.keepIn K (.ref (He.ga K "_law_listed")) = true
  me_Notes_listed : Meth K (He.ga K "Notes") "listed" (He.ma K (He.ga K "Notes") "listed")
  g_law_is_list : mg "_law_is_list" = some (.ref (He.ga K "_law_is_list"))
  kp_law_is_list : PySem.W.keepIn K (.ref (He.ga K "_law_is_list")) = true
  me_Notes_DlenD : Meth K (He.ga K "Notes") "__len__" (He.ma K (He.ga K "Notes") "__len__")
  g_law_at_of : mg "_law_at_of" = some (.ref (He.ga K "_law_at_of"))
  kp_law_at_of : PySem.W.keepIn K (.ref (He.ga K "_law_at_of")) = true
  g_law_draw : mg "_law_draw" = some (.ref (He.ga K "_law_draw"))
  kp_law_draw : PySem.W.keepIn K (.ref (He.ga K "_law_draw")) = true
  g_law_pick : mg "_law_pick" = some (.ref (He.ga K "_law_pick"))
  kp_law_pick : PySem.W.keepIn K (.ref (He.ga K "_law_pick")) = true
  n_range : mg "range" = none
  i_MOST_LETTERS : ∃ t, mg "MOST_LETTERS" = some (.int 8 t)
  s_LETTERS : ∃ t, mg "LETTERS" = some (.str "abcdefghijklmnopqrstuvwxyz" t)
  n_all : mg "all" = none
  n_tuple : mg "tuple" = none
  g_LENGTHS : mg "LENGTHS" = some (.ref (He.ga K "LENGTHS"))
  tbl_LENGTHS : Tbl K w (He.ga K "LENGTHS") (tb_LENGTHS.map fun q => (q.1, q.2.d))
  g_is_name : mg "is_name" = some (.ref (He.ga K "is_name"))
  kp_is_name : PySem.W.keepIn K (.ref (He.ga K "is_name")) = true
  g_is_place : mg "is_place" = some (.ref (He.ga K "is_place"))
  kp_is_place : PySem.W.keepIn K (.ref (He.ga K "is_place")) = true
  me_BadPlace_DinitD : Meth K (He.ga K "BadPlace") "__init__" (He.ma K (He.ga K "BadPlace") "__init__")
  oex_BadPlace : OexC K (He.ga K "BadPlace")
  hno_BadPlace_place : PySem.W.findIn K (.ref (He.ga K "BadPlace")) "place" = some none
  g_BadPlace : mg "BadPlace" = some (.ref (He.ga K "BadPlace"))
  me_Notes_DsetitemD : Meth K (He.ga K "Notes") "__setitem__" (He.ma K (He.ga K "Notes") "__setitem__")
  dq_Notes : PySem.W.mroIn K (He.ga K "Notes") (.type "collections.deque") = some false
  xm_BadName_BadPlace : PySem.W.exmOne K (.ref (He.ga K "BadName")) (.ref (He.ga K "BadPlace")) = some false
  xm_BadPlace_BadPlace : PySem.W.exmOne K (.ref (He.ga K "BadPlace")) (.ref (He.ga K "BadPlace")) = some true
  xm_NamesError_BadPlace : PySem.W.exmOne K (.ref (He.ga K "NamesError")) (.ref (He.ga K "BadPlace")) = some false
  xf_BadPlace : XfC K (He.ga K "BadPlace")
  n_sum : mg "sum" = none
  n_abs : mg "abs" = none
  mk_Notes : Mk K (He.ga K "Notes") (He.ma K (He.ga K "Notes") "__init__")
  g_Notes : mg "Notes" = some (.ref (He.ga K "Notes"))
  kp_Notes : PySem.W.keepIn K (.ref (He.ga K "Notes")) = true
  g_law_pool_of : mg "_law_pool_of" = some (.ref (He.ga K "_law_pool_of"))
  kp_law_pool_of : PySem.W.keepIn K (.ref (He.ga K "_law_pool_of")) = true
  g_law_names_of : mg "_law_names_of" = some (.ref (He.ga K "_law_names_of"))
  kp_law_names_of : PySem.W.keepIn K (.ref (He.ga K "_law_names_of")) = true
  n_max : mg "max" = none
  n_min : mg "min" = none
  g_law_noted_of : mg "_law_noted_of" = some (.ref (He.ga K "_law_noted_of"))
  kp_law_noted_of : PySem.W.keepIn K (.ref (He.ga K "_law_noted_of")) = true
  g_law_fits : mg "_law_fits" = some (.ref (He.ga K "_law_fits"))
  kp_law_fits : PySem.W.keepIn K (.ref (He.ga K "_law_fits")) = true
section
variable {P : Program} {w : World} {K : PySem.W.Frag} {mg : Str → Option Value} {base : Heap}
def N_Notes___init__ : List Str := ["self"]
def m_Notes___init__ : MS := sFldS "Notes" "noted" (cVar 0) (cDicN)
def F_Notes___init__ : FF := runF m_Notes___init__ 1 1

theorem sc_Notes___init__ : FnScope N_Notes___init__ ["self"] (defScope (inClass (top 12) 0)) := ⟨rfl, rfl, rfl, by decide +kernel, rfl, by decide +kernel, by decide +kernel⟩
theorem s_Notes___init__ (e : Ev w K mg) : Is P w K mg base (1 + 1) (He.fAd K ("Notes", some "__init__")) ["self"] F_Notes___init__ := by
  obtain ⟨fd, F⟩ := e.d_Notes___init__
  have nd := sc_Notes___init__.nd
  have B : Binds K fd ["self"] [] := F.bindsN fun _ _ _ _ _ _ us hl => match us, hl with | [_], _ => rfl
  have R : Is P w K mg base (1 + 1) (He.fAd K ("Notes", some "__init__")) ["self"] (runF m_Notes___init__ 1 1) := by
    refine is_mk (k := 1) (m := m_Notes___init__) (N := N_Notes___init__) F sc_Notes___init__ B fun cdv A outer s H E W hr tk => ?_
    exact (sb_one (ss_fld (se_var (i := 0) rfl (by first | exact Or.inl rfl | exact Or.inr (Or.inl rfl) | exact Or.inr (Or.inr rfl))) se_dicN e.cls_Notes e.na_Notes_noted))
  exact R

def N_Notes_listed : List Str := ["self", "name"]
def m_Notes_listed : MS := sRet (cLcN (iSeq (cCall (f1 sortedD) (aCons (cLcDic (cFld "Notes" "noted" (cVar 0)) (gN 1) (mYes) (cCall (f1 strD) (aCons (cVar 1) (aNil))) [1]) (aNil)))) (gN 1) (mYes) (cTup (aCons (cVar 1) (aCons (c2 oIx (cFld "Notes" "noted" (cVar 0)) (cVar 1)) (aNil)))) [1])
def F_Notes_listed : FF := runF m_Notes_listed 1 2

theorem sc_Notes_listed : FnScope N_Notes_listed ["self"] (defScope (inClass (top 12) 6)) := ⟨rfl, rfl, rfl, by decide +kernel, rfl, by decide +kernel, by decide +kernel⟩
theorem s_Notes_listed (e : Ev w K mg) : Is P w K mg base (1 + 1) (He.fAd K ("Notes", some "listed")) ["self"] F_Notes_listed := by
  obtain ⟨fd, F⟩ := e.d_Notes_listed
  have nd := sc_Notes_listed.nd
  have B : Binds K fd ["self"] [] := F.bindsN fun _ _ _ _ _ _ us hl => match us, hl with | [_], _ => rfl
  have R : Is P w K mg base (1 + 1) (He.fAd K ("Notes", some "listed")) ["self"] (runF m_Notes_listed 1 2) := by
    refine is_mk (k := 1) (m := m_Notes_listed) (N := N_Notes_listed) F sc_Notes_listed B fun cdv A outer s H E W hr tk => ?_
    exact (sb_one (ss_ret (se_lcN (own := [("name", 1)]) rfl nd (si_list (se_callB cr_sortedS kc_sorted rfl e.n_sorted bt_sorted (sa_cons (se_lcDic (own := [("name", 1)]) rfl nd (se_fld (se_var (i := 0) rfl (by first | exact Or.inl rfl | exact Or.inr (Or.inl rfl) | exact Or.inr (Or.inr rfl))) e.cls_Notes e.na_Notes_noted) (blkOk_by (own := [("name", 1)]) (N := N_Notes_listed) (sc := defScope (inClass (top 12) 6)) (by decide +kernel)) (fun _ _ _ _ _ => (sg_name (i := 1) nd rfl (by first | exact Or.inl rfl | exact Or.inr rfl))) (fun _ _ _ _ _ => sts_nil) (fun _ _ _ _ _ => (se_callTy call_strA kc_str rfl e.n_str bt_str (sa_cons (se_var (i := 1) rfl (by first | exact Or.inl rfl | exact Or.inr (Or.inl rfl) | exact Or.inr (Or.inr rfl))) sa_nil))) (by decide)) sa_nil))) (blkOk_by (own := [("name", 1)]) (N := N_Notes_listed) (sc := defScope (inClass (top 12) 6)) (by decide +kernel)) (fun _ _ _ _ _ => (sg_name (i := 1) nd rfl (by first | exact Or.inl rfl | exact Or.inr rfl))) (fun _ _ _ _ _ => sts_nil) (fun _ _ _ _ _ => (se_tup (sa_cons (se_var (i := 1) rfl (by first | exact Or.inl rfl | exact Or.inr (Or.inl rfl) | exact Or.inr (Or.inr rfl))) (sa_cons (se_ix hr.u1 (se_fld (se_var (i := 0) rfl (by first | exact Or.inl rfl | exact Or.inr (Or.inl rfl) | exact Or.inr (Or.inr rfl))) e.cls_Notes e.na_Notes_noted) (se_var (i := 1) rfl (by first | exact Or.inl rfl | exact Or.inr (Or.inl rfl) | exact Or.inr (Or.inr rfl)))) sa_nil)))) (by decide))))
  exact R

def N_law_draw : List Str := ["_law_pool", "_law_many", "_law_found"]
def m_law_draw : MS := sSeq (sIf (cB (c2 oGt (c2 oIx (cVar 0) (cC (.int 0))) (cC (.int 0)))) (sSeq (sSet 2 (c2 oMod (cCall (f1 intD) (aCons (c2 oIx (cVar 0) (cC (.int 0))) (aNil))) (cVar 1)))
  (sSeq (sSub (cVar 0) (cC (.int 0)) (c2 oDiv (c2 oIx (cVar 0) (cC (.int 0))) (cVar 1)))
  (sRet (cVar 2))))
  (sNil))
  (sSeq (sSub (cVar 0) (cC (.int 1)) (c2 oMod (cCall (f1 intD) (aCons (c2 oPlus (c2 oMul (c2 oIx (cVar 0) (cC (.int 1))) (cC (.int 48271))) (cC (.int 11))) (aNil))) (cC (.int 2147483647))))
  (sRet (c2 oMod (cCall (f1 intD) (aCons (c2 oDiv (c2 oMod (c2 oMul (c2 oIx (cVar 0) (cC (.int 1))) (c2 oIx (cVar 0) (cC (.int 1)))) (cC (.int 2147483629))) (cC (.int 16))) (aNil))) (cVar 1))))
def F_law_draw : FF := runF m_law_draw 2 3

theorem sc_law_draw : FnScope N_law_draw ["_law_pool", "_law_many"] (defScope (top 15)) := ⟨rfl, rfl, rfl, by decide +kernel, rfl, by decide +kernel, by decide +kernel⟩
theorem s_law_draw (e : Ev w K mg) : Is P w K mg base (1 + 1) (He.fAd K ("_law_draw", none)) ["_law_pool", "_law_many"] F_law_draw := by
  obtain ⟨fd, F⟩ := e.d_law_draw
  have nd := sc_law_draw.nd
  have B : Binds K fd ["_law_pool", "_law_many"] [] := F.bindsN fun _ _ _ _ _ _ us hl => match us, hl with | [_, _], _ => rfl
  have R : Is P w K mg base (1 + 1) (He.fAd K ("_law_draw", none)) ["_law_pool", "_law_many"] (runF m_law_draw 2 3) := by
    refine is_mk (k := 1) (m := m_law_draw) (N := N_law_draw) F sc_law_draw B fun cdv A outer s H E W hr tk => ?_
    exact (sb_cons (ss_if (st_cmp op_gt k_gt (se_ix hr.u1 (se_var (i := 0) rfl (by first | exact Or.inl rfl | exact Or.inr (Or.inl rfl) | exact Or.inr (Or.inr rfl))) se_int) se_int (nomark _)) (sb_cons (ss_set (i := 2) nd rfl (by first | exact Or.inl rfl | exact Or.inr rfl) (se_op op_mod k_mod (se_callTy call_int1 kc_int rfl e.n_int bt_int (sa_cons (se_ix hr.u1 (se_var (i := 0) rfl (by first | exact Or.inl rfl | exact Or.inr (Or.inl rfl) | exact Or.inr (Or.inr rfl))) se_int) sa_nil)) (se_var (i := 1) rfl (by first | exact Or.inl rfl | exact Or.inr (Or.inl rfl) | exact Or.inr (Or.inr rfl)))))
  (sb_cons (ss_sub hr.u1 (se_var (i := 0) rfl (by first | exact Or.inl rfl | exact Or.inr (Or.inl rfl) | exact Or.inr (Or.inr rfl))) se_int (se_op op_fdiv k_div (se_ix hr.u1 (se_var (i := 0) rfl (by first | exact Or.inl rfl | exact Or.inr (Or.inl rfl) | exact Or.inr (Or.inr rfl))) se_int) (se_var (i := 1) rfl (by first | exact Or.inl rfl | exact Or.inr (Or.inl rfl) | exact Or.inr (Or.inr rfl)))))
  (sb_one (ss_ret (se_var (i := 2) rfl (by first | exact Or.inl rfl | exact Or.inr (Or.inl rfl) | exact Or.inr (Or.inr rfl)))))))
  sb_nil)
  (sb_cons (ss_sub hr.u1 (se_var (i := 0) rfl (by first | exact Or.inl rfl | exact Or.inr (Or.inl rfl) | exact Or.inr (Or.inr rfl))) se_int (se_op op_mod k_mod (se_callTy call_int1 kc_int rfl e.n_int bt_int (sa_cons (se_op op_plus k_plus (se_op op_mul k_mul (se_ix hr.u1 (se_var (i := 0) rfl (by first | exact Or.inl rfl | exact Or.inr (Or.inl rfl) | exact Or.inr (Or.inr rfl))) se_int) se_int) se_int) sa_nil)) se_int))
  (sb_one (ss_ret (se_op op_mod k_mod (se_callTy call_int1 kc_int rfl e.n_int bt_int (sa_cons (se_op op_fdiv k_div (se_op op_mod k_mod (se_op op_mul k_mul (se_ix hr.u1 (se_var (i := 0) rfl (by first | exact Or.inl rfl | exact Or.inr (Or.inl rfl) | exact Or.inr (Or.inr rfl))) se_int) (se_ix hr.u1 (se_var (i := 0) rfl (by first | exact Or.inl rfl | exact Or.inr (Or.inl rfl) | exact Or.inr (Or.inr rfl))) se_int)) se_int) se_int) sa_nil)) (se_var (i := 1) rfl (by first | exact Or.inl rfl | exact Or.inr (Or.inl rfl) | exact Or.inr (Or.inr rfl))))))))
  exact R

def N_Notes___contains__ : List Str := ["self", "value"]
def m_Notes___contains__ : MS := sRet (cAndV (cIsi ty_str (cVar 1)) (c2 (oIn false) (cVar 1) (cFld "Notes" "noted" (cVar 0))))
def F_Notes___contains__ : FF := runF m_Notes___contains__ 2 2

theorem sc_Notes___contains__ : FnScope N_Notes___contains__ ["self", "value"] (defScope (inClass (top 12) 3)) := ⟨rfl, rfl, rfl, by decide +kernel, rfl, by decide +kernel, by decide +kernel⟩
theorem s_Notes___contains__ (e : Ev w K mg) : Is P w K mg base (1 + 1) (He.fAd K ("Notes", some "__contains__")) ["self", "value"] F_Notes___contains__ := by
  obtain ⟨fd, F⟩ := e.d_Notes___contains__
  have nd := sc_Notes___contains__.nd
  have B : Binds K fd ["self", "value"] [] := F.bindsN fun _ _ _ _ _ _ us hl => match us, hl with | [_, _], _ => rfl
  have R : Is P w K mg base (1 + 1) (He.fAd K ("Notes", some "__contains__")) ["self", "value"] (runF m_Notes___contains__ 2 2) := by
    refine is_mk (k := 1) (m := m_Notes___contains__) (N := N_Notes___contains__) F sc_Notes___contains__ B fun cdv A outer s H E W hr tk => ?_
    exact (sb_one (ss_ret (se_and (se_isi (Ts := "str") rfl e.n_isinstance (se_var (i := 1) rfl (by first | exact Or.inl rfl | exact Or.inr (Or.inl rfl) | exact Or.inr (Or.inr rfl))) rfl e.n_str bt_str (by decide) (by decide) tk_str) (se_one (se_cmp (op_inA hr.u1) (k_in false) (se_var (i := 1) rfl (by first | exact Or.inl rfl | exact Or.inr (Or.inl rfl) | exact Or.inr (Or.inr rfl))) (se_fld (se_var (i := 0) rfl (by first | exact Or.inl rfl | exact Or.inr (Or.inl rfl) | exact Or.inr (Or.inr rfl))) e.cls_Notes e.na_Notes_noted) (by with_unfolding_all rfl))))))
  exact R

def N_Notes___len__ : List Str := ["self"]
def m_Notes___len__ : MS := sRet (cCall (f1 lenD) (aCons (cFld "Notes" "noted" (cVar 0)) (aNil)))
def F_Notes___len__ : FF := runF m_Notes___len__ 1 1

theorem sc_Notes___len__ : FnScope N_Notes___len__ ["self"] (defScope (inClass (top 12) 5)) := ⟨rfl, rfl, rfl, by decide +kernel, rfl, by decide +kernel, by decide +kernel⟩
theorem s_Notes___len__ (e : Ev w K mg) : Is P w K mg base (1 + 1) (He.fAd K ("Notes", some "__len__")) ["self"] F_Notes___len__ := by
  obtain ⟨fd, F⟩ := e.d_Notes___len__
  have nd := sc_Notes___len__.nd
  have B : Binds K fd ["self"] [] := F.bindsN fun _ _ _ _ _ _ us hl => match us, hl with | [_], _ => rfl
  have R : Is P w K mg base (1 + 1) (He.fAd K ("Notes", some "__len__")) ["self"] (runF m_Notes___len__ 1 1) := by
    refine is_mk (k := 1) (m := m_Notes___len__) (N := N_Notes___len__) F sc_Notes___len__ B fun cdv A outer s H E W hr tk => ?_
    exact (sb_one (ss_ret (se_callB call_lenA kc_len rfl e.n_len bt_len (sa_cons (se_fld (se_var (i := 0) rfl (by first | exact Or.inl rfl | exact Or.inr (Or.inl rfl) | exact Or.inr (Or.inr rfl))) e.cls_Notes e.na_Notes_noted) sa_nil))))
  exact R

theorem sc_BadName___init__ : FnScope ["self", "name"] ["self", "name"] (defScope (inClass (top 3) 0)) := ⟨rfl, rfl, rfl, by decide +kernel, rfl, by decide +kernel, by decide +kernel⟩
theorem s_BadName___init__ (e : Ev w K mg) : ∃ fd, FnOk P w K mg base (L2.CX P w) 2 (He.fAd K ("BadName", some "__init__")) fd ["self", "name"] (spX K "name") ∧ Binds K fd ["self", "name"] [] := by
  obtain ⟨fd, F⟩ := e.d_BadName___init__
  have S := sc_BadName___init__
  refine ⟨fd, fn_excInit (t := "the value is not a name") F S fun cdv A outer s H E => ?_, F.bindsN fun _ _ _ _ _ _ us hl => match us, hl with | [_, _], _ => rfl⟩
  exact pss_cons (ps_expr (pe_baseinit rfl e.g_NamesError e.cr_NamesError e.vv_NamesError (pa_cons (pv 0) (pa_cons pe_str pa_nil)))) (pss_one (ps_ost (pv 0) (pv 1)))

def N_Notes___getitem__ : List Str := ["self", "name"]
def m_Notes___getitem__ : MS := sSeq (sIf (cB (c2 (oDin "Notes" F_Notes___contains__ true) (cVar 1) (cVar 0))) (sRaise "BadName" "name" (cVar 1))
  (sNil))
  (sRet (c2 oIx (cFld "Notes" "noted" (cVar 0)) (cVar 1)))
def F_Notes___getitem__ : FF := runF m_Notes___getitem__ 2 2

theorem sc_Notes___getitem__ : FnScope N_Notes___getitem__ ["self", "name"] (defScope (inClass (top 12) 4)) := ⟨rfl, rfl, rfl, by decide +kernel, rfl, by decide +kernel, by decide +kernel⟩
theorem s_Notes___getitem__ (e : Ev w K mg) : Is P w K mg base (5 + 1) (He.fAd K ("Notes", some "__getitem__")) ["self", "name"] F_Notes___getitem__ := by
  obtain ⟨fd, F⟩ := e.d_Notes___getitem__
  have i_Notes___contains__ := s_Notes___contains__ (P := P) (base := base) e
  have i_BadName___init__ := s_BadName___init__ (P := P) (base := base) e
  have nd := sc_Notes___getitem__.nd
  have B : Binds K fd ["self", "name"] [] := F.bindsN fun _ _ _ _ _ _ us hl => match us, hl with | [_, _], _ => rfl
  have R : Is P w K mg base (5 + 1) (He.fAd K ("Notes", some "__getitem__")) ["self", "name"] (runF m_Notes___getitem__ 2 2) := by
    refine is_mk (k := 5) (m := m_Notes___getitem__) (N := N_Notes___getitem__) F sc_Notes___getitem__ B fun cdv A outer s H E W hr tk => ?_
    exact (sb_cons (ss_if (st_notinO (se_var (i := 1) rfl (by first | exact Or.inl rfl | exact Or.inr (Or.inl rfl) | exact Or.inr (Or.inr rfl))) (se_var (i := 0) rfl (by first | exact Or.inl rfl | exact Or.inr (Or.inl rfl) | exact Or.inr (Or.inr rfl))) e.me_Notes_DcontainsD (i_Notes___contains__.cal tk (hr.mono (by decide))) (by with_unfolding_all rfl)) (sb_one (ss_raise (k := 2) rfl tk e.oex_BadName e.hno_BadName_name e.me_BadName_DinitD.at_ (beq_iff_eq.mp e.me_BadName_DinitD.fn) i_BadName___init__.choose_spec.1 (hr.rm.mono (by decide)) i_BadName___init__.choose_spec.2 rfl e.g_BadName (se_var (i := 1) rfl (by first | exact Or.inl rfl | exact Or.inr (Or.inl rfl) | exact Or.inr (Or.inr rfl)))))
  sb_nil)
  (sb_one (ss_ret (se_ix hr.u1 (se_fld (se_var (i := 0) rfl (by first | exact Or.inl rfl | exact Or.inr (Or.inl rfl) | exact Or.inr (Or.inr rfl))) e.cls_Notes e.na_Notes_noted) (se_var (i := 1) rfl (by first | exact Or.inl rfl | exact Or.inr (Or.inl rfl) | exact Or.inr (Or.inr rfl)))))))
  exact R

def N_law_at_of : List Str := ["_law_noted", "_law_name", "e"]
def m_law_at_of : MS := sTry (sRet (cLst (aCons (c2 (oDix "Notes" F_Notes___getitem__) (cVar 0) (cVar 1)) (aNil)))) (([("NamesError", false), ("BadPlace", false), ("BadName", true)], some 2, sRet (cLst (aCons (cC (.str "none")) (aCons (cCall (f1 reprD) (aCons (cExcI 2 "name" ["BadName"]) (aNil))) (aNil))))) :: ([("NamesError", true), ("BadPlace", true), ("BadName", true)], some 2, sRet (cLst (aNil))) :: [])
def F_law_at_of : FF := runF m_law_at_of 2 3

theorem sc_law_at_of : FnScope N_law_at_of ["_law_noted", "_law_name"] (defScope (top 20)) := ⟨rfl, rfl, rfl, by decide +kernel, rfl, by decide +kernel, by decide +kernel⟩
theorem s_law_at_of (e : Ev w K mg) : Is P w K mg base (7 + 1) (He.fAd K ("_law_at_of", none)) ["_law_noted", "_law_name"] F_law_at_of := by
  obtain ⟨fd, F⟩ := e.d_law_at_of
  have i_Notes___getitem__ := s_Notes___getitem__ (P := P) (base := base) e
  have nd := sc_law_at_of.nd
  have B : Binds K fd ["_law_noted", "_law_name"] [] := F.bindsN fun _ _ _ _ _ _ us hl => match us, hl with | [_, _], _ => rfl
  have R : Is P w K mg base (7 + 1) (He.fAd K ("_law_at_of", none)) ["_law_noted", "_law_name"] (runF m_law_at_of 2 3) := by
    refine is_mk (k := 7) (m := m_law_at_of) (N := N_law_at_of) F sc_law_at_of B fun cdv A outer s H E W hr tk => ?_
    exact (sb_one (ss_try rfl rfl tk (fun _ _ _ tk2 _ => (sb_one (ss_ret (se_lst (sa_cons (se_ixO (se_var (i := 0) rfl (by first | exact Or.inl rfl | exact Or.inr (Or.inl rfl) | exact Or.inr (Or.inr rfl))) (se_var (i := 1) rfl (by first | exact Or.inl rfl | exact Or.inr (Or.inl rfl) | exact Or.inr (Or.inr rfl))) e.me_Notes_DgetitemD e.fi_Notes_DgetitemD (i_Notes___getitem__.cal1 tk2 (hr.mono (by decide)))) sa_nil))))) (.consN (i := 2) nd rfl rfl ⟨rfl, by decide, .inl e.g_BadName⟩ (List.forall_mem_cons.mpr ⟨e.xm_NamesError_BadName, (List.forall_mem_cons.mpr ⟨e.xm_BadPlace_BadName, (List.forall_mem_cons.mpr ⟨e.xm_BadName_BadName, (fun _ h => absurd h List.not_mem_nil)⟩)⟩)⟩) (fun _ _ => (sb_one (ss_ret (se_lst (sa_cons se_str (sa_cons (se_callB (call_repr hr.gd hr.u64) kc_repr rfl e.n_repr bt_repr (sa_cons (se_exc (i := 2) rfl (by first | exact Or.inl rfl | exact Or.inr (Or.inl rfl) | exact Or.inr (Or.inr rfl)) ["BadName"] (List.forall_mem_cons.mpr ⟨⟨e.xf_BadName, e.hno_BadName_name⟩, (fun _ h => absurd h List.not_mem_nil)⟩)) sa_nil)) sa_nil)))))) (.consN (i := 2) nd rfl rfl ⟨rfl, by decide, .inl e.g_NamesError⟩ (List.forall_mem_cons.mpr ⟨e.xm_NamesError_NamesError, (List.forall_mem_cons.mpr ⟨e.xm_BadPlace_NamesError, (List.forall_mem_cons.mpr ⟨e.xm_BadName_NamesError, (fun _ h => absurd h List.not_mem_nil)⟩)⟩)⟩) (fun _ _ => (sb_one (ss_ret (se_lst sa_nil)))) .nil))))
  exact R

def N_law_is_list : List Str := ["_law_found", "_law_due"]
def m_law_is_list : MS := sRet (cAndV (cIsi ty_list (cVar 0)) (c2 (oEq false) (cCall (f1 reprD) (aCons (cVar 0) (aNil))) (cCall (f1 reprD) (aCons (cVar 1) (aNil)))))
def F_law_is_list : FF := runF m_law_is_list 2 2

theorem sc_law_is_list : FnScope N_law_is_list ["_law_found", "_law_due"] (defScope (top 18)) := ⟨rfl, rfl, rfl, by decide +kernel, rfl, by decide +kernel, by decide +kernel⟩
theorem s_law_is_list (e : Ev w K mg) : Is P w K mg base (1 + 1) (He.fAd K ("_law_is_list", none)) ["_law_found", "_law_due"] F_law_is_list := by
  obtain ⟨fd, F⟩ := e.d_law_is_list
  have nd := sc_law_is_list.nd
  have B : Binds K fd ["_law_found", "_law_due"] [] := F.bindsN fun _ _ _ _ _ _ us hl => match us, hl with | [_, _], _ => rfl
  have R : Is P w K mg base (1 + 1) (He.fAd K ("_law_is_list", none)) ["_law_found", "_law_due"] (runF m_law_is_list 2 2) := by
    refine is_mk (k := 1) (m := m_law_is_list) (N := N_law_is_list) F sc_law_is_list B fun cdv A outer s H E W hr tk => ?_
    exact (sb_one (ss_ret (se_and (se_isi (Ts := "list") rfl e.n_isinstance (se_var (i := 0) rfl (by first | exact Or.inl rfl | exact Or.inr (Or.inl rfl) | exact Or.inr (Or.inr rfl))) rfl e.n_list bt_list (by decide) (by decide) tk_list) (se_one (se_cmp (op_eqA hr.u64) k_eq (se_callB (call_repr hr.gd hr.u64) kc_repr rfl e.n_repr bt_repr (sa_cons (se_var (i := 0) rfl (by first | exact Or.inl rfl | exact Or.inr (Or.inl rfl) | exact Or.inr (Or.inr rfl))) sa_nil)) (se_callB (call_repr hr.gd hr.u64) kc_repr rfl e.n_repr bt_repr (sa_cons (se_var (i := 1) rfl (by first | exact Or.inl rfl | exact Or.inr (Or.inl rfl) | exact Or.inr (Or.inr rfl))) sa_nil)) (nomark _))))))
  exact R

def N_law_listed : List Str := ["_law_rows", "_law_name"]
def m_law_listed : MS := sRet (cLc (iSeq (cCall (f1 sortedD) (aCons (cLcDic (cVar 0) (gN 1) (mYes) (cCall (f1 strD) (aCons (cVar 1) (aNil))) [1]) (aNil)))) (gN 1) (mYes) (cTup (aCons (cVar 1) (aCons (c2 oIx (cVar 0) (cVar 1)) (aNil)))) [1])
def F_law_listed : FF := runF m_law_listed 1 2

theorem sc_law_listed : FnScope N_law_listed ["_law_rows"] (defScope (top 21)) := ⟨rfl, rfl, rfl, by decide +kernel, rfl, by decide +kernel, by decide +kernel⟩
theorem s_law_listed (e : Ev w K mg) : Is P w K mg base (1 + 1) (He.fAd K ("_law_listed", none)) ["_law_rows"] F_law_listed := by
  obtain ⟨fd, F⟩ := e.d_law_listed
  have nd := sc_law_listed.nd
  have B : Binds K fd ["_law_rows"] [] := F.bindsN fun _ _ _ _ _ _ us hl => match us, hl with | [_], _ => rfl
  have R : Is P w K mg base (1 + 1) (He.fAd K ("_law_listed", none)) ["_law_rows"] (runF m_law_listed 1 2) := by
    refine is_mk (k := 1) (m := m_law_listed) (N := N_law_listed) F sc_law_listed B fun cdv A outer s H E W hr tk => ?_
    exact (sb_one (ss_ret (se_lc (own := [("_law_name", 1)]) rfl nd (si_list (se_callB cr_sortedS kc_sorted rfl e.n_sorted bt_sorted (sa_cons (se_lcDic (own := [("_law_name", 1)]) rfl nd (se_var (i := 0) rfl (by first | exact Or.inl rfl | exact Or.inr (Or.inl rfl) | exact Or.inr (Or.inr rfl))) (blkOk_by (own := [("_law_name", 1)]) (N := N_law_listed) (sc := defScope (top 21)) (by decide +kernel)) (fun _ _ _ _ _ => (sg_name (i := 1) nd rfl (by first | exact Or.inl rfl | exact Or.inr rfl))) (fun _ _ _ _ _ => sts_nil) (fun _ _ _ _ _ => (se_callTy call_strA kc_str rfl e.n_str bt_str (sa_cons (se_var (i := 1) rfl (by first | exact Or.inl rfl | exact Or.inr (Or.inl rfl) | exact Or.inr (Or.inr rfl))) sa_nil))) (by decide)) sa_nil))) (blkOk_by (own := [("_law_name", 1)]) (N := N_law_listed) (sc := defScope (top 21)) (by decide +kernel)) (fun _ _ _ _ _ => (sg_name (i := 1) nd rfl (by first | exact Or.inl rfl | exact Or.inr rfl))) (fun _ _ _ _ _ => sts_nil) (fun _ _ _ _ _ => (se_tup (sa_cons (se_var (i := 1) rfl (by first | exact Or.inl rfl | exact Or.inr (Or.inl rfl) | exact Or.inr (Or.inr rfl))) (sa_cons (se_ix hr.u1 (se_var (i := 0) rfl (by first | exact Or.inl rfl | exact Or.inr (Or.inl rfl) | exact Or.inr (Or.inr rfl))) (se_var (i := 1) rfl (by first | exact Or.inl rfl | exact Or.inr (Or.inl rfl) | exact Or.inr (Or.inr rfl)))) sa_nil)))) (by decide))))
  exact R

def N_law_fits : List Str := ["_law_noted", "_law_rows", "_law_names", "_law_name", "_law_due"]
def m_law_fits : MS := sSeq (sIf (cOr (cNot (cB (cCall F_law_is_list (aCons (cMeth "Notes" "listed" F_Notes_listed (cVar 0) (aNil)) (aCons (cCall F_law_listed (aCons (cVar 1) (aNil))) (aNil)))))) (cB (c2 (oEq true) (cLenO "Notes" F_Notes___len__ (cVar 0)) (cCall (f1 lenD) (aCons (cVar 1) (aNil)))))) (sRet (cC (.bl false)))
  (sNil))
  (sSeq (sFor (iSeq (c2 oPlus (cVar 2) (cLst (aCons (cC .non) (aCons (cC (.int 1)) (aCons (cC (.str "")) (aCons (cC (.str "A")) (aCons (cTup (aCons (cC (.str "a")) (aNil))) (aCons (cLst (aNil)) (aNil)))))))))) (gN 3)
  (sSeq (sSet 4 (cIf (cAnd (cB (cIsi ty_str (cVar 3))) (cB (c2 (oIn false) (cVar 3) (cVar 1)))) (cLst (aCons (c2 oIx (cVar 1) (cVar 3)) (aNil))) (cLst (aCons (cC (.str "none")) (aCons (cCall (f1 reprD) (aCons (cVar 3) (aNil))) (aNil))))))
  (sIf (cOr (cB (c2 (oEq true) (cCall F_law_at_of (aCons (cVar 0) (aCons (cVar 3) (aNil)))) (cVar 4))) (cB (c2 (oEq true) (c2 (oDin "Notes" F_Notes___contains__ false) (cVar 3) (cVar 0)) (c2 (oEq false) (cCall (f1 lenD) (aCons (cVar 4) (aNil))) (cC (.int 1)))))) (sRet (cC (.bl false)))
  (sNil))))
  (sRet (cC (.bl true))))
def F_law_fits : FF := runF m_law_fits 3 5

theorem sc_law_fits : FnScope N_law_fits ["_law_noted", "_law_rows", "_law_names"] (defScope (top 22)) := ⟨rfl, rfl, rfl, by decide +kernel, rfl, by decide +kernel, by decide +kernel⟩
theorem s_law_fits (e : Ev w K mg) : Is P w K mg base (9 + 1) (He.fAd K ("_law_fits", none)) ["_law_noted", "_law_rows", "_law_names"] F_law_fits := by
  obtain ⟨fd, F⟩ := e.d_law_fits
  have i_law_is_list := s_law_is_list (P := P) (base := base) e
  have i_law_listed := s_law_listed (P := P) (base := base) e
  have i_Notes_listed := s_Notes_listed (P := P) (base := base) e
  have i_Notes___len__ := s_Notes___len__ (P := P) (base := base) e
  have i_law_at_of := s_law_at_of (P := P) (base := base) e
  have i_Notes___contains__ := s_Notes___contains__ (P := P) (base := base) e
  have nd := sc_law_fits.nd
  have B : Binds K fd ["_law_noted", "_law_rows", "_law_names"] [] := F.bindsN fun _ _ _ _ _ _ us hl => match us, hl with | [_, _, _], _ => rfl
  have R : Is P w K mg base (9 + 1) (He.fAd K ("_law_fits", none)) ["_law_noted", "_law_rows", "_law_names"] (runF m_law_fits 3 5) := by
    refine is_mk (k := 9) (m := m_law_fits) (N := N_law_fits) F sc_law_fits B fun cdv A outer s H E W hr tk => ?_
    exact (sb_cons (ss_if (SW.pt (sw_or (st_not (st_val (se_call (i_law_is_list.cal tk (hr.mono (by decide))) rfl e.g_law_is_list e.kp_law_is_list (sa_cons (se_meth0 (se_var (i := 0) rfl (by first | exact Or.inl rfl | exact Or.inr (Or.inl rfl) | exact Or.inr (Or.inr rfl))) e.cls_Notes e.me_Notes_listed (i_Notes_listed.cal tk (hr.mono (by decide)))) (sa_cons (se_call (i_law_listed.cal tk (hr.mono (by decide))) rfl e.g_law_listed e.kp_law_listed (sa_cons (se_var (i := 1) rfl (by first | exact Or.inl rfl | exact Or.inr (Or.inl rfl) | exact Or.inr (Or.inr rfl))) sa_nil)) sa_nil))))) (sw_or1 (st_cmp (op_neA hr.u64) k_ne (se_lenO rfl e.n_len (se_var (i := 0) rfl (by first | exact Or.inl rfl | exact Or.inr (Or.inl rfl) | exact Or.inr (Or.inr rfl))) e.me_Notes_DlenD (i_Notes___len__.cal1 tk (hr.mono (by decide)))) (se_callB call_lenA kc_len rfl e.n_len bt_len (sa_cons (se_var (i := 1) rfl (by first | exact Or.inl rfl | exact Or.inr (Or.inl rfl) | exact Or.inr (Or.inr rfl))) sa_nil)) (nomark _))))) (sb_one (ss_ret se_bl))
  sb_nil)
  (sb_cons (ss_for (passes_of rfl) rfl (si_list (se_op op_plus k_plus (se_var (i := 2) rfl (by first | exact Or.inl rfl | exact Or.inr (Or.inl rfl) | exact Or.inr (Or.inr rfl))) (se_lst (sa_cons se_non (sa_cons se_int (sa_cons se_str (sa_cons se_str (sa_cons (se_tup (sa_cons se_str sa_nil)) (sa_cons (se_lst sa_nil) sa_nil))))))))) (sg_name (i := 3) nd rfl (by first | exact Or.inl rfl | exact Or.inr rfl))
  (sb_cons (ss_set (i := 4) nd rfl (by first | exact Or.inl rfl | exact Or.inr rfl) (se_ifExp (SW.pt (sw_and (st_val (se_isi (Ts := "str") rfl e.n_isinstance (se_var (i := 3) rfl (by first | exact Or.inl rfl | exact Or.inr (Or.inl rfl) | exact Or.inr (Or.inr rfl))) rfl e.n_str bt_str (by decide) (by decide) tk_str)) (sw_and1 (st_cmp (op_inA hr.u1) (k_in false) (se_var (i := 3) rfl (by first | exact Or.inl rfl | exact Or.inr (Or.inl rfl) | exact Or.inr (Or.inr rfl))) (se_var (i := 1) rfl (by first | exact Or.inl rfl | exact Or.inr (Or.inl rfl) | exact Or.inr (Or.inr rfl))) (by with_unfolding_all rfl))))) (se_lst (sa_cons (se_ix hr.u1 (se_var (i := 1) rfl (by first | exact Or.inl rfl | exact Or.inr (Or.inl rfl) | exact Or.inr (Or.inr rfl))) (se_var (i := 3) rfl (by first | exact Or.inl rfl | exact Or.inr (Or.inl rfl) | exact Or.inr (Or.inr rfl)))) sa_nil)) (se_lst (sa_cons se_str (sa_cons (se_callB (call_repr hr.gd hr.u64) kc_repr rfl e.n_repr bt_repr (sa_cons (se_var (i := 3) rfl (by first | exact Or.inl rfl | exact Or.inr (Or.inl rfl) | exact Or.inr (Or.inr rfl))) sa_nil)) sa_nil)))))
  (sb_one (ss_if (SW.pt (sw_or (st_cmp (op_neA hr.u64) k_ne (se_call (i_law_at_of.cal tk (hr.mono (by decide))) rfl e.g_law_at_of e.kp_law_at_of (sa_cons (se_var (i := 0) rfl (by first | exact Or.inl rfl | exact Or.inr (Or.inl rfl) | exact Or.inr (Or.inr rfl))) (sa_cons (se_var (i := 3) rfl (by first | exact Or.inl rfl | exact Or.inr (Or.inl rfl) | exact Or.inr (Or.inr rfl))) sa_nil))) (se_var (i := 4) rfl (by first | exact Or.inl rfl | exact Or.inr (Or.inl rfl) | exact Or.inr (Or.inr rfl))) (nomark _)) (sw_or1 (st_cmp (op_neA hr.u64) k_ne (se_inO (se_var (i := 3) rfl (by first | exact Or.inl rfl | exact Or.inr (Or.inl rfl) | exact Or.inr (Or.inr rfl))) (se_var (i := 0) rfl (by first | exact Or.inl rfl | exact Or.inr (Or.inl rfl) | exact Or.inr (Or.inr rfl))) e.me_Notes_DcontainsD (i_Notes___contains__.cal tk (hr.mono (by decide))) (by with_unfolding_all rfl)) (se_cmp (op_eqA hr.u64) k_eq (se_callB call_lenA kc_len rfl e.n_len bt_len (sa_cons (se_var (i := 4) rfl (by first | exact Or.inl rfl | exact Or.inr (Or.inl rfl) | exact Or.inr (Or.inr rfl))) sa_nil)) se_int (nomark _)) (nomark _))))) (sb_one (ss_ret se_bl))
  sb_nil))))
  (sb_one (ss_ret se_bl))))
  exact R

def N_law_pick : List Str := ["_law_pool", "_law_row"]
def m_law_pick : MS := sRet (c2 oIx (cVar 1) (cCall F_law_draw (aCons (cVar 0) (aCons (cCall (f1 lenD) (aCons (cVar 1) (aNil))) (aNil)))))
def F_law_pick : FF := runF m_law_pick 2 2

theorem sc_law_pick : FnScope N_law_pick ["_law_pool", "_law_row"] (defScope (top 16)) := ⟨rfl, rfl, rfl, by decide +kernel, rfl, by decide +kernel, by decide +kernel⟩
theorem s_law_pick (e : Ev w K mg) : Is P w K mg base (3 + 1) (He.fAd K ("_law_pick", none)) ["_law_pool", "_law_row"] F_law_pick := by
  obtain ⟨fd, F⟩ := e.d_law_pick
  have i_law_draw := s_law_draw (P := P) (base := base) e
  have nd := sc_law_pick.nd
  have B : Binds K fd ["_law_pool", "_law_row"] [] := F.bindsN fun _ _ _ _ _ _ us hl => match us, hl with | [_, _], _ => rfl
  have R : Is P w K mg base (3 + 1) (He.fAd K ("_law_pick", none)) ["_law_pool", "_law_row"] (runF m_law_pick 2 2) := by
    refine is_mk (k := 3) (m := m_law_pick) (N := N_law_pick) F sc_law_pick B fun cdv A outer s H E W hr tk => ?_
    exact (sb_one (ss_ret (se_ix hr.u1 (se_var (i := 1) rfl (by first | exact Or.inl rfl | exact Or.inr (Or.inl rfl) | exact Or.inr (Or.inr rfl))) (se_call (i_law_draw.cal tk (hr.mono (by decide))) rfl e.g_law_draw e.kp_law_draw (sa_cons (se_var (i := 0) rfl (by first | exact Or.inl rfl | exact Or.inr (Or.inl rfl) | exact Or.inr (Or.inr rfl))) (sa_cons (se_callB call_lenA kc_len rfl e.n_len bt_len (sa_cons (se_var (i := 1) rfl (by first | exact Or.inl rfl | exact Or.inr (Or.inl rfl) | exact Or.inr (Or.inr rfl))) sa_nil)) sa_nil))))))
  exact R

def N_law_names_of : List Str := ["_law_pool", "_law_count", "_law_signs", "_law_ends", "_law_origin", "_law_step", "_law_head", "_law_tail", "_law_k"]
def m_law_names_of : MS := sSeq (sSet 2 (cC (.str "abcdefghijklmnopqrstuvwxyz")))
  (sSeq (sAsg (gT 2 (gsC (gN 4) (gsC (gN 5) (gsN)))) (cTup (aCons (cCall F_law_draw (aCons (cVar 0) (aCons (cC (.int 26)) (aNil)))) (aCons (c2 oPlus (cC (.int 1)) (c2 oMul (cC (.int 2)) (cCall F_law_draw (aCons (cVar 0) (aCons (cC (.int 6)) (aNil)))))) (aNil)))))
  (sSeq (sSet 3 (cLst (aCons (cTup (aCons (cC (.str "")) (aCons (cC (.str "")) (aNil)))) (aCons (cTup (aCons (cC (.str "")) (aCons (cC (.str "q")) (aNil)))) (aCons (cTup (aCons (cC (.str "ab")) (aCons (cC (.str "")) (aNil)))) (aCons (cTup (aCons (cC (.str "abcdefg")) (aCons (cC (.str "")) (aNil)))) (aCons (cTup (aCons (cC (.str "")) (aCons (cC (.str "abcdefg")) (aNil)))) (aNil))))))))
  (sSeq (sAsg (gT 2 (gsC (gN 6) (gsC (gN 7) (gsN)))) (cCall F_law_pick (aCons (cVar 0) (aCons (cVar 3) (aNil)))))
  (sRet (cLc (iRange1 (aCons (cVar 1) (aNil))) (gN 8) (mYes) (c2 oPlus (c2 oPlus (cVar 6) (c2 oIx (cVar 2) (c2 oMod (c2 oPlus (cVar 4) (c2 oMul (cVar 5) (cVar 8))) (cC (.int 26))))) (cVar 7)) [8])))))
def F_law_names_of : FF := runF m_law_names_of 2 9

theorem sc_law_names_of : FnScope N_law_names_of ["_law_pool", "_law_count"] (defScope (top 17)) := ⟨rfl, rfl, rfl, by decide +kernel, rfl, by decide +kernel, by decide +kernel⟩
theorem s_law_names_of (e : Ev w K mg) : Is P w K mg base (5 + 1) (He.fAd K ("_law_names_of", none)) ["_law_pool", "_law_count"] F_law_names_of := by
  obtain ⟨fd, F⟩ := e.d_law_names_of
  have i_law_draw := s_law_draw (P := P) (base := base) e
  have i_law_pick := s_law_pick (P := P) (base := base) e
  have nd := sc_law_names_of.nd
  have B : Binds K fd ["_law_pool", "_law_count"] [] := F.bindsN fun _ _ _ _ _ _ us hl => match us, hl with | [_, _], _ => rfl
  have R : Is P w K mg base (5 + 1) (He.fAd K ("_law_names_of", none)) ["_law_pool", "_law_count"] (runF m_law_names_of 2 9) := by
    refine is_mk (k := 5) (m := m_law_names_of) (N := N_law_names_of) F sc_law_names_of B fun cdv A outer s H E W hr tk => ?_
    exact (sb_cons (ss_set (i := 2) nd rfl (by first | exact Or.inl rfl | exact Or.inr rfl) se_str)
  (sb_cons (ss_asg (se_tup (sa_cons (se_call (i_law_draw.cal tk (hr.mono (by decide))) rfl e.g_law_draw e.kp_law_draw (sa_cons (se_var (i := 0) rfl (by first | exact Or.inl rfl | exact Or.inr (Or.inl rfl) | exact Or.inr (Or.inr rfl))) (sa_cons se_int sa_nil))) (sa_cons (se_op op_plus k_plus se_int (se_op op_mul k_mul se_int (se_call (i_law_draw.cal tk (hr.mono (by decide))) rfl e.g_law_draw e.kp_law_draw (sa_cons (se_var (i := 0) rfl (by first | exact Or.inl rfl | exact Or.inr (Or.inl rfl) | exact Or.inr (Or.inr rfl))) (sa_cons se_int sa_nil))))) sa_nil))) (sg_tup (n := 2) rfl (sgs_cons (sg_name (i := 4) nd rfl (by first | exact Or.inl rfl | exact Or.inr rfl)) (sgs_cons (sg_name (i := 5) nd rfl (by first | exact Or.inl rfl | exact Or.inr rfl)) sgs_nil))))
  (sb_cons (ss_set (i := 3) nd rfl (by first | exact Or.inl rfl | exact Or.inr rfl) (se_lst (sa_cons (se_tup (sa_cons se_str (sa_cons se_str sa_nil))) (sa_cons (se_tup (sa_cons se_str (sa_cons se_str sa_nil))) (sa_cons (se_tup (sa_cons se_str (sa_cons se_str sa_nil))) (sa_cons (se_tup (sa_cons se_str (sa_cons se_str sa_nil))) (sa_cons (se_tup (sa_cons se_str (sa_cons se_str sa_nil))) sa_nil)))))))
  (sb_cons (ss_asg (se_call (i_law_pick.cal tk (hr.mono (by decide))) rfl e.g_law_pick e.kp_law_pick (sa_cons (se_var (i := 0) rfl (by first | exact Or.inl rfl | exact Or.inr (Or.inl rfl) | exact Or.inr (Or.inr rfl))) (sa_cons (se_var (i := 3) rfl (by first | exact Or.inl rfl | exact Or.inr (Or.inl rfl) | exact Or.inr (Or.inr rfl))) sa_nil))) (sg_tup (n := 2) rfl (sgs_cons (sg_name (i := 6) nd rfl (by first | exact Or.inl rfl | exact Or.inr rfl)) (sgs_cons (sg_name (i := 7) nd rfl (by first | exact Or.inl rfl | exact Or.inr rfl)) sgs_nil))))
  (sb_one (ss_ret (se_lc (own := [("_law_k", 8)]) rfl nd (si_range1 rfl e.n_range (sa_cons (se_var (i := 1) rfl (by first | exact Or.inl rfl | exact Or.inr (Or.inl rfl) | exact Or.inr (Or.inr rfl))) sa_nil)) (blkOk_by (own := [("_law_k", 8)]) (N := N_law_names_of) (sc := defScope (top 17)) (by decide +kernel)) (fun _ _ _ _ _ => (sg_name (i := 8) nd rfl (by first | exact Or.inl rfl | exact Or.inr rfl))) (fun _ _ _ _ _ => sts_nil) (fun _ _ _ _ _ => (se_op op_plus k_plus (se_op op_plus k_plus (se_var (i := 6) rfl (by first | exact Or.inl rfl | exact Or.inr (Or.inl rfl) | exact Or.inr (Or.inr rfl))) (se_ix hr.u1 (se_var (i := 2) rfl (by first | exact Or.inl rfl | exact Or.inr (Or.inl rfl) | exact Or.inr (Or.inr rfl))) (se_op op_mod k_mod (se_op op_plus k_plus (se_var (i := 4) rfl (by first | exact Or.inl rfl | exact Or.inr (Or.inl rfl) | exact Or.inr (Or.inr rfl))) (se_op op_mul k_mul (se_var (i := 5) rfl (by first | exact Or.inl rfl | exact Or.inr (Or.inl rfl) | exact Or.inr (Or.inr rfl))) (se_var (i := 8) rfl (by first | exact Or.inl rfl | exact Or.inr (Or.inl rfl) | exact Or.inr (Or.inr rfl))))) se_int))) (se_var (i := 7) rfl (by first | exact Or.inl rfl | exact Or.inr (Or.inl rfl) | exact Or.inr (Or.inr rfl))))) (by decide))))))))
  exact R

theorem sc_BadPlace___init__ : FnScope ["self", "place"] ["self", "place"] (defScope (inClass (top 2) 0)) := ⟨rfl, rfl, rfl, by decide +kernel, rfl, by decide +kernel, by decide +kernel⟩
theorem s_BadPlace___init__ (e : Ev w K mg) : ∃ fd, FnOk P w K mg base (L2.CX P w) 2 (He.fAd K ("BadPlace", some "__init__")) fd ["self", "place"] (spX K "place") ∧ Binds K fd ["self", "place"] [] := by
  obtain ⟨fd, F⟩ := e.d_BadPlace___init__
  have S := sc_BadPlace___init__
  refine ⟨fd, fn_excInit (t := "the value is not a place") F S fun cdv A outer s H E => ?_, F.bindsN fun _ _ _ _ _ _ us hl => match us, hl with | [_, _], _ => rfl⟩
  exact pss_cons (ps_expr (pe_baseinit rfl e.g_NamesError e.cr_NamesError e.vv_NamesError (pa_cons (pv 0) (pa_cons pe_str pa_nil)))) (pss_one (ps_ost (pv 0) (pv 1)))

def N_is_name : List Str := ["value", "sign"]
def m_is_name : MS := sRet (cAndV (cIsi ty_str (cVar 0)) (cAndV (cChain oLe oLe (cC (.int 1)) (cCall (f1 lenD) (aCons (cVar 0) (aNil))) (cC (.int 8))) (cCall (f1 allD) (aCons (cLc (iText (cVar 0)) (gN 1) (mYes) (c2 (oIn false) (cVar 1) (cC (.str "abcdefghijklmnopqrstuvwxyz"))) [1]) (aNil)))))
def F_is_name : FF := runF m_is_name 1 2

theorem sc_is_name : FnScope N_is_name ["value"] (defScope (top 7)) := ⟨rfl, rfl, rfl, by decide +kernel, rfl, by decide +kernel, by decide +kernel⟩
theorem s_is_name (e : Ev w K mg) : Is P w K mg base (1 + 1) (He.fAd K ("is_name", none)) ["value"] F_is_name := by
  obtain ⟨fd, F⟩ := e.d_is_name
  have h_MOST_LETTERS := e.i_MOST_LETTERS
  have h_LETTERS := e.s_LETTERS
  have nd := sc_is_name.nd
  have B : Binds K fd ["value"] [] := F.bindsN fun _ _ _ _ _ _ us hl => match us, hl with | [_], _ => rfl
  have R : Is P w K mg base (1 + 1) (He.fAd K ("is_name", none)) ["value"] (runF m_is_name 1 2) := by
    refine is_mk (k := 1) (m := m_is_name) (N := N_is_name) F sc_is_name B fun cdv A outer s H E W hr tk => ?_
    exact (sb_one (ss_ret (se_and (se_isi (Ts := "str") rfl e.n_isinstance (se_var (i := 0) rfl (by first | exact Or.inl rfl | exact Or.inr (Or.inl rfl) | exact Or.inr (Or.inr rfl))) rfl e.n_str bt_str (by decide) (by decide) tk_str) (se_and (se_chain op_le k_le op_le k_le se_int (se_callB call_lenA kc_len rfl e.n_len bt_len (sa_cons (se_var (i := 0) rfl (by first | exact Or.inl rfl | exact Or.inr (Or.inl rfl) | exact Or.inr (Or.inr rfl))) sa_nil)) (se_globI (i := 8) rfl h_MOST_LETTERS.choose_spec ⟨_, rfl⟩)) (se_one (se_callB (cr_all rfl) kc_all rfl e.n_all bt_all (sa_cons (se_lc (own := [("sign", 1)]) rfl nd (si_text (se_var (i := 0) rfl (by first | exact Or.inl rfl | exact Or.inr (Or.inl rfl) | exact Or.inr (Or.inr rfl)))) (blkOk_by (own := [("sign", 1)]) (N := N_is_name) (sc := defScope (top 7)) (by decide +kernel)) (fun _ _ _ _ _ => (sg_name (i := 1) nd rfl (by first | exact Or.inl rfl | exact Or.inr rfl))) (fun _ _ _ _ _ => sts_nil) (fun _ _ _ _ _ => (se_cmp (op_inA hr.u1) (k_in false) (se_var (i := 1) rfl (by first | exact Or.inl rfl | exact Or.inr (Or.inl rfl) | exact Or.inr (Or.inr rfl))) (se_globS (z := "abcdefghijklmnopqrstuvwxyz") rfl h_LETTERS.choose_spec ⟨_, rfl⟩) (by with_unfolding_all rfl))) (by decide)) sa_nil)))))))
  exact R

def N_is_place : List Str := ["value", "name"]
def m_is_place : MS := sSeq (sIf (cOr (cNot (cB (cIsi ty_tuple (cVar 0)))) (cOr (cB (c2 (oEq false) (cCall (f1 lenD) (aCons (cVar 0) (aNil))) (cC (.int 0)))) (cNot (cB (cIsi ty_str (c2 oIx (cVar 0) (cC (.int 0)))))))) (sRet (cC (.bl false)))
  (sNil))
  (sRet (cAndV (c2 (oEq false) (cGetK (tb_LENGTHS.map fun q => (q.1, q.2.d)) (c2 oIx (cVar 0) (cC (.int 0))) (cC (.int 0))) (cCall (f1 lenD) (aCons (cVar 0) (aNil)))) (cCall (f1 allD) (aCons (cLc (iTupD (cSl (cVar 0) (oSome (cC (.int 1))) (oNone))) (gN 1) (mYes) (cCall F_is_name (aCons (cVar 1) (aNil))) [1]) (aNil)))))
def F_is_place : FF := runF m_is_place 1 2

theorem sc_is_place : FnScope N_is_place ["value"] (defScope (top 10)) := ⟨rfl, rfl, rfl, by decide +kernel, rfl, by decide +kernel, by decide +kernel⟩
theorem s_is_place (e : Ev w K mg) : Is P w K mg base (3 + 1) (He.fAd K ("is_place", none)) ["value"] F_is_place := by
  obtain ⟨fd, F⟩ := e.d_is_place
  have i_is_name := s_is_name (P := P) (base := base) e
  have nd := sc_is_place.nd
  have B : Binds K fd ["value"] [] := F.bindsN fun _ _ _ _ _ _ us hl => match us, hl with | [_], _ => rfl
  have R : Is P w K mg base (3 + 1) (He.fAd K ("is_place", none)) ["value"] (runF m_is_place 1 2) := by
    refine is_mk (k := 3) (m := m_is_place) (N := N_is_place) F sc_is_place B fun cdv A outer s H E W hr tk => ?_
    exact (sb_cons (ss_if (SW.pt (sw_or (st_not (st_val (se_isi (Ts := "tuple") rfl e.n_isinstance (se_var (i := 0) rfl (by first | exact Or.inl rfl | exact Or.inr (Or.inl rfl) | exact Or.inr (Or.inr rfl))) rfl e.n_tuple bt_tuple (by decide) (by decide) tk_tuple))) (sw_or (st_cmp (op_eqA hr.u64) k_eq (se_callB call_lenA kc_len rfl e.n_len bt_len (sa_cons (se_var (i := 0) rfl (by first | exact Or.inl rfl | exact Or.inr (Or.inl rfl) | exact Or.inr (Or.inr rfl))) sa_nil)) se_int (nomark _)) (sw_or1 (st_not (st_val (se_isi (Ts := "str") rfl e.n_isinstance (se_ix hr.u1 (se_var (i := 0) rfl (by first | exact Or.inl rfl | exact Or.inr (Or.inl rfl) | exact Or.inr (Or.inr rfl))) se_int) rfl e.n_str bt_str (by decide) (by decide) tk_str))))))) (sb_one (ss_ret se_bl))
  sb_nil)
  (sb_one (ss_ret (se_and (se_cmp (op_eqA hr.u64) k_eq (se_getK rfl e.g_LENGTHS e.tbl_LENGTHS (se_ix hr.u1 (se_var (i := 0) rfl (by first | exact Or.inl rfl | exact Or.inr (Or.inl rfl) | exact Or.inr (Or.inr rfl))) se_int) se_int ⟨rfl, rfl, rfl, rfl⟩) (se_callB call_lenA kc_len rfl e.n_len bt_len (sa_cons (se_var (i := 0) rfl (by first | exact Or.inl rfl | exact Or.inr (Or.inl rfl) | exact Or.inr (Or.inr rfl))) sa_nil)) (nomark _)) (se_one (se_callB (cr_all rfl) kc_all rfl e.n_all bt_all (sa_cons (se_lc (own := [("name", 1)]) rfl nd (si_tup (se_slice (se_var (i := 0) rfl (by first | exact Or.inl rfl | exact Or.inr (Or.inl rfl) | exact Or.inr (Or.inr rfl))) (so_some se_int) so_none)) (blkOk_by (own := [("name", 1)]) (N := N_is_place) (sc := defScope (top 10)) (by decide +kernel)) (fun _ _ _ _ _ => (sg_name (i := 1) nd rfl (by first | exact Or.inl rfl | exact Or.inr rfl))) (fun _ _ _ _ _ => sts_nil) (fun _ _ _ _ _ => (se_call (i_is_name.cal takes_no (hr.mono (by decide))) rfl e.g_is_name e.kp_is_name (sa_cons (se_var (i := 1) rfl (by first | exact Or.inl rfl | exact Or.inr (Or.inl rfl) | exact Or.inr (Or.inr rfl))) sa_nil))) (by decide)) sa_nil)))))))
  exact R

def N_Notes___setitem__ : List Str := ["self", "name", "place"]
def m_Notes___setitem__ : MS := sSeq (sIf (cNot (cB (cCall F_is_name (aCons (cVar 1) (aNil))))) (sRaise "BadName" "name" (cVar 1))
  (sNil))
  (sSeq (sIf (cNot (cB (cCall F_is_place (aCons (cVar 2) (aNil))))) (sRaise "BadPlace" "place" (cVar 2))
  (sNil))
  (sSub (cFld "Notes" "noted" (cVar 0)) (cVar 1) (cVar 2)))
def F_Notes___setitem__ : FF := runF m_Notes___setitem__ 3 3

theorem sc_Notes___setitem__ : FnScope N_Notes___setitem__ ["self", "name", "place"] (defScope (inClass (top 12) 2)) := ⟨rfl, rfl, rfl, by decide +kernel, rfl, by decide +kernel, by decide +kernel⟩
theorem s_Notes___setitem__ (e : Ev w K mg) : Is P w K mg base (5 + 1) (He.fAd K ("Notes", some "__setitem__")) ["self", "name", "place"] F_Notes___setitem__ := by
  obtain ⟨fd, F⟩ := e.d_Notes___setitem__
  have i_is_name := s_is_name (P := P) (base := base) e
  have i_BadName___init__ := s_BadName___init__ (P := P) (base := base) e
  have i_is_place := s_is_place (P := P) (base := base) e
  have i_BadPlace___init__ := s_BadPlace___init__ (P := P) (base := base) e
  have nd := sc_Notes___setitem__.nd
  have B : Binds K fd ["self", "name", "place"] [] := F.bindsN fun _ _ _ _ _ _ us hl => match us, hl with | [_, _, _], _ => rfl
  have R : Is P w K mg base (5 + 1) (He.fAd K ("Notes", some "__setitem__")) ["self", "name", "place"] (runF m_Notes___setitem__ 3 3) := by
    refine is_mk (k := 5) (m := m_Notes___setitem__) (N := N_Notes___setitem__) F sc_Notes___setitem__ B fun cdv A outer s H E W hr tk => ?_
    exact (sb_cons (ss_if (st_not (st_val (se_call (i_is_name.cal tk (hr.mono (by decide))) rfl e.g_is_name e.kp_is_name (sa_cons (se_var (i := 1) rfl (by first | exact Or.inl rfl | exact Or.inr (Or.inl rfl) | exact Or.inr (Or.inr rfl))) sa_nil)))) (sb_one (ss_raise (k := 2) rfl tk e.oex_BadName e.hno_BadName_name e.me_BadName_DinitD.at_ (beq_iff_eq.mp e.me_BadName_DinitD.fn) i_BadName___init__.choose_spec.1 (hr.rm.mono (by decide)) i_BadName___init__.choose_spec.2 rfl e.g_BadName (se_var (i := 1) rfl (by first | exact Or.inl rfl | exact Or.inr (Or.inl rfl) | exact Or.inr (Or.inr rfl)))))
  sb_nil)
  (sb_cons (ss_if (st_not (st_val (se_call (i_is_place.cal tk (hr.mono (by decide))) rfl e.g_is_place e.kp_is_place (sa_cons (se_var (i := 2) rfl (by first | exact Or.inl rfl | exact Or.inr (Or.inl rfl) | exact Or.inr (Or.inr rfl))) sa_nil)))) (sb_one (ss_raise (k := 2) rfl tk e.oex_BadPlace e.hno_BadPlace_place e.me_BadPlace_DinitD.at_ (beq_iff_eq.mp e.me_BadPlace_DinitD.fn) i_BadPlace___init__.choose_spec.1 (hr.rm.mono (by decide)) i_BadPlace___init__.choose_spec.2 rfl e.g_BadPlace (se_var (i := 2) rfl (by first | exact Or.inl rfl | exact Or.inr (Or.inl rfl) | exact Or.inr (Or.inr rfl)))))
  sb_nil)
  (sb_one (ss_sub hr.u1 (se_fld (se_var (i := 0) rfl (by first | exact Or.inl rfl | exact Or.inr (Or.inl rfl) | exact Or.inr (Or.inr rfl))) e.cls_Notes e.na_Notes_noted) (se_var (i := 1) rfl (by first | exact Or.inl rfl | exact Or.inr (Or.inl rfl) | exact Or.inr (Or.inr rfl))) (se_var (i := 2) rfl (by first | exact Or.inl rfl | exact Or.inr (Or.inl rfl) | exact Or.inr (Or.inr rfl)))))))
  exact R

def N_law_noted_of : List Str := ["_law_noted", "_law_name", "_law_place", "e"]
def m_law_noted_of : MS := sSeq (sTry (sSubO "Notes" F_Notes___setitem__ (cVar 0) (cVar 1) (cVar 2)) (([("NamesError", false), ("BadPlace", false), ("BadName", true)], some 3, sRet (cLst (aCons (cC (.str "name")) (aCons (cCall (f1 reprD) (aCons (cExcI 3 "name" ["BadName"]) (aNil))) (aNil))))) :: ([("NamesError", false), ("BadPlace", true), ("BadName", false)], some 3, sRet (cLst (aCons (cC (.str "place")) (aCons (cCall (f1 reprD) (aCons (cExcI 3 "place" ["BadPlace"]) (aNil))) (aNil))))) :: []))
  (sRet (cLst (aNil)))
def F_law_noted_of : FF := runF m_law_noted_of 3 4

theorem sc_law_noted_of : FnScope N_law_noted_of ["_law_noted", "_law_name", "_law_place"] (defScope (top 19)) := ⟨rfl, rfl, rfl, by decide +kernel, rfl, by decide +kernel, by decide +kernel⟩
theorem s_law_noted_of (e : Ev w K mg) : Is P w K mg base (7 + 1) (He.fAd K ("_law_noted_of", none)) ["_law_noted", "_law_name", "_law_place"] F_law_noted_of := by
  obtain ⟨fd, F⟩ := e.d_law_noted_of
  have i_Notes___setitem__ := s_Notes___setitem__ (P := P) (base := base) e
  have nd := sc_law_noted_of.nd
  have B : Binds K fd ["_law_noted", "_law_name", "_law_place"] [] := F.bindsN fun _ _ _ _ _ _ us hl => match us, hl with | [_, _, _], _ => rfl
  have R : Is P w K mg base (7 + 1) (He.fAd K ("_law_noted_of", none)) ["_law_noted", "_law_name", "_law_place"] (runF m_law_noted_of 3 4) := by
    refine is_mk (k := 7) (m := m_law_noted_of) (N := N_law_noted_of) F sc_law_noted_of B fun cdv A outer s H E W hr tk => ?_
    exact (sb_cons (ss_try rfl rfl tk (fun _ _ _ tk2 _ => (sb_one (ss_subO (se_var (i := 0) rfl (by first | exact Or.inl rfl | exact Or.inr (Or.inl rfl) | exact Or.inr (Or.inr rfl))) (se_var (i := 1) rfl (by first | exact Or.inl rfl | exact Or.inr (Or.inl rfl) | exact Or.inr (Or.inr rfl))) (se_var (i := 2) rfl (by first | exact Or.inl rfl | exact Or.inr (Or.inl rfl) | exact Or.inr (Or.inr rfl))) e.me_Notes_DsetitemD e.dq_Notes (i_Notes___setitem__.cal tk2 (hr.mono (by decide)))))) (.consN (i := 3) nd rfl rfl ⟨rfl, by decide, .inl e.g_BadName⟩ (List.forall_mem_cons.mpr ⟨e.xm_NamesError_BadName, (List.forall_mem_cons.mpr ⟨e.xm_BadPlace_BadName, (List.forall_mem_cons.mpr ⟨e.xm_BadName_BadName, (fun _ h => absurd h List.not_mem_nil)⟩)⟩)⟩) (fun _ _ => (sb_one (ss_ret (se_lst (sa_cons se_str (sa_cons (se_callB (call_repr hr.gd hr.u64) kc_repr rfl e.n_repr bt_repr (sa_cons (se_exc (i := 3) rfl (by first | exact Or.inl rfl | exact Or.inr (Or.inl rfl) | exact Or.inr (Or.inr rfl)) ["BadName"] (List.forall_mem_cons.mpr ⟨⟨e.xf_BadName, e.hno_BadName_name⟩, (fun _ h => absurd h List.not_mem_nil)⟩)) sa_nil)) sa_nil)))))) (.consN (i := 3) nd rfl rfl ⟨rfl, by decide, .inl e.g_BadPlace⟩ (List.forall_mem_cons.mpr ⟨e.xm_NamesError_BadPlace, (List.forall_mem_cons.mpr ⟨e.xm_BadPlace_BadPlace, (List.forall_mem_cons.mpr ⟨e.xm_BadName_BadPlace, (fun _ h => absurd h List.not_mem_nil)⟩)⟩)⟩) (fun _ _ => (sb_one (ss_ret (se_lst (sa_cons se_str (sa_cons (se_callB (call_repr hr.gd hr.u64) kc_repr rfl e.n_repr bt_repr (sa_cons (se_exc (i := 3) rfl (by first | exact Or.inl rfl | exact Or.inr (Or.inl rfl) | exact Or.inr (Or.inr rfl)) ["BadPlace"] (List.forall_mem_cons.mpr ⟨⟨e.xf_BadPlace, e.hno_BadPlace_place⟩, (fun _ h => absurd h List.not_mem_nil)⟩)) sa_nil)) sa_nil)))))) .nil)))
  (sb_one (ss_ret (se_lst sa_nil))))
  exact R

def N_law_pool_of : List Str := ["_law_script", "_law_k", "_law_cell", "_law_size", "_law_mixed"]
def m_law_pool_of : MS := sSeq (sSet 2 (cIf (cB (c2 oLt (cVar 1) (cCall (f1 lenD) (aCons (cVar 0) (aNil))))) (c2 oIx (cVar 0) (cVar 1)) (c2 oPlus (c2 oMul (cC (.int 7)) (cCall (f1 sumD) (aCons (cSl (cVar 0) (oNone) (oSome (cC (.int 63)))) (aNil)))) (cVar 1))))
  (sSeq (sSet 3 (cCall (f1 absD) (aCons (cVar 2) (aNil))))
  (sSeq (sSet 4 (c2 oPlus (c2 oPlus (c2 oPlus (c2 oMod (cCall (f1 intD) (aCons (cVar 3) (aNil))) (cC (.int 2147483629))) (c2 oMul (c2 oMul (cC (.int 7919)) (cVar 1)) (cVar 1))) (c2 oMul (cC (.int 31)) (cVar 1))) (cC (.int 17))))
  (sSeq (sSet 4 (c2 oMod (cCall (f1 intD) (aCons (c2 oMul (cVar 4) (cC (.int 48271))) (aNil))) (cC (.int 2147483647))))
  (sRet (cLstN (aCons (c2 oMul (cVar 3) (cCall (f1 intD) (aCons (c2 oGe (cVar 3) (c2 oPow (cC (.int 10)) (cC (.int 18)))) (aNil)))) (aCons (c2 oMod (cCall (f1 intD) (aCons (c2 oMul (cVar 4) (cVar 4)) (aNil))) (cC (.int 2147483629))) (aNil))))))))
def F_law_pool_of : FF := runF m_law_pool_of 2 5

theorem sc_law_pool_of : FnScope N_law_pool_of ["_law_script", "_law_k"] (defScope (top 14)) := ⟨rfl, rfl, rfl, by decide +kernel, rfl, by decide +kernel, by decide +kernel⟩
theorem s_law_pool_of (e : Ev w K mg) : Is P w K mg base (1 + 1) (He.fAd K ("_law_pool_of", none)) ["_law_script", "_law_k"] F_law_pool_of := by
  obtain ⟨fd, F⟩ := e.d_law_pool_of
  have nd := sc_law_pool_of.nd
  have B : Binds K fd ["_law_script", "_law_k"] [] := F.bindsN fun _ _ _ _ _ _ us hl => match us, hl with | [_, _], _ => rfl
  have R : Is P w K mg base (1 + 1) (He.fAd K ("_law_pool_of", none)) ["_law_script", "_law_k"] (runF m_law_pool_of 2 5) := by
    refine is_mk (k := 1) (m := m_law_pool_of) (N := N_law_pool_of) F sc_law_pool_of B fun cdv A outer s H E W hr tk => ?_
    exact (sb_cons (ss_set (i := 2) nd rfl (by first | exact Or.inl rfl | exact Or.inr rfl) (se_ifExp (st_cmp op_lt k_lt (se_var (i := 1) rfl (by first | exact Or.inl rfl | exact Or.inr (Or.inl rfl) | exact Or.inr (Or.inr rfl))) (se_callB call_lenA kc_len rfl e.n_len bt_len (sa_cons (se_var (i := 0) rfl (by first | exact Or.inl rfl | exact Or.inr (Or.inl rfl) | exact Or.inr (Or.inr rfl))) sa_nil)) (nomark _)) (se_ix hr.u1 (se_var (i := 0) rfl (by first | exact Or.inl rfl | exact Or.inr (Or.inl rfl) | exact Or.inr (Or.inr rfl))) (se_var (i := 1) rfl (by first | exact Or.inl rfl | exact Or.inr (Or.inl rfl) | exact Or.inr (Or.inr rfl)))) (se_op op_plus k_plus (se_op op_mul k_mul se_int (se_callB (cr_sum rfl) kc_sum rfl e.n_sum bt_sum (sa_cons (se_slice (se_var (i := 0) rfl (by first | exact Or.inl rfl | exact Or.inr (Or.inl rfl) | exact Or.inr (Or.inr rfl))) so_none (so_some se_int)) sa_nil))) (se_var (i := 1) rfl (by first | exact Or.inl rfl | exact Or.inr (Or.inl rfl) | exact Or.inr (Or.inr rfl))))))
  (sb_cons (ss_set (i := 3) nd rfl (by first | exact Or.inl rfl | exact Or.inr rfl) (se_callB call_abs kc_abs rfl e.n_abs bt_abs (sa_cons (se_var (i := 2) rfl (by first | exact Or.inl rfl | exact Or.inr (Or.inl rfl) | exact Or.inr (Or.inr rfl))) sa_nil)))
  (sb_cons (ss_set (i := 4) nd rfl (by first | exact Or.inl rfl | exact Or.inr rfl) (se_op op_plus k_plus (se_op op_plus k_plus (se_op op_plus k_plus (se_op op_mod k_mod (se_callTy call_int1 kc_int rfl e.n_int bt_int (sa_cons (se_var (i := 3) rfl (by first | exact Or.inl rfl | exact Or.inr (Or.inl rfl) | exact Or.inr (Or.inr rfl))) sa_nil)) se_int) (se_op op_mul k_mul (se_op op_mul k_mul se_int (se_var (i := 1) rfl (by first | exact Or.inl rfl | exact Or.inr (Or.inl rfl) | exact Or.inr (Or.inr rfl)))) (se_var (i := 1) rfl (by first | exact Or.inl rfl | exact Or.inr (Or.inl rfl) | exact Or.inr (Or.inr rfl))))) (se_op op_mul k_mul se_int (se_var (i := 1) rfl (by first | exact Or.inl rfl | exact Or.inr (Or.inl rfl) | exact Or.inr (Or.inr rfl))))) se_int))
  (sb_cons (ss_set (i := 4) nd rfl (by first | exact Or.inl rfl | exact Or.inr rfl) (se_op op_mod k_mod (se_callTy call_int1 kc_int rfl e.n_int bt_int (sa_cons (se_op op_mul k_mul (se_var (i := 4) rfl (by first | exact Or.inl rfl | exact Or.inr (Or.inl rfl) | exact Or.inr (Or.inr rfl))) se_int) sa_nil)) se_int))
  (sb_one (ss_ret (se_lstN (sa_cons (se_op op_mul k_mul (se_var (i := 3) rfl (by first | exact Or.inl rfl | exact Or.inr (Or.inl rfl) | exact Or.inr (Or.inr rfl))) (se_callTy call_int1 kc_int rfl e.n_int bt_int (sa_cons (se_cmp op_ge k_ge (se_var (i := 3) rfl (by first | exact Or.inl rfl | exact Or.inr (Or.inl rfl) | exact Or.inr (Or.inr rfl))) (se_op op_pow k_pow se_int se_int) (nomark _)) sa_nil))) (sa_cons (se_op op_mod k_mod (se_callTy call_int1 kc_int rfl e.n_int bt_int (sa_cons (se_op op_mul k_mul (se_var (i := 4) rfl (by first | exact Or.inl rfl | exact Or.inr (Or.inl rfl) | exact Or.inr (Or.inr rfl))) (se_var (i := 4) rfl (by first | exact Or.inl rfl | exact Or.inr (Or.inl rfl) | exact Or.inr (Or.inr rfl)))) sa_nil)) se_int) sa_nil)))))))))
  exact R

def N_law : List Str := ["_law_script", "_law_names", "_law_k", "_law_told", "_law_tables", "_law_rows", "_law_pool", "_law_place", "_law_kind", "_law_at", "_law_name", "_law_noted", "_law_due"]
def m_law : MS := sSeq (sPar 4 5 (aCons (cLst (aCons (cCall (mkF "Notes" F_Notes___init__) (aNil)) (aCons (cCall (mkF "Notes" F_Notes___init__) (aNil)) (aNil)))) (aCons (cLst (aCons (cDicN) (aCons (cDicN) (aNil)))) (aNil))))
  (sSeq (sSet 1 (cCall F_law_names_of (aCons (cCall F_law_pool_of (aCons (cVar 0) (aCons (cC (.int 0)) (aNil)))) (aCons (cC (.int 4)) (aNil)))))
  (sSeq (sFor (iRange1 (aCons (cCall (f2 minD) (aCons (cC (.int 24)) (aCons (cCall (f2 maxD) (aCons (cCall (f1 lenD) (aCons (cVar 0) (aNil))) (aCons (cC (.int 6)) (aNil)))) (aNil)))) (aNil))) (gN 2)
  (sSeq (sSet 6 (cCall F_law_pool_of (aCons (cVar 0) (aCons (cVar 2) (aNil)))))
  (sSeq (sPar 9 10 (aCons (cCall F_law_draw (aCons (cVar 6) (aCons (cC (.int 2)) (aNil)))) (aCons (cCall F_law_pick (aCons (cVar 6) (aCons (cVar 1) (aNil)))) (aNil))))
  (sSeq (sSet 7 (cCall F_law_pick (aCons (cVar 6) (aCons (cLst (aCons (cTup (aCons (cC (.str "name")) (aCons (cC (.str "l")) (aCons (cC (.str "a")) (aNil))))) (aCons (cTup (aCons (cC (.str "member")) (aCons (cVar 10) (aCons (cC (.str "b")) (aNil))))) (aCons (cTup (aCons (cC (.str "spread")) (aCons (cC (.str "l")) (aCons (cC (.str "k")) (aCons (cVar 10) (aNil)))))) (aNil))))) (aNil)))))
  (sSeq (sSet 8 (cCall F_law_draw (aCons (cVar 6) (aCons (cC (.int 8)) (aNil)))))
  (sSeq (sIf (cB (c2 (oEq false) (cVar 8) (cC (.int 0)))) (sSet 10 (cCall F_law_pick (aCons (cVar 6) (aCons (cLst (aCons (cC .non) (aCons (cC (.str "")) (aCons (cC (.str "A")) (aCons (cC (.str "abcdefghi")) (aCons (cC (.int 5)) (aCons (cTup (aCons (cC (.str "a")) (aNil))) (aCons (cC (.str "a b")) (aNil))))))))) (aNil)))))
  (sNil))
  (sSeq (sIf (cOr (cB (c2 (oEq false) (cVar 8) (cC (.int 1)))) (cAnd (cB (c2 (oEq false) (cVar 8) (cC (.int 0)))) (cB (c2 (oEq false) (cCall F_law_draw (aCons (cVar 6) (aCons (cC (.int 2)) (aNil)))) (cC (.int 0)))))) (sSet 7 (cCall F_law_pick (aCons (cVar 6) (aCons (cLst (aCons (cC .non) (aCons (cTup (aCons (cC (.str "name")) (aCons (cC (.str "l")) (aNil)))) (aCons (cLst (aCons (cC (.str "name")) (aCons (cC (.str "l")) (aCons (cC (.str "a")) (aNil))))) (aCons (cC (.str "name l a")) (aCons (cTup (aCons (cC (.str "name")) (aCons (cC (.str "l")) (aCons (cC (.str "A")) (aNil))))) (aCons (cTup (aNil)) (aNil)))))))) (aNil)))))
  (sNil))
  (sSeq (sPar 11 12 (aCons (c2 oIx (cVar 4) (cVar 9)) (aCons (cLst (aNil)) (aNil))))
  (sSeq (sIf (cB (c2 (oEq false) (cVar 8) (cC (.int 0)))) (sSet 12 (cLst (aCons (cC (.str "name")) (aCons (cCall (f1 reprD) (aCons (cVar 10) (aNil))) (aNil)))))
  (sIf (cB (c2 (oEq false) (cVar 8) (cC (.int 1)))) (sSet 12 (cLst (aCons (cC (.str "place")) (aCons (cCall (f1 reprD) (aCons (cVar 7) (aNil))) (aNil)))))
  (sNil)))
  (sSeq (sIf (cB (c2 (oEq true) (cCall F_law_noted_of (aCons (cVar 11) (aCons (cVar 10) (aCons (cVar 7) (aNil))))) (cVar 12))) (sRet (cC (.bl false)))
  (sNil))
  (sSeq (sIf (cB (c2 (oEq false) (cVar 12) (cLst (aNil)))) (sSub (c2 oIx (cVar 5) (cVar 9)) (cVar 10) (cVar 7))
  (sNil))
  (sIf (cOr (cNot (cB (cCall F_law_fits (aCons (c2 oIx (cVar 4) (cC (.int 0))) (aCons (c2 oIx (cVar 5) (cC (.int 0))) (aCons (cVar 1) (aNil))))))) (cNot (cB (cCall F_law_fits (aCons (c2 oIx (cVar 4) (cC (.int 1))) (aCons (c2 oIx (cVar 5) (cC (.int 1))) (aCons (cVar 1) (aNil)))))))) (sRet (cC (.bl false)))
  (sNil)))))))))))))
  (sSeq (sSet 3 (cMeth "Notes" "listed" F_Notes_listed (c2 oIx (cVar 4) (cC (.int 0))) (aNil)))
  (sSeq (sExpr (cApp (cVar 3) (cC .non)))
  (sRet (cCall F_law_fits (aCons (c2 oIx (cVar 4) (cC (.int 0))) (aCons (c2 oIx (cVar 5) (cC (.int 0))) (aCons (cVar 1) (aNil))))))))))
def F_law : FF := runF m_law 1 13

theorem sc_law : FnScope N_law ["_law_script"] (defScope (top 23)) := ⟨rfl, rfl, rfl, by decide +kernel, rfl, by decide +kernel, by decide +kernel⟩
theorem s_law (e : Ev w K mg) : Is P w K mg base (11 + 1) (He.fAd K ("law", none)) ["_law_script"] F_law := by
  obtain ⟨fd, F⟩ := e.d_law
  have i_Notes___init__ := s_Notes___init__ (P := P) (base := base) e
  have i_law_names_of := s_law_names_of (P := P) (base := base) e
  have i_law_pool_of := s_law_pool_of (P := P) (base := base) e
  have i_law_pick := s_law_pick (P := P) (base := base) e
  have i_law_draw := s_law_draw (P := P) (base := base) e
  have i_law_noted_of := s_law_noted_of (P := P) (base := base) e
  have i_law_fits := s_law_fits (P := P) (base := base) e
  have i_Notes_listed := s_Notes_listed (P := P) (base := base) e
  have nd := sc_law.nd
  have B : Binds K fd ["_law_script"] [] := F.bindsN fun _ _ _ _ _ _ us hl => match us, hl with | [_], _ => rfl
  have R : Is P w K mg base (11 + 1) (He.fAd K ("law", none)) ["_law_script"] (runF m_law 1 13) := by
    refine is_mk (k := 11) (m := m_law) (N := N_law) F sc_law B fun cdv A outer s H E W hr tk => ?_
    exact (sb_cons (ss_par (i := 4) (j := 5) rfl nd rfl rfl (by decide) rfl rfl (sa_cons (se_lst (sa_cons (se_call0 (i_Notes___init__.mk tk e.mk_Notes (hr.mono (by decide))) rfl e.g_Notes e.kp_Notes) (sa_cons (se_call0 (i_Notes___init__.mk tk e.mk_Notes (hr.mono (by decide))) rfl e.g_Notes e.kp_Notes) sa_nil))) (sa_cons (se_lst (sa_cons se_dicN (sa_cons se_dicN sa_nil))) sa_nil)) (by rfl))
  (sb_cons (ss_set (i := 1) nd rfl (by first | exact Or.inl rfl | exact Or.inr rfl) (se_call (i_law_names_of.cal tk (hr.mono (by decide))) rfl e.g_law_names_of e.kp_law_names_of (sa_cons (se_call (i_law_pool_of.cal tk (hr.mono (by decide))) rfl e.g_law_pool_of e.kp_law_pool_of (sa_cons (se_var (i := 0) rfl (by first | exact Or.inl rfl | exact Or.inr (Or.inl rfl) | exact Or.inr (Or.inr rfl))) (sa_cons se_int sa_nil))) (sa_cons se_int sa_nil))))
  (sb_cons (ss_for (passes_of rfl) rfl (si_range1 rfl e.n_range (sa_cons (se_callB (call_min2 rfl) kc_min rfl e.n_min bt_min (sa_cons se_int (sa_cons (se_callB (call_max2 rfl) kc_max rfl e.n_max bt_max (sa_cons (se_callB call_lenA kc_len rfl e.n_len bt_len (sa_cons (se_var (i := 0) rfl (by first | exact Or.inl rfl | exact Or.inr (Or.inl rfl) | exact Or.inr (Or.inr rfl))) sa_nil)) (sa_cons se_int sa_nil))) sa_nil))) sa_nil)) (sg_name (i := 2) nd rfl (by first | exact Or.inl rfl | exact Or.inr rfl))
  (sb_cons (ss_set (i := 6) nd rfl (by first | exact Or.inl rfl | exact Or.inr rfl) (se_call (i_law_pool_of.cal tk (hr.mono (by decide))) rfl e.g_law_pool_of e.kp_law_pool_of (sa_cons (se_var (i := 0) rfl (by first | exact Or.inl rfl | exact Or.inr (Or.inl rfl) | exact Or.inr (Or.inr rfl))) (sa_cons (se_var (i := 2) rfl (by first | exact Or.inl rfl | exact Or.inr (Or.inl rfl) | exact Or.inr (Or.inr rfl))) sa_nil))))
  (sb_cons (ss_par (i := 9) (j := 10) rfl nd rfl rfl (by decide) rfl rfl (sa_cons (se_call (i_law_draw.cal tk (hr.mono (by decide))) rfl e.g_law_draw e.kp_law_draw (sa_cons (se_var (i := 6) rfl (by first | exact Or.inl rfl | exact Or.inr (Or.inl rfl) | exact Or.inr (Or.inr rfl))) (sa_cons se_int sa_nil))) (sa_cons (se_call (i_law_pick.cal tk (hr.mono (by decide))) rfl e.g_law_pick e.kp_law_pick (sa_cons (se_var (i := 6) rfl (by first | exact Or.inl rfl | exact Or.inr (Or.inl rfl) | exact Or.inr (Or.inr rfl))) (sa_cons (se_var (i := 1) rfl (by first | exact Or.inl rfl | exact Or.inr (Or.inl rfl) | exact Or.inr (Or.inr rfl))) sa_nil))) sa_nil)) (by rfl))
  (sb_cons (ss_set (i := 7) nd rfl (by first | exact Or.inl rfl | exact Or.inr rfl) (se_call (i_law_pick.cal tk (hr.mono (by decide))) rfl e.g_law_pick e.kp_law_pick (sa_cons (se_var (i := 6) rfl (by first | exact Or.inl rfl | exact Or.inr (Or.inl rfl) | exact Or.inr (Or.inr rfl))) (sa_cons (se_lst (sa_cons (se_tup (sa_cons se_str (sa_cons se_str (sa_cons se_str sa_nil)))) (sa_cons (se_tup (sa_cons se_str (sa_cons (se_var (i := 10) rfl (by first | exact Or.inl rfl | exact Or.inr (Or.inl rfl) | exact Or.inr (Or.inr rfl))) (sa_cons se_str sa_nil)))) (sa_cons (se_tup (sa_cons se_str (sa_cons se_str (sa_cons se_str (sa_cons (se_var (i := 10) rfl (by first | exact Or.inl rfl | exact Or.inr (Or.inl rfl) | exact Or.inr (Or.inr rfl))) sa_nil))))) sa_nil)))) sa_nil))))
  (sb_cons (ss_set (i := 8) nd rfl (by first | exact Or.inl rfl | exact Or.inr rfl) (se_call (i_law_draw.cal tk (hr.mono (by decide))) rfl e.g_law_draw e.kp_law_draw (sa_cons (se_var (i := 6) rfl (by first | exact Or.inl rfl | exact Or.inr (Or.inl rfl) | exact Or.inr (Or.inr rfl))) (sa_cons se_int sa_nil))))
  (sb_cons (ss_if (st_cmp (op_eqA hr.u64) k_eq (se_var (i := 8) rfl (by first | exact Or.inl rfl | exact Or.inr (Or.inl rfl) | exact Or.inr (Or.inr rfl))) se_int (nomark _)) (sb_one (ss_set (i := 10) nd rfl (by first | exact Or.inl rfl | exact Or.inr rfl) (se_call (i_law_pick.cal tk (hr.mono (by decide))) rfl e.g_law_pick e.kp_law_pick (sa_cons (se_var (i := 6) rfl (by first | exact Or.inl rfl | exact Or.inr (Or.inl rfl) | exact Or.inr (Or.inr rfl))) (sa_cons (se_lst (sa_cons se_non (sa_cons se_str (sa_cons se_str (sa_cons se_str (sa_cons se_int (sa_cons (se_tup (sa_cons se_str sa_nil)) (sa_cons se_str sa_nil)))))))) sa_nil)))))
  sb_nil)
  (sb_cons (ss_if (SW.pt (sw_or (st_cmp (op_eqA hr.u64) k_eq (se_var (i := 8) rfl (by first | exact Or.inl rfl | exact Or.inr (Or.inl rfl) | exact Or.inr (Or.inr rfl))) se_int (nomark _)) (sw_or1 (SW.pt (sw_and (st_cmp (op_eqA hr.u64) k_eq (se_var (i := 8) rfl (by first | exact Or.inl rfl | exact Or.inr (Or.inl rfl) | exact Or.inr (Or.inr rfl))) se_int (nomark _)) (sw_and1 (st_cmp (op_eqA hr.u64) k_eq (se_call (i_law_draw.cal tk (hr.mono (by decide))) rfl e.g_law_draw e.kp_law_draw (sa_cons (se_var (i := 6) rfl (by first | exact Or.inl rfl | exact Or.inr (Or.inl rfl) | exact Or.inr (Or.inr rfl))) (sa_cons se_int sa_nil))) se_int (nomark _)))))))) (sb_one (ss_set (i := 7) nd rfl (by first | exact Or.inl rfl | exact Or.inr rfl) (se_call (i_law_pick.cal tk (hr.mono (by decide))) rfl e.g_law_pick e.kp_law_pick (sa_cons (se_var (i := 6) rfl (by first | exact Or.inl rfl | exact Or.inr (Or.inl rfl) | exact Or.inr (Or.inr rfl))) (sa_cons (se_lst (sa_cons se_non (sa_cons (se_tup (sa_cons se_str (sa_cons se_str sa_nil))) (sa_cons (se_lst (sa_cons se_str (sa_cons se_str (sa_cons se_str sa_nil)))) (sa_cons se_str (sa_cons (se_tup (sa_cons se_str (sa_cons se_str (sa_cons se_str sa_nil)))) (sa_cons (se_tup sa_nil) sa_nil))))))) sa_nil)))))
  sb_nil)
  (sb_cons (ss_par (i := 11) (j := 12) rfl nd rfl rfl (by decide) rfl rfl (sa_cons (se_ix hr.u1 (se_var (i := 4) rfl (by first | exact Or.inl rfl | exact Or.inr (Or.inl rfl) | exact Or.inr (Or.inr rfl))) (se_var (i := 9) rfl (by first | exact Or.inl rfl | exact Or.inr (Or.inl rfl) | exact Or.inr (Or.inr rfl)))) (sa_cons (se_lst sa_nil) sa_nil)) (by rfl))
  (sb_cons (ss_if (st_cmp (op_eqA hr.u64) k_eq (se_var (i := 8) rfl (by first | exact Or.inl rfl | exact Or.inr (Or.inl rfl) | exact Or.inr (Or.inr rfl))) se_int (nomark _)) (sb_one (ss_set (i := 12) nd rfl (by first | exact Or.inl rfl | exact Or.inr rfl) (se_lst (sa_cons se_str (sa_cons (se_callB (call_repr hr.gd hr.u64) kc_repr rfl e.n_repr bt_repr (sa_cons (se_var (i := 10) rfl (by first | exact Or.inl rfl | exact Or.inr (Or.inl rfl) | exact Or.inr (Or.inr rfl))) sa_nil)) sa_nil)))))
  (sb_one (ss_if (st_cmp (op_eqA hr.u64) k_eq (se_var (i := 8) rfl (by first | exact Or.inl rfl | exact Or.inr (Or.inl rfl) | exact Or.inr (Or.inr rfl))) se_int (nomark _)) (sb_one (ss_set (i := 12) nd rfl (by first | exact Or.inl rfl | exact Or.inr rfl) (se_lst (sa_cons se_str (sa_cons (se_callB (call_repr hr.gd hr.u64) kc_repr rfl e.n_repr bt_repr (sa_cons (se_var (i := 7) rfl (by first | exact Or.inl rfl | exact Or.inr (Or.inl rfl) | exact Or.inr (Or.inr rfl))) sa_nil)) sa_nil)))))
  sb_nil)))
  (sb_cons (ss_if (st_cmp (op_neA hr.u64) k_ne (se_call (i_law_noted_of.cal tk (hr.mono (by decide))) rfl e.g_law_noted_of e.kp_law_noted_of (sa_cons (se_var (i := 11) rfl (by first | exact Or.inl rfl | exact Or.inr (Or.inl rfl) | exact Or.inr (Or.inr rfl))) (sa_cons (se_var (i := 10) rfl (by first | exact Or.inl rfl | exact Or.inr (Or.inl rfl) | exact Or.inr (Or.inr rfl))) (sa_cons (se_var (i := 7) rfl (by first | exact Or.inl rfl | exact Or.inr (Or.inl rfl) | exact Or.inr (Or.inr rfl))) sa_nil)))) (se_var (i := 12) rfl (by first | exact Or.inl rfl | exact Or.inr (Or.inl rfl) | exact Or.inr (Or.inr rfl))) (nomark _)) (sb_one (ss_ret se_bl))
  sb_nil)
  (sb_cons (ss_if (st_cmp (op_eqA hr.u64) k_eq (se_var (i := 12) rfl (by first | exact Or.inl rfl | exact Or.inr (Or.inl rfl) | exact Or.inr (Or.inr rfl))) (se_lst sa_nil) (nomark _)) (sb_one (ss_sub hr.u1 (se_ix hr.u1 (se_var (i := 5) rfl (by first | exact Or.inl rfl | exact Or.inr (Or.inl rfl) | exact Or.inr (Or.inr rfl))) (se_var (i := 9) rfl (by first | exact Or.inl rfl | exact Or.inr (Or.inl rfl) | exact Or.inr (Or.inr rfl)))) (se_var (i := 10) rfl (by first | exact Or.inl rfl | exact Or.inr (Or.inl rfl) | exact Or.inr (Or.inr rfl))) (se_var (i := 7) rfl (by first | exact Or.inl rfl | exact Or.inr (Or.inl rfl) | exact Or.inr (Or.inr rfl)))))
  sb_nil)
  (sb_one (ss_if (SW.pt (sw_or (st_not (st_val (se_call (i_law_fits.cal tk (hr.mono (by decide))) rfl e.g_law_fits e.kp_law_fits (sa_cons (se_ix hr.u1 (se_var (i := 4) rfl (by first | exact Or.inl rfl | exact Or.inr (Or.inl rfl) | exact Or.inr (Or.inr rfl))) se_int) (sa_cons (se_ix hr.u1 (se_var (i := 5) rfl (by first | exact Or.inl rfl | exact Or.inr (Or.inl rfl) | exact Or.inr (Or.inr rfl))) se_int) (sa_cons (se_var (i := 1) rfl (by first | exact Or.inl rfl | exact Or.inr (Or.inl rfl) | exact Or.inr (Or.inr rfl))) sa_nil)))))) (sw_or1 (st_not (st_val (se_call (i_law_fits.cal tk (hr.mono (by decide))) rfl e.g_law_fits e.kp_law_fits (sa_cons (se_ix hr.u1 (se_var (i := 4) rfl (by first | exact Or.inl rfl | exact Or.inr (Or.inl rfl) | exact Or.inr (Or.inr rfl))) se_int) (sa_cons (se_ix hr.u1 (se_var (i := 5) rfl (by first | exact Or.inl rfl | exact Or.inr (Or.inl rfl) | exact Or.inr (Or.inr rfl))) se_int) (sa_cons (se_var (i := 1) rfl (by first | exact Or.inl rfl | exact Or.inr (Or.inl rfl) | exact Or.inr (Or.inr rfl))) sa_nil))))))))) (sb_one (ss_ret se_bl))
  sb_nil)))))))))))))
  (sb_cons (ss_set (i := 3) nd rfl (by first | exact Or.inl rfl | exact Or.inr rfl) (se_meth0 (se_ix hr.u1 (se_var (i := 4) rfl (by first | exact Or.inl rfl | exact Or.inr (Or.inl rfl) | exact Or.inr (Or.inr rfl))) se_int) e.cls_Notes e.me_Notes_listed (i_Notes_listed.cal tk (hr.mono (by decide)))))
  (sb_cons (ss_expr (se_app (se_var (i := 3) rfl (by first | exact Or.inl rfl | exact Or.inr (Or.inl rfl) | exact Or.inr (Or.inr rfl))) se_non))
  (sb_one (ss_ret (se_call (i_law_fits.cal tk (hr.mono (by decide))) rfl e.g_law_fits e.kp_law_fits (sa_cons (se_ix hr.u1 (se_var (i := 4) rfl (by first | exact Or.inl rfl | exact Or.inr (Or.inl rfl) | exact Or.inr (Or.inr rfl))) se_int) (sa_cons (se_ix hr.u1 (se_var (i := 5) rfl (by first | exact Or.inl rfl | exact Or.inr (Or.inl rfl) | exact Or.inr (Or.inr rfl))) se_int) (sa_cons (se_var (i := 1) rfl (by first | exact Or.inl rfl | exact Or.inr (Or.inl rfl) | exact Or.inr (Or.inr rfl))) sa_nil)))))))))))
  exact R
end
end G

set_option Elab.async false
set_option linter.all false
set_option maxRecDepth 100000
set_option maxHeartbeats 0
/-! the facts of addednames_k86_notes: printed by gen.py -/
namespace G
open PySem PySem.Spec PyProof.Rows L2
def dd_Notes___init__ : He.DefD := ⟨("Notes", some "__init__"), "__init__", "Notes.__init__", defArgs (inClass (top 12) 0), defBody (inClass (top 12) 0), defScope (inClass (top 12) 0), [], []⟩
def dd_Notes_listed : He.DefD := ⟨("Notes", some "listed"), "listed", "Notes.listed", defArgs (inClass (top 12) 6), defBody (inClass (top 12) 6), defScope (inClass (top 12) 6), [], []⟩
def dd_law_draw : He.DefD := ⟨("_law_draw", none), "_law_draw", "_law_draw", defArgs (top 15), defBody (top 15), defScope (top 15), [], []⟩
def dd_Notes___contains__ : He.DefD := ⟨("Notes", some "__contains__"), "__contains__", "Notes.__contains__", defArgs (inClass (top 12) 3), defBody (inClass (top 12) 3), defScope (inClass (top 12) 3), [], []⟩
def dd_Notes___len__ : He.DefD := ⟨("Notes", some "__len__"), "__len__", "Notes.__len__", defArgs (inClass (top 12) 5), defBody (inClass (top 12) 5), defScope (inClass (top 12) 5), [], []⟩
def dd_BadName___init__ : He.DefD := ⟨("BadName", some "__init__"), "__init__", "BadName.__init__", defArgs (inClass (top 3) 0), defBody (inClass (top 3) 0), defScope (inClass (top 3) 0), [], []⟩
def dd_Notes___getitem__ : He.DefD := ⟨("Notes", some "__getitem__"), "__getitem__", "Notes.__getitem__", defArgs (inClass (top 12) 4), defBody (inClass (top 12) 4), defScope (inClass (top 12) 4), [], []⟩
def dd_law_at_of : He.DefD := ⟨("_law_at_of", none), "_law_at_of", "_law_at_of", defArgs (top 20), defBody (top 20), defScope (top 20), [], []⟩
def dd_law_is_list : He.DefD := ⟨("_law_is_list", none), "_law_is_list", "_law_is_list", defArgs (top 18), defBody (top 18), defScope (top 18), [], []⟩
def dd_law_listed : He.DefD := ⟨("_law_listed", none), "_law_listed", "_law_listed", defArgs (top 21), defBody (top 21), defScope (top 21), [], []⟩
def dd_law_fits : He.DefD := ⟨("_law_fits", none), "_law_fits", "_law_fits", defArgs (top 22), defBody (top 22), defScope (top 22), [], []⟩
def dd_law_pick : He.DefD := ⟨("_law_pick", none), "_law_pick", "_law_pick", defArgs (top 16), defBody (top 16), defScope (top 16), [], []⟩
def dd_law_names_of : He.DefD := ⟨("_law_names_of", none), "_law_names_of", "_law_names_of", defArgs (top 17), defBody (top 17), defScope (top 17), [], []⟩
def dd_BadPlace___init__ : He.DefD := ⟨("BadPlace", some "__init__"), "__init__", "BadPlace.__init__", defArgs (inClass (top 2) 0), defBody (inClass (top 2) 0), defScope (inClass (top 2) 0), [], []⟩
def dd_is_name : He.DefD := ⟨("is_name", none), "is_name", "is_name", defArgs (top 7), defBody (top 7), defScope (top 7), [], []⟩
def dd_is_place : He.DefD := ⟨("is_place", none), "is_place", "is_place", defArgs (top 10), defBody (top 10), defScope (top 10), [], []⟩
def dd_Notes___setitem__ : He.DefD := ⟨("Notes", some "__setitem__"), "__setitem__", "Notes.__setitem__", defArgs (inClass (top 12) 2), defBody (inClass (top 12) 2), defScope (inClass (top 12) 2), [], []⟩
def dd_law_noted_of : He.DefD := ⟨("_law_noted_of", none), "_law_noted_of", "_law_noted_of", defArgs (top 19), defBody (top 19), defScope (top 19), [], []⟩
def dd_law_pool_of : He.DefD := ⟨("_law_pool_of", none), "_law_pool_of", "_law_pool_of", defArgs (top 14), defBody (top 14), defScope (top 14), [], []⟩
def dd_law : He.DefD := ⟨("law", none), "law", "law", defArgs (top 23), defBody (top 23), defScope (top 23), [], []⟩
def fn : List He.DefD := [dd_Notes___init__, dd_Notes_listed, dd_law_draw, dd_Notes___contains__, dd_Notes___len__, dd_BadName___init__, dd_Notes___getitem__, dd_law_at_of, dd_law_is_list, dd_law_listed, dd_law_fits, dd_law_pick, dd_law_names_of, dd_BadPlace___init__, dd_is_name, dd_is_place, dd_Notes___setitem__, dd_law_noted_of, dd_law_pool_of, dd_law]
def fa : List He.Fa := [
  .glo "law",
  .cls "Notes",
  .noat "Notes" "noted",
  .free "str",
  .free "sorted",
  .free "int",
  .free "isinstance",
  .free "len",
  .glo "NamesError",
  .meth "Notes" "__contains__",
  .meth "BadName" "__init__",
  .glo "BadName",
  .meth "Notes" "__getitem__",
  .exm "BadName" "NamesError" true,
  .exm "BadPlace" "NamesError" true,
  .exm "NamesError" "NamesError" true,
  .exm "BadName" "BadName" true,
  .exm "BadPlace" "BadName" false,
  .exm "NamesError" "BadName" false,
  .free "repr",
  .free "list",
  .glo "_law_listed",
  .keep "_law_listed",
  .meth "Notes" "listed",
  .glo "_law_is_list",
  .keep "_law_is_list",
  .meth "Notes" "__len__",
  .glo "_law_at_of",
  .keep "_law_at_of",
  .glo "_law_draw",
  .keep "_law_draw",
  .glo "_law_pick",
  .keep "_law_pick",
  .free "range",
  .int "MOST_LETTERS" 8,
  .str "LETTERS" "abcdefghijklmnopqrstuvwxyz",
  .free "all",
  .free "tuple",
  .glo "LENGTHS",
  .glo "is_name",
  .keep "is_name",
  .glo "is_place",
  .keep "is_place",
  .meth "BadPlace" "__init__",
  .glo "BadPlace",
  .meth "Notes" "__setitem__",
  .exm "BadName" "BadPlace" false,
  .exm "BadPlace" "BadPlace" true,
  .exm "NamesError" "BadPlace" false,
  .free "sum",
  .free "abs",
  .mkr "Notes",
  .glo "Notes",
  .keep "Notes",
  .glo "_law_pool_of",
  .keep "_law_pool_of",
  .glo "_law_names_of",
  .keep "_law_names_of",
  .free "max",
  .free "min",
  .glo "_law_noted_of",
  .keep "_law_noted_of",
  .glo "_law_fits",
  .keep "_law_fits"]
def ts : List He.Tab := [(fun K => (He.ga K "LENGTHS"), tb_LENGTHS.map (·.1))]
def exL (K : PySem.W.Frag) : List Bool := [
  (PySem.W.readsIn K (He.ga K "NamesError") (.type "type") && decide (PySem.W.specialIn K (.ref (He.ga K "NamesError")) "__getattribute__" = some (some (.builtin "type.__getattribute__")))),
  vvB K (He.ga K "NamesError"),
  oexB K (He.ga K "BadName"),
  decide (PySem.W.findIn K (.ref (He.ga K "BadName")) "name" = some none),
  PySem.W.fnIn K (He.ma K (He.ga K "Notes") "__getitem__"),
  xfB K (He.ga K "BadName"),
  tblB K (He.ga K "LENGTHS") tb_LENGTHS,
  oexB K (He.ga K "BadPlace"),
  decide (PySem.W.findIn K (.ref (He.ga K "BadPlace")) "place" = some none),
  decide (PySem.W.mroIn K (He.ga K "Notes") (.type "collections.deque") = some false),
  xfB K (He.ga K "BadPlace")]
def exB (K : PySem.W.Frag) : Bool := (exL K).all id
section
variable {w : World} {h : Heap} {K : PySem.W.Frag} {mg : Str → Option Value}
theorem exF (c : SaysY fa fn ts exB w K) (i : Nat) {b : Bool} (q : (exL K)[i]? = some b) : b = true := List.all_eq_true.mp (show (exL K).all id = true from c.more) b (List.mem_of_getElem? q)
theorem tabF (c : SaysY fa fn ts exB w K) (i : Nat) {t : He.Tab} (q : ts[i]? = some t) : He.dicW K (t.1 K) = some (He.keysIn w.params t.2) := by
  have e : (ts.map fun t => He.dicW K (t.1 K)) = ts.map fun t => some (He.keysIn w.params t.2) := congrArg (fun z : He.AlT => z.2) c.t
  have e2 : (ts.map fun t => He.dicW K (t.1 K))[i]? = (ts.map fun t => some (He.keysIn w.params t.2))[i]? := by rw [e]
  rw [List.getElem?_map, List.getElem?_map, q] at e2
  exact Option.some.inj e2
theorem ev (X : K.In h) (G : h.Ns mainGlobals mg) (c : SaysY fa fn ts exB w K) : Ev w K mg where
  g_law := He.glo_ok X G (c.t.d.fact 0 rfl)
  d_Notes___init__ := c.t.d.def_ 0 (d := dd_Notes___init__) rfl
  d_Notes_listed := c.t.d.def_ 1 (d := dd_Notes_listed) rfl
  d_law_draw := c.t.d.def_ 2 (d := dd_law_draw) rfl
  d_Notes___contains__ := c.t.d.def_ 3 (d := dd_Notes___contains__) rfl
  d_Notes___len__ := c.t.d.def_ 4 (d := dd_Notes___len__) rfl
  d_BadName___init__ := c.t.d.def_ 5 (d := dd_BadName___init__) rfl
  d_Notes___getitem__ := c.t.d.def_ 6 (d := dd_Notes___getitem__) rfl
  d_law_at_of := c.t.d.def_ 7 (d := dd_law_at_of) rfl
  d_law_is_list := c.t.d.def_ 8 (d := dd_law_is_list) rfl
  d_law_listed := c.t.d.def_ 9 (d := dd_law_listed) rfl
  d_law_fits := c.t.d.def_ 10 (d := dd_law_fits) rfl
  d_law_pick := c.t.d.def_ 11 (d := dd_law_pick) rfl
  d_law_names_of := c.t.d.def_ 12 (d := dd_law_names_of) rfl
  d_BadPlace___init__ := c.t.d.def_ 13 (d := dd_BadPlace___init__) rfl
  d_is_name := c.t.d.def_ 14 (d := dd_is_name) rfl
  d_is_place := c.t.d.def_ 15 (d := dd_is_place) rfl
  d_Notes___setitem__ := c.t.d.def_ 16 (d := dd_Notes___setitem__) rfl
  d_law_noted_of := c.t.d.def_ 17 (d := dd_law_noted_of) rfl
  d_law_pool_of := c.t.d.def_ 18 (d := dd_law_pool_of) rfl
  d_law := c.t.d.def_ 19 (d := dd_law) rfl
  cls_Notes := He.cls_ok (c.t.d.fact 1 rfl)
  na_Notes_noted := He.noat_ok (c.t.d.fact 2 rfl)
  n_str := He.free_ok X G (c.t.d.fact 3 rfl)
  n_sorted := He.free_ok X G (c.t.d.fact 4 rfl)
  n_int := He.free_ok X G (c.t.d.fact 5 rfl)
  n_isinstance := He.free_ok X G (c.t.d.fact 6 rfl)
  n_len := He.free_ok X G (c.t.d.fact 7 rfl)
  cr_NamesError := ⟨(Bool.and_eq_true_iff.mp (exF c 0 rfl)).1, of_decide_eq_true (Bool.and_eq_true_iff.mp (exF c 0 rfl)).2⟩
  vv_NamesError := vvB_ok (exF c 1 rfl)
  g_NamesError := He.glo_ok X G (c.t.d.fact 8 rfl)
  me_Notes_DcontainsD := He.meth_ok (c.t.d.fact 9 rfl)
  me_BadName_DinitD := He.meth_ok (c.t.d.fact 10 rfl)
  oex_BadName := oexB_ok (exF c 2 rfl)
  hno_BadName_name := of_decide_eq_true (exF c 3 rfl)
  g_BadName := He.glo_ok X G (c.t.d.fact 11 rfl)
  me_Notes_DgetitemD := He.meth_ok (c.t.d.fact 12 rfl)
  fi_Notes_DgetitemD := (exF c 4 rfl)
  xm_BadName_NamesError := He.exm_ok (c.t.d.fact 13 rfl)
  xm_BadPlace_NamesError := He.exm_ok (c.t.d.fact 14 rfl)
  xm_NamesError_NamesError := He.exm_ok (c.t.d.fact 15 rfl)
  xm_BadName_BadName := He.exm_ok (c.t.d.fact 16 rfl)
  xm_BadPlace_BadName := He.exm_ok (c.t.d.fact 17 rfl)
  xm_NamesError_BadName := He.exm_ok (c.t.d.fact 18 rfl)
  xf_BadName := xfB_ok (exF c 5 rfl)
  n_repr := He.free_ok X G (c.t.d.fact 19 rfl)
  n_list := He.free_ok X G (c.t.d.fact 20 rfl)
  g_law_listed := He.glo_ok X G (c.t.d.fact 21 rfl)
  kp_law_listed := He.keep_ok (c.t.d.fact 22 rfl)
  me_Notes_listed := He.meth_ok (c.t.d.fact 23 rfl)
  g_law_is_list := He.glo_ok X G (c.t.d.fact 24 rfl)
  kp_law_is_list := He.keep_ok (c.t.d.fact 25 rfl)
  me_Notes_DlenD := He.meth_ok (c.t.d.fact 26 rfl)
  g_law_at_of := He.glo_ok X G (c.t.d.fact 27 rfl)
  kp_law_at_of := He.keep_ok (c.t.d.fact 28 rfl)
  g_law_draw := He.glo_ok X G (c.t.d.fact 29 rfl)
  kp_law_draw := He.keep_ok (c.t.d.fact 30 rfl)
  g_law_pick := He.glo_ok X G (c.t.d.fact 31 rfl)
  kp_law_pick := He.keep_ok (c.t.d.fact 32 rfl)
  n_range := He.free_ok X G (c.t.d.fact 33 rfl)
  i_MOST_LETTERS := He.int_ok X G (c.t.d.fact 34 rfl)
  s_LETTERS := He.str_ok X G (c.t.d.fact 35 rfl)
  n_all := He.free_ok X G (c.t.d.fact 36 rfl)
  n_tuple := He.free_ok X G (c.t.d.fact 37 rfl)
  g_LENGTHS := He.glo_ok X G (c.t.d.fact 38 rfl)
  tbl_LENGTHS := tbl_ok (tabF c 0 rfl) (exF c 6 rfl)
  g_is_name := He.glo_ok X G (c.t.d.fact 39 rfl)
  kp_is_name := He.keep_ok (c.t.d.fact 40 rfl)
  g_is_place := He.glo_ok X G (c.t.d.fact 41 rfl)
  kp_is_place := He.keep_ok (c.t.d.fact 42 rfl)
  me_BadPlace_DinitD := He.meth_ok (c.t.d.fact 43 rfl)
  oex_BadPlace := oexB_ok (exF c 7 rfl)
  hno_BadPlace_place := of_decide_eq_true (exF c 8 rfl)
  g_BadPlace := He.glo_ok X G (c.t.d.fact 44 rfl)
  me_Notes_DsetitemD := He.meth_ok (c.t.d.fact 45 rfl)
  dq_Notes := of_decide_eq_true (exF c 9 rfl)
  xm_BadName_BadPlace := He.exm_ok (c.t.d.fact 46 rfl)
  xm_BadPlace_BadPlace := He.exm_ok (c.t.d.fact 47 rfl)
  xm_NamesError_BadPlace := He.exm_ok (c.t.d.fact 48 rfl)
  xf_BadPlace := xfB_ok (exF c 10 rfl)
  n_sum := He.free_ok X G (c.t.d.fact 49 rfl)
  n_abs := He.free_ok X G (c.t.d.fact 50 rfl)
  mk_Notes := He.mkr_ok (c.t.d.fact 51 rfl)
  g_Notes := He.glo_ok X G (c.t.d.fact 52 rfl)
  kp_Notes := He.keep_ok (c.t.d.fact 53 rfl)
  g_law_pool_of := He.glo_ok X G (c.t.d.fact 54 rfl)
  kp_law_pool_of := He.keep_ok (c.t.d.fact 55 rfl)
  g_law_names_of := He.glo_ok X G (c.t.d.fact 56 rfl)
  kp_law_names_of := He.keep_ok (c.t.d.fact 57 rfl)
  n_max := He.free_ok X G (c.t.d.fact 58 rfl)
  n_min := He.free_ok X G (c.t.d.fact 59 rfl)
  g_law_noted_of := He.glo_ok X G (c.t.d.fact 60 rfl)
  kp_law_noted_of := He.keep_ok (c.t.d.fact 61 rfl)
  g_law_fits := He.glo_ok X G (c.t.d.fact 62 rfl)
  kp_law_fits := He.keep_ok (c.t.d.fact 63 rfl)
end
end G

set_option Elab.async false
set_option linter.all false
set_option maxRecDepth 100000
set_option maxHeartbeats 0
namespace G
open PySem PySem.W PySem.Calls PyProof.Rows
abbrev ORow : OpenRow := OpenLaw.row PySem.Challenge.rw_addednames_k86_notes
abbrev qv : Program := view ORow.prog [23]
def names : List PySem.Str := ["NamesError", "BadPlace", "BadName", "LETTERS", "MOST_LETTERS", "is_name", "LENGTHS", "is_place", "Notes", "_law_pool_of", "_law_draw", "_law_pick", "_law_names_of", "_law_is_list", "_law_noted_of", "_law_at_of", "_law_listed", "_law_fits"]
abbrev hk : Hook := hookY 4 fa fn ts exB
def ob (s : SharedT) : He.AlX := obsY 4 fa fn ts exB (HandSHeadRun.getT s)
theorem ob_eq (s : SharedT) : ob s = hk.obs s.abs := obsY_eq (HandSHeadRun.getT_eq s)
open HandSHeadRun in
theorem run (w : World) : HandSHeadRun.RunEq ORow qv hk ob 3000 names w := byRow2 "special-get-raises" (P := fun w => HandSHeadRun.RunEq ORow qv hk ob 3000 names w) (fun w => by intro os; kernel_rfl) (fun w => by intro os; kernel_rfl) w
theorem law86 (plain : ∀ ns : List Int, ns.length ≤ 63 → ∃ h', F_law [.scr ns] [] = .ok (.bl true) h') : PySem.Challenge.rw_addednames_k86_notes.Holds := by
  w_on; o_law
  refine HandSHeadRun.head_any (r := OpenLaw.row PySem.Challenge.rw_addednames_k86_notes) (q := view (OpenLaw.row PySem.Challenge.rw_addednames_k86_notes).prog [23]) (H := hk) (ob := ob) (M := 3000) (loose := names) (d := HandSHeadRun.topDef (OpenLaw.row PySem.Challenge.rw_addednames_k86_notes).prog 23) (kwd := []) ob_eq
    (by kernel_rfl) (fun s => by kernel_rfl) run (by kernel_rfl) (by kernel_rfl) (by kernel_rfl) (by rfl) (by first | assumption | decide +kernel) (by decide +kernel) ⟨rfl, rfl, rfl, rfl, rfl, by decide +kernel⟩ ?hw ?hc
  case hw => w_witness2
  case hc =>
    refine G.walk_ofG (l := PySem.Challenge.rw_addednames_k86_notes) (n := 63) (k := 12) (x := "_law_script") rfl (by decide) (by kernel_rfl) ⟨rfl, by decide, by decide⟩ ?F
    intro w mg fa h Y Gn hmg0
    obtain ⟨K, KX, c⟩ := Y
    have hmg : mg ("law" : PySem.Str) = some (.ref fa) := by
      have e : (HandSHeadRun.topDef (OpenLaw.row PySem.Challenge.rw_addednames_k86_notes).prog 23).name = ("law" : PySem.Str) := by kernel_rfl
      rw [← e]
      exact hmg0
    have E := G.ev KX Gn c
    have e := hmg.symm.trans E.g_law
    cases e
    refine ⟨K, F_law, KX, plain, fun base _ _ => ?_⟩
    obtain ⟨fd, FO, hb, _, _⟩ := s_law (P := (PySem.Challenge.rw_addednames_k86_notes).prog) (base := base) E
    exact ⟨fd, FO, hb⟩
end G

set_option Elab.async false
set_option linter.all false
set_option maxRecDepth 100000
set_option maxHeartbeats 4000000
/-! P0: plain laws: loops, comprehensions, texts of data. -/
namespace G
open PySem PySem.Spec PyProof.Rows L2

theorem set_get {h : List D} {p : Nat} {c d : D} (hp : h[p]? = some c) : (h.set p d)[p]? = some d := by
  rw [List.getElem?_set_self (List.getElem?_eq_some_iff.mp hp).1]
theorem set_ne {h : List D} {p n : Nat} {d : D} (hp : p ≠ n) : (h.set p d)[n]? = h[n]? := List.getElem?_set_ne hp
theorem app_get {h t : List D} {n : Nat} {d : D} (hn : h[n]? = some d) : (h ++ t)[n]? = some d := by
  rw [List.getElem?_append_left (List.getElem?_eq_some_iff.mp hn).1]; exact hn
theorem set_same {h : List D} {n : Nat} {d : D} (hn : h[n]? = some d) : h.set n d = h := by
  obtain ⟨hl, e⟩ := List.getElem?_eq_some_iff.mp hn
  rw [← e]; exact List.set_getElem_self hl
theorem set_back {h : List D} {n : Nat} {c d : D} (hn : h[n]? = some d) : (h.set n c).set n d = h := by
  rw [List.set_set]; exact set_same hn

theorem sSeq_nx {a b : MS} {env env' : List Sl} {h h' : List D} (e : a env h = .nx env' h') : sSeq a b env h = b env' h' := by unfold sSeq; rw [e]
theorem sSeq_rt {a b : MS} {env : List Sl} {d : D} {h h' : List D} (e : a env h = .rt d h') : sSeq a b env h = .rt d h' := by unfold sSeq; rw [e]
theorem sSeq_exc {a b : MS} {env env' : List Sl} {c ns ds} {h h' : List D} (e : a env h = .exc c ns ds env' h') : sSeq a b env h = .exc c ns ds env' h' := by unfold sSeq; rw [e]
theorem cCall1 {f : D → List D → R D} {m : ME} {env : List Sl} {h h' : List D} {d : D} (e : m env h = .ok d h') : cCall (f1 f) (aCons m aNil) env h = f d h' := by unfold cCall aCons aNil; rw [e]; rfl
theorem iSeq_lst {m : ME} {env : List Sl} {h h' : List D} {xs : List D} (e : m env h = .ok (.lst xs) h') : iSeq m env h = .ok xs h' := by unfold iSeq; rw [e]; rfl
/-- a comprehension whose test and item leave the heap -/
theorem lcGo_filter {T : Asg} {tt : MT} {te : ME} {env : List Sl} {h : List D} {f : D → D} {b : D → Bool} : ∀ (items acc : List D), acc.length + items.length ≤ sizeLine →
    (∀ d ∈ items, ∃ env1, T env d = some env1 ∧ tt env1 h = .ok (b d) h ∧ (b d = true → te env1 h = .ok (f d) h)) → lcGo T tt te env items acc h = .ok (acc ++ (items.filter b).map f) h
  | [], acc, _, _ => by simp [lcGo]
  | d :: items, acc, hl, hs => by
    obtain ⟨env1, e1, e2, e3⟩ := hs d List.mem_cons_self
    have hl' : acc.length + (items.length + 1) ≤ sizeLine := by simpa using hl
    unfold lcGo
    rw [e1]
    dsimp only
    rw [e2]
    cases hb : b d with
    | false =>
      have ih := lcGo_filter (T := T) (tt := tt) (te := te) (env := env) (h := h) (f := f) (b := b) items acc (by omega) (fun x hx => hs x (List.mem_cons_of_mem _ hx))
      simp only [R.noexc, R.bind_ok]
      rw [ih, List.filter_cons_of_neg (by rw [hb]; decide)]
    | true =>
      have ih := lcGo_filter (T := T) (tt := tt) (te := te) (env := env) (h := h) (f := f) (b := b) items (acc ++ [f d]) (by simp; omega) (fun x hx => hs x (List.mem_cons_of_mem _ hx))
      simp only [R.noexc, R.bind_ok]
      rw [e3 hb]
      simp only [R.bind_ok]
      rw [decide_eq_true (show acc.length < sizeLine by omega), cond_true, ih, List.filter_cons_of_pos hb]
      simp
theorem lcGo_map {T : Asg} {te : ME} {env : List Sl} {h : List D} {f : D → D} (items : List D) (hl : items.length ≤ sizeLine)
    (hs : ∀ d ∈ items, ∃ env1, T env d = some env1 ∧ te env1 h = .ok (f d) h) : lcGo T mYes te env items [] h = .ok (items.map f) h := by
  have := lcGo_filter (T := T) (tt := mYes) (te := te) (env := env) (h := h) (f := f) (b := fun _ => true) items [] (by simpa using hl) (fun d hd => by
    obtain ⟨env1, e1, e2⟩ := hs d hd
    exact ⟨env1, e1, rfl, fun _ => e2⟩)
  rw [this]
  have e : items.filter (fun _ => true) = items := List.filter_eq_self.mpr (fun _ _ => rfl)
  rw [e]; simp
/-- a loop by its invariant -/
theorem forGo_inv {T : Asg} {m : MS} {I : Nat → List Sl → List D → Prop} : ∀ (items : List D) (i : Nat) (env : List Sl) (h : List D), I i env h →
    (∀ j d env h, items[j]? = some d → I (i + j) env h → ∃ env1 env' h', T env d = some env1 ∧ (m env1 h = .nx env' h' ∨ m env1 h = .ct env' h') ∧ I (i + j + 1) env' h') →
    ∃ env' h', forGo T m items env h = .nx env' h' ∧ I (i + items.length) env' h'
  | [], i, env, h, hi, _ => ⟨env, h, rfl, hi⟩
  | d :: items, i, env, h, hi, hs => by
    obtain ⟨env1, env', h', e1, e2, e3⟩ := hs 0 d env h rfl hi
    obtain ⟨env2, h2, e4, e5⟩ := forGo_inv (T := T) (m := m) (I := I) items (i + 1) env' h' e3 (fun j d env h hj hI => by
      have e : i + (j + 1) = i + 1 + j := by omega
      have := hs (j + 1) d env h (by simpa using hj) (by rw [e]; exact hI)
      rw [e] at this; exact this)
    refine ⟨env2, h2, ?_, ?_⟩
    · unfold forGo
      rw [e1]
      dsimp only
      rcases e2 with e2 | e2 <;> (rw [e2]; exact e4)
    · have e : i + (d :: items).length = i + 1 + items.length := by simp; omega
      rw [e]; exact e5

/-! ### data as texts -/
def FW (n W : Nat) (p : PyData) : Bool := p.canLay0 && (decide (p.depth ≤ n) && (decide (p.weight ≤ W) && (p.intsShort 13 && p.showable)))
theorem FW.mono {n W n' W' : Nat} {p : PyData} (f : FW n W p = true) (h1 : n ≤ n') (h2 : W ≤ W') : FW n' W' p = true := by
  simp only [FW, Bool.and_eq_true, decide_eq_true_eq] at f ⊢
  exact ⟨f.1, by omega, by omega, f.2.2.2⟩
theorem FWs {n W : Nat} : ∀ {ps : List PyData}, (∀ p ∈ ps, FW n W p = true) → PyData.canLayAll0 ps = true ∧ PyData.depthAll ps ≤ n ∧ PyData.weightAll ps ≤ ps.length * (W + 1) ∧ PyData.intsShortAll 13 ps = true ∧ PyData.showableAll ps = true
  | [], _ => by simp [PyData.canLayAll0, PyData.depthAll, PyData.weightAll, PyData.intsShortAll, PyData.showableAll]
  | p :: ps, h => by
    obtain ⟨h1, h2, h3, h4, h5⟩ := FWs (ps := ps) (fun q hq => h q (List.mem_cons_of_mem _ hq))
    have hp := h p List.mem_cons_self
    simp only [FW, Bool.and_eq_true, decide_eq_true_eq] at hp
    refine ⟨by simp [PyData.canLayAll0, hp.1, h1], by simp only [PyData.depthAll]; omega, ?_, by simp [PyData.intsShortAll, hp.2.2.2.1, h4], by simp [PyData.showableAll, hp.2.2.2.2, h5]⟩
    simp only [PyData.weightAll, List.length_cons]
    have : (ps.length + 1) * (W + 1) = ps.length * (W + 1) + (W + 1) := by rw [Nat.add_mul, Nat.one_mul]
    omega
theorem FW_list {n W m : Nat} {ps : List PyData} (h : ∀ p ∈ ps, FW n W p = true) (hm : ps.length ≤ m) : FW (n + 1) (m * (W + 1)) (.list ps) = true := by
  obtain ⟨h1, h2, h3, h4, h5⟩ := FWs h
  have : ps.length * (W + 1) ≤ m * (W + 1) := Nat.mul_le_mul_right _ hm
  have e1 : PyData.canLay0 (.list ps) = true := by rw [PyData.canLay0]; exact h1
  have e2 : PyData.depth (.list ps) ≤ n + 1 := by rw [PyData.depth]; omega
  have e3 : PyData.weight (.list ps) ≤ m * (W + 1) := by rw [PyData.weight]; omega
  have e4 : PyData.intsShort 13 (.list ps) = true := by rw [PyData.intsShort]; exact h4
  have e5 : PyData.showable (.list ps) = true := by rw [PyData.showable]; exact h5
  unfold FW
  rw [e1, decide_eq_true e2, decide_eq_true e3, e4, e5]
  rfl
theorem FW_tuple {n W m : Nat} {ps : List PyData} (h : ∀ p ∈ ps, FW n W p = true) (hm : ps.length ≤ m) : FW (n + 1) (m * (W + 1)) (.tuple ps) = true := by
  obtain ⟨h1, h2, h3, h4, h5⟩ := FWs h
  have : ps.length * (W + 1) ≤ m * (W + 1) := Nat.mul_le_mul_right _ hm
  have e1 : PyData.canLay0 (.tuple ps) = true := by rw [PyData.canLay0]; exact h1
  have e2 : PyData.depth (.tuple ps) ≤ n + 1 := by rw [PyData.depth]; omega
  have e3 : PyData.weight (.tuple ps) ≤ m * (W + 1) := by rw [PyData.weight]; omega
  have e4 : PyData.intsShort 13 (.tuple ps) = true := by rw [PyData.intsShort]; exact h4
  have e5 : PyData.showable (.tuple ps) = true := by rw [PyData.showable]; exact h5
  unfold FW
  rw [e1, decide_eq_true e2, decide_eq_true e3, e4, e5]
  rfl
theorem FW_str {x : Str} {W : Nat} (h1 : PyData.strOk x = true) (h2 : x.length ≤ W) : FW 0 W (.str x) = true := by
  have e1 : PyData.canLay0 (.str x) = true := by rw [PyData.canLay0]; exact h1
  have e2 : PyData.depth (.str x) ≤ 0 := by rw [PyData.depth]; omega
  have e3 : PyData.weight (.str x) ≤ W := by rw [PyData.weight]; exact h2
  have e4 : PyData.intsShort 13 (.str x) = true := by rw [PyData.intsShort]
  have e5 : PyData.showable (.str x) = true := by rw [PyData.showable]
  unfold FW
  rw [e1, decide_eq_true e2, decide_eq_true e3, e4, e5]
  rfl
theorem FW_shown {n W : Nat} {p : PyData} (f : FW n W p = true) (hn : n ≤ 60) (hW : W ≤ 1048576) : p.showable = true ∧ p.hasDict = false ∧ p.depth ≤ 60 ∧ p.shown.length ≤ sizeLine ∧ SeqAt.shaped p = true := by
  simp only [FW, Bool.and_eq_true, decide_eq_true_eq] at f
  have hl : PyData.layable0 p = true := by
    show (PyData.canLay0 p && decide (PyData.depth p ≤ 64) && decide (PyData.weight p ≤ 2 ^ 20)) = true
    simp only [Bool.and_eq_true, decide_eq_true_eq]
    exact ⟨⟨f.1, by omega⟩, by have : (2:Nat) ^ 20 = 1048576 := by decide
                               omega⟩
  have := shown_le13 hl f.2.2.2.1
  exact ⟨f.2.2.2.2, PyData.hasDict_of_canLay p f.1, by omega, by have : sizeLine = 16777216 := by decide
                                                                 omega, SeqAt.shaped_of_layable hl⟩
theorem repr_ok {h : List D} {d : D} {p : PyData} {n W : Nat} (e : toPy pyF h d = some p) (f : FW n W p = true) (hn : n ≤ 60) (hW : W ≤ 1048576) : reprD d h = .ok (.str p.shown) h := by
  obtain ⟨h1, h2, h3, h4, _⟩ := FW_shown f hn hW
  unfold reprD
  rw [e]
  dsimp only
  rw [h1, h2, decide_eq_true h3, decide_eq_true h4]
  rfl
theorem eqD_ok {neg : Bool} {h : List D} {x y : D} {p q : PyData} {n W n' W' : Nat} (e : toPy pyF h x = some p) (e' : toPy pyF h y = some q) (f : FW n W p = true) (f' : FW n' W' q = true) (hn : n ≤ 60) (hW : W ≤ 1048576) (hn' : n' ≤ 60) (hW' : W' ≤ 1048576) :
    oEqD neg x y h = .ok (.bl (if neg then !PyData.eqv p q else PyData.eqv p q)) h := by
  obtain ⟨_, _, _, _, h1⟩ := FW_shown f hn hW
  obtain ⟨_, _, _, _, h2⟩ := FW_shown f' hn' hW'
  unfold oEqD
  rw [e, e']
  dsimp only
  rw [h1, h2]
  rfl
mutual
theorem eqv_refl : ∀ p : PyData, p.canLay0 = true → PyData.eqv p p = true
  | .none, _ => by simp [PyData.eqv]
  | .bool b, _ => by simp [PyData.eqv]
  | .int i, _ => by simp [PyData.eqv]
  | .str x, _ => by simp [PyData.eqv]
  | .list xs, h => by
    rw [PyData.eqv]
    exact eqvAll_refl xs (by simpa [PyData.canLay0] using h)
  | .tuple xs, h => by
    rw [PyData.eqv]
    exact eqvAll_refl xs (by simpa [PyData.canLay0] using h)
  | .dict kvs, h => by simp [PyData.canLay0] at h
theorem eqvAll_refl : ∀ ps : List PyData, PyData.canLayAll0 ps = true → PyData.eqvAll ps ps = true
  | [], _ => by simp [PyData.eqvAll]
  | p :: ps, h => by
    simp only [PyData.canLayAll0, Bool.and_eq_true] at h
    rw [PyData.eqvAll, eqv_refl p h.1, eqvAll_refl ps h.2]
    rfl
end
theorem FW.lay {n W : Nat} {p : PyData} (f : FW n W p = true) : p.canLay0 = true := by
  simp only [FW, Bool.and_eq_true] at f
  exact f.1
/-- a data's text whatever the heap is -/
def Py (n : Nat) (d : D) (p : PyData) : Prop := ∀ (h : List D) (f : Nat), n ≤ f → toPy f h d = some p
theorem Py.mono {n m : Nat} {d : D} {p : PyData} (k : Py n d p) (hm : n ≤ m) : Py m d p := fun h f hf => k h f (by omega)
theorem py_non : Py 1 .non .none := fun h f hf => by cases f with | zero => omega | succ f => rw [toPy]
theorem py_bl {b} : Py 1 (.bl b) (.bool b) := fun h f hf => by cases f with | zero => omega | succ f => rw [toPy]
theorem py_int {i} : Py 1 (.int i) (.int i) := fun h f hf => by cases f with | zero => omega | succ f => rw [toPy]
theorem py_str {x} : Py 1 (.str x) (.str x) := fun h f hf => by cases f with | zero => omega | succ f => rw [toPy]
theorem pyL {n : Nat} : ∀ {ds : List D} {ps : List PyData}, ds.length = ps.length → (∀ (i : Nat) (d : D) (p : PyData), ds[i]? = some d → ps[i]? = some p → Py n d p) → ∀ (h : List D) (f : Nat), n + ds.length + 1 ≤ f → toPyL f h ds = some ps
  | [], [], _, _, h, f, hf => by cases f with | zero => omega | succ f => rw [toPyL]
  | d :: ds, p :: ps, hl, hs, h, f, hf => by
    cases f with
    | zero => omega
    | succ f =>
      simp only [List.length_cons] at hf
      rw [toPyL, hs 0 d p rfl rfl h f (by omega)]
      dsimp only
      rw [pyL (n := n) (ds := ds) (ps := ps) (by simpa using hl) (fun i d p h1 h2 => hs (i + 1) d p (by simpa using h1) (by simpa using h2)) h f (by omega)]
      rfl
theorem py_tup {n : Nat} {ds : List D} {ps : List PyData} (hl : ds.length = ps.length) (hs : ∀ (i : Nat) (d : D) (p : PyData), ds[i]? = some d → ps[i]? = some p → Py n d p) : Py (n + ds.length + 2) (.tup ds) (.tuple ps) := fun h f hf => by
  cases f with
  | zero => omega
  | succ f => rw [toPy, pyL hl hs h f (by omega)]; rfl
theorem py_lst {n : Nat} {ds : List D} {ps : List PyData} (hl : ds.length = ps.length) (hs : ∀ (i : Nat) (d : D) (p : PyData), ds[i]? = some d → ps[i]? = some p → Py n d p) : Py (n + ds.length + 2) (.lst ds) (.list ps) := fun h f hf => by
  cases f with
  | zero => omega
  | succ f => rw [toPy, pyL hl hs h f (by omega)]; rfl
theorem py_loc {n : Nat} {ds : List D} {ps : List PyData} (hl : ds.length = ps.length) (hs : ∀ (i : Nat) (d : D) (p : PyData), ds[i]? = some d → ps[i]? = some p → Py n d p) {h : List D} {k : Nat} (hk : h[k]? = some (.lst ds)) {f : Nat} (hf : n + ds.length + 2 ≤ f) : toPy f h (.loc k) = some (.list ps) := by
  cases f with
  | zero => omega
  | succ f =>
    rw [toPy, hk]
    dsimp only
    rw [pyL hl hs h f (by omega)]; rfl
theorem py_strs {xs : List Str} : ∀ (i : Nat) (d : D) (p : PyData), (xs.map D.str)[i]? = some d → (xs.map PyData.str)[i]? = some p → Py 1 d p := fun i d p h1 h2 => by
  rw [List.getElem?_map] at h1 h2
  cases e : xs[i]? with
  | none => rw [e] at h1; cases h1
  | some x => rw [e] at h1 h2; cases h1; cases h2; exact py_str
end G

set_option Elab.async false
set_option linter.all false
set_option maxRecDepth 100000
set_option maxHeartbeats 4000000
/-! P86a: the plain law of k86, from the draws on. -/
namespace G
open PySem PySem.Spec PyProof.Rows L2

/-- a pool -/
def Pool (h : List D) (p : Nat) : Prop := ∃ a b : Int, h[p]? = some (.lst [.int a, .int b]) ∧ 0 ≤ a ∧ 0 ≤ b ∧ b < 2147483647
theorem draw_ok {h : List D} {p : Nat} {many : Int} (P : Pool h p) (h1 : 0 < many) (h2 : many < 1073741824) :
    ∃ r c, F_law_draw [.loc p, .int many] h = .ok (.int r) (h.set p c) ∧ 0 ≤ r ∧ r < many ∧ Pool (h.set p c) p := by
  obtain ⟨a, b, hp, ha, hb, hb2⟩ := P
  by_cases h0 : 0 < a
  · refine ⟨a % many, .lst [.int (a / many), .int b], ?_, Int.emod_nonneg _ (by omega), Int.emod_lt_of_pos _ h1, a / many, b, set_get hp, Int.ediv_nonneg ha (by omega), hb, hb2⟩
    simp [F_law_draw, runF, m_law_draw, sSeq, sIf, cB, c2, cVar, cC, oGt, oI, oIx, dicOf, seqOf, lstOf, tupOf, atI, ixN, R.bind, R.thenS, hp, h0, sSet, cCall, f1, intD, aCons, aNil, oMod, oDiv, cDiv, h1, h2, sSub, sRet, RS.toR, List.replicate, List.set]
  · have e : a = 0 := by omega
    subst e
    have hb' : 0 ≤ (b * 48271 + 11) % 2147483647 := Int.emod_nonneg _ (by omega)
    have hb'' : (b * 48271 + 11) % 2147483647 < 2147483647 := Int.emod_lt_of_pos _ (by omega)
    generalize hB : (b * 48271 + 11) % 2147483647 = B at hb' hb''
    refine ⟨(B * B % 2147483629 / 16) % many, .lst [.int 0, .int B], ?_, Int.emod_nonneg _ (by omega), Int.emod_lt_of_pos _ h1, 0, B, set_get hp, by omega, hb', hb''⟩
    have hs : (h.set p (.lst [.int 0, .int B]))[p]? = some (.lst [.int 0, .int B]) := set_get hp
    have c1 : cMul b 48271 = true := by simp only [cMul, Bool.or_eq_true, Bool.and_eq_true, decide_eq_true_eq]; omega
    have c2' : cMul B B = true := by simp only [cMul, Bool.or_eq_true, Bool.and_eq_true, decide_eq_true_eq]; omega
    simp [F_law_draw, runF, m_law_draw, sSeq, sIf, cB, c2, cVar, cC, oGt, oI, oIx, dicOf, seqOf, lstOf, tupOf, atI, ixN, R.bind, R.thenS, hp, hs, sSet, cCall, f1, intD, aCons, aNil, oMod, oDiv, oMul, oPlus, c1, c2', cDiv, h1, h2, sSub, sRet, RS.toR, List.replicate, List.set, hB, sNil]
/-- a row's item by a draw -/
theorem pick_ok {h : List D} {p : Nat} {row : List D} (P : Pool h p) (h1 : 0 < row.length) (h2 : row.length < 1073741824) :
    ∃ (j : Nat) (x : D) (c : D), row[j]? = some x ∧ F_law_pick [.loc p, .lst row] h = .ok x (h.set p c) ∧ Pool (h.set p c) p := by
  obtain ⟨r, c, e, r0, r1, P'⟩ := draw_ok (many := row.length) P (by omega) (by omega)
  have hj : r.toNat < row.length := by omega
  refine ⟨r.toNat, row[r.toNat], c, List.getElem?_eq_getElem hj, ?_, P'⟩
  have ha : atI row r = some row[r.toNat] := by
    unfold atI ixN
    rw [if_pos r0, if_pos r1]
    exact List.getElem?_eq_getElem hj
  simp [F_law_pick, runF, m_law_pick, sRet, c2, cVar, cCall, aCons, aNil, f1, lenD, dicOf, seqOf, lstOf, R.bind, R.thenS, RS.toR, List.replicate, e, oIx, ha]
theorem intsOf_map : ∀ ns : List Int, intsOf (ns.map .int) = some ns
  | [] => rfl
  | n :: ns => by rw [List.map_cons]; unfold intsOf; rw [intsOf_map ns]; rfl
theorem cutD_ints (ns : List Int) (lo hi : Option Int) : ∃ ms : List Int, cutD (ns.map .int) lo hi = ms.map .int := by
  unfold cutD
  rw [← List.map_drop, ← List.map_take]
  exact ⟨_, rfl⟩
theorem atI_map {ns : List Int} {k : Int} (h0 : 0 ≤ k) (h1 : k < ns.length) : ∃ x : Int, atI (ns.map D.int) k = some (.int x) := by
  have hk : k.toNat < ns.length := by omega
  refine ⟨ns[k.toNat], ?_⟩
  unfold atI ixN
  rw [List.length_map, if_pos h0, if_pos h1, Option.bind_some, List.getElem?_map, List.getElem?_eq_getElem hk]
  rfl
/-- a new pool -/
theorem pool_ok {ns : List Int} {k : Int} {h : List D} (k0 : 0 ≤ k) (k1 : k < 64) : ∃ c, F_law_pool_of [.scr ns, .int k] h = .ok (.loc h.length) (h ++ [c]) ∧ Pool (h ++ [c]) h.length := by
  have cell : ∃ x : Int, (cIf (cB (c2 oLt (cVar 1) (cCall (f1 lenD) (aCons (cVar 0) (aNil))))) (c2 oIx (cVar 0) (cVar 1)) (c2 oPlus (c2 oMul (cC (.int 7)) (cCall (f1 sumD) (aCons (cSl (cVar 0) (oNone) (oSome (cC (.int 63)))) (aNil)))) (cVar 1))) [.v (.scr ns), .v (.int k), .u, .u, .u] h = .ok (.int x) h := by
    by_cases hk : k < ns.length
    · obtain ⟨x, hx⟩ := atI_map k0 hk
      refine ⟨x, ?_⟩
      simp [cIf, cB, c2, oLt, oI, cVar, cCall, aCons, aNil, f1, lenD, dicOf, seqOf, lstOf, R.bind, hk, oIx, hx]
    · obtain ⟨ms, hm⟩ := cutD_ints ns none (some 63)
      refine ⟨7 * ms.sum + k, ?_⟩
      have c1 : cMul 7 ms.sum = true := by simp [cMul]
      simp [cIf, cB, c2, oLt, oI, cVar, cC, cCall, aCons, aNil, f1, lenD, dicOf, seqOf, lstOf, R.bind, hk, oMul, c1, oPlus, cSl, oNone, oSome, oSl, hm, sumD, intsOf_map]
  obtain ⟨x, hx⟩ := cell
  generalize hz : (if x < 0 then -x else x) = z
  have z0 : 0 ≤ z := by rw [← hz]; split <;> omega
  have p1 : cMul 7919 k = true := by simp only [cMul, Bool.or_eq_true, Bool.and_eq_true, decide_eq_true_eq]; omega
  have p2 : cMul (7919 * k) k = true := by simp only [cMul, Bool.or_eq_true, Bool.and_eq_true, decide_eq_true_eq]; omega
  have p3 : cMul 31 k = true := by simp only [cMul, Bool.or_eq_true, Bool.and_eq_true, decide_eq_true_eq]; omega
  generalize hm : z % 2147483629 + 7919 * k * k + 31 * k + 17 = m
  have p4 : cMul m 48271 = true := by simp only [cMul, Bool.or_eq_true, Bool.and_eq_true, decide_eq_true_eq]; omega
  have b0 : 0 ≤ m * 48271 % 2147483647 := Int.emod_nonneg _ (by omega)
  have b1 : m * 48271 % 2147483647 < 2147483647 := Int.emod_lt_of_pos _ (by omega)
  generalize hb : m * 48271 % 2147483647 = b at b0 b1
  have p5 : cMul b b = true := by simp only [cMul, Bool.or_eq_true, Bool.and_eq_true, decide_eq_true_eq]; omega
  have p6 : cPow 10 18 = true := by decide
  have d0 : 0 ≤ b * b % 2147483629 := Int.emod_nonneg _ (by omega)
  have d1 : b * b % 2147483629 < 2147483629 := Int.emod_lt_of_pos _ (by omega)
  by_cases hbig : (1000000000000000000 : Int) ≤ z
  · have p7 : cMul z 1 = true := by simp [cMul]
    refine ⟨.lst [.int z, .int (b * b % 2147483629)], ?_, z, b * b % 2147483629, by simp, z0, d0, by omega⟩
    show (m_law_pool_of [.v (.scr ns), .v (.int k), .u, .u, .u] h).toR = _
    simp only [m_law_pool_of, sSeq, sSet, R.thenS, hx]
    simp [R.bind, cCall, aCons, aNil, cVar, f1, absD, hz, c2, oPlus, oMod, oI, intD, cC, oMul, p1, p2, p3, hm, p4, hb, sRet, cLstN, oGe, oPow, p6, p5, hbig, p7, RS.toR, R.thenS, sizeLine_eq]
  · have p7 : cMul z 0 = true := by simp [cMul]
    refine ⟨.lst [.int 0, .int (b * b % 2147483629)], ?_, 0, b * b % 2147483629, by simp, by omega, d0, by omega⟩
    show (m_law_pool_of [.v (.scr ns), .v (.int k), .u, .u, .u] h).toR = _
    simp only [m_law_pool_of, sSeq, sSet, R.thenS, hx]
    simp [R.bind, cCall, aCons, aNil, cVar, f1, absD, hz, c2, oPlus, oMod, oI, intD, cC, oMul, p1, p2, p3, hm, p4, hb, sRet, cLstN, oGe, oPow, p6, p5, hbig, p7, RS.toR, R.thenS, sizeLine_eq]
end G

set_option Elab.async false
set_option linter.all false
set_option maxRecDepth 100000
set_option maxHeartbeats 4000000
/-! P86b: the plain law of k86: names and places. -/
namespace G
open PySem PySem.Spec PyProof.Rows L2

def LET : Str := "abcdefghijklmnopqrstuvwxyz"
/-- is_name, of a text -/
def nmB (s : Str) : Bool := decide (1 ≤ s.length) && (decide (s.length ≤ 8) && (s.cps.toList.map fun c => inS ⟨#[c]⟩ LET).all id)
theorem lc_signs {h : List D} {env : List Sl} (he : env.length = 2) : ∀ (cs : List Nat) (acc : List D), acc.length + cs.length ≤ sizeLine →
    lcGo (gN 1) mYes (c2 (oIn false) (cVar 1) (cC (.str LET))) env (cs.map fun c => .str ⟨#[c]⟩) acc h = .ok (acc ++ cs.map fun c => .bl (inS ⟨#[c]⟩ LET)) h
  | [], acc, _ => by simp [lcGo]
  | c :: cs, acc, hl => by
    have hl' : acc.length + (cs.length + 1) ≤ sizeLine := by simpa using hl
    have ih := lc_signs (h := h) he cs (acc ++ [.bl (inS ⟨#[c]⟩ LET)]) (by simp; omega)
    rw [List.map_cons]
    unfold lcGo
    have e : (env.set 1 (.v (.str ⟨#[c]⟩)))[1]? = some (.v (.str ⟨#[c]⟩)) := List.getElem?_set_self (by omega)
    have hlt : acc.length < sizeLine := by omega
    simp [gN, mYes, R.bind, R.noexc, c2, cVar, cC, oIn, e, hlt]
    rw [ih]
    simp
theorem blsOf_map : ∀ bs : List Bool, blsOf (bs.map .bl) = some bs
  | [] => rfl
  | b :: bs => by rw [List.map_cons]; unfold blsOf; rw [blsOf_map bs]; rfl
theorem is_name_str {s : Str} {h : List D} (hs : s.length ≤ sizeLine) : F_is_name [.str s] h = .ok (.bl (nmB s)) h := by
  have hl : s.cps.toList.length ≤ sizeLine := by simpa [Str.length] using hs
  have q := lc_signs (h := h) (env := [.v (.str s), .u]) rfl s.cps.toList [] (by simpa using hl)
  have hlet : LET = "abcdefghijklmnopqrstuvwxyz" := rfl
  have w : wipeE [.v (.str s), .u] [1] = [.v (.str s), .u] := rfl
  show (m_is_name [.v (.str s), .u] h).toR = _
  have comp : cLc (iText (cVar 0)) (gN 1) (mYes) (c2 (oIn false) (cVar 1) (cC (.str "abcdefghijklmnopqrstuvwxyz"))) [1] [.v (.str s), .u] h = .ok (.lst ((s.cps.toList.map fun c => inS ⟨#[c]⟩ LET).map .bl)) h := by
    unfold cLc aLc iText
    simp only [cVar, List.getElem?_cons_zero, R.bind, noX, List.all_cons, List.all_nil, Sl.noX, Bool.and_self, cond_true, w]
    rw [← hlet, q]
    simp [List.map_map, Function.comp_def]
  have ty : ty_str.lookup "str" = some true := by decide
  unfold nmB
  generalize (s.cps.toList.map fun c => inS ⟨#[c]⟩ LET) = bs at comp ⊢
  by_cases h1 : 1 ≤ s.length
  · have h1' : (1 : Int) ≤ (s.length : Int) := by omega
    by_cases h2 : s.length ≤ 8
    · have h2' : (s.length : Int) ≤ 8 := by omega
      simp [m_is_name, sRet, cAndV, cIsi, cVar, R.bind, tyD, ty, cChain, cC, cCall, aCons, aNil, f1, lenD, hs, oLe, oI, h1', h2', R.thenS, RS.toR, h1, h2, comp, allD, lstOf, blsOf_map]
    · have h2' : ¬ (s.length : Int) ≤ 8 := by omega
      simp [m_is_name, sRet, cAndV, cIsi, cVar, R.bind, tyD, ty, cChain, cC, cCall, aCons, aNil, f1, lenD, hs, oLe, oI, h1', h2', R.thenS, RS.toR, h1, h2]
  · have h1' : ¬ (1 : Int) ≤ (s.length : Int) := by omega
    simp [m_is_name, sRet, cAndV, cIsi, cVar, R.bind, tyD, ty, cChain, cC, cCall, aCons, aNil, f1, lenD, hs, oLe, oI, h1', R.thenS, RS.toR, h1]
/-- is_name, of what is no text -/
theorem is_name_no {d : D} {h : List D} {t : String} (ht : tyD h d = some t) (hs : ty_str.lookup t = some false) : F_is_name [d] h = .ok (.bl false) h := by
  show (m_is_name [.v d, .u] h).toR = _
  simp [m_is_name, sRet, cAndV, cIsi, cVar, R.bind, ht, hs, R.thenS, RS.toR]
/-! ### places -/
theorem tbl_get (x : Str) (z : D) : ((tb_LENGTHS.map fun q => (q.1, q.2.d)).lookup x).getD z = if x = "name" then .int 3 else if x = "member" then .int 3 else if x = "spread" then .int 4 else z := by
  simp only [tb_LENGTHS, List.map, List.lookup_cons, List.lookup_nil, Dc.d]
  by_cases h1 : x = "name"
  · subst h1; rfl
  · have e1 : (x == ("name" : Str)) = false := by simpa using h1
    rw [e1, if_neg h1]
    by_cases h2 : x = "member"
    · subst h2; rfl
    · have e2 : (x == ("member" : Str)) = false := by simpa using h2
      rw [e2, if_neg h2]
      by_cases h3 : x = "spread"
      · subst h3; rfl
      · have e3 : (x == ("spread" : Str)) = false := by simpa using h3
        rw [e3, if_neg h3]
        rfl
/-- the names of a place, judged -/
theorem lc_names {h : List D} {env : List Sl} (he : env.length = 2) : ∀ (xs : List Str) (acc : List D), (∀ x ∈ xs, x.length ≤ sizeLine) → acc.length + xs.length ≤ sizeLine →
    lcGo (gN 1) mYes (cCall F_is_name (aCons (cVar 1) aNil)) env (xs.map .str) acc h = .ok (acc ++ xs.map fun x => .bl (nmB x)) h
  | [], acc, _, _ => by simp [lcGo]
  | x :: xs, acc, hx, hl => by
    have hl' : acc.length + (xs.length + 1) ≤ sizeLine := by simpa using hl
    have ih := lc_names (h := h) he xs (acc ++ [.bl (nmB x)]) (fun y hy => hx y (List.mem_cons_of_mem _ hy)) (by simp; omega)
    rw [List.map_cons]
    unfold lcGo
    have e : (env.set 1 (.v (.str x)))[1]? = some (.v (.str x)) := List.getElem?_set_self (by omega)
    have hlt : acc.length < sizeLine := by omega
    have n := is_name_str (s := x) (h := h) (hx x List.mem_cons_self)
    simp [gN, mYes, R.bind, R.noexc, cCall, aCons, aNil, cVar, e, hlt, n]
    rw [ih]
    simp
end G

set_option Elab.async false
set_option linter.all false
set_option maxRecDepth 100000
set_option maxHeartbeats 4000000
/-! P86c: the plain law of k86: places, notes. -/
namespace G
open PySem PySem.Spec PyProof.Rows L2

/-- a name that may come -/
def Nm (x : Str) : Bool := nmB x && (PyData.strOk x && (decide (x.length ≤ 40) && (PyData.strOk (reprText x) && decide ((reprText x).length ≤ 100))))
theorem Nm.len {x : Str} (h : Nm x = true) : x.length ≤ sizeLine := by
  simp only [Nm, Bool.and_eq_true, decide_eq_true_eq] at h
  have : sizeLine = 16777216 := by decide
  omega
theorem Nm.fw {x : Str} (h : Nm x = true) : FW 0 40 (.str x) = true := by
  simp only [Nm, Bool.and_eq_true, decide_eq_true_eq] at h
  exact FW_str h.2.1 h.2.2.1
theorem Nm.nm {x : Str} (h : Nm x = true) : nmB x = true := by
  simp only [Nm, Bool.and_eq_true] at h
  exact h.1
/-- the length that a first word asks -/
def wordLen (w : Str) : Int := if w = "name" then 3 else if w = "member" then 3 else if w = "spread" then 4 else 0
theorem is_place_tup {h : List D} (w : Str) (xs : List Str) (hw : xs.length ≤ 20) (hx : ∀ x ∈ xs, x.length ≤ sizeLine) :
    F_is_place [.tup (.str w :: xs.map .str)] h = .ok (.bl (decide (wordLen w = xs.length + 1) && xs.all nmB)) h := by
  have hz : sizeLine = 16777216 := by decide
  have t1 : ty_tuple.lookup "tuple" = some true := by decide
  have t2 : ty_str.lookup "str" = some true := by decide
  have cl : cLc (iTupD (cSl (cVar 0) (oSome (cC (.int 1))) (oNone))) (gN 1) (mYes) (cCall F_is_name (aCons (cVar 1) (aNil))) [1] [.v (.tup (.str w :: xs.map .str)), .u] h = .ok (.lst (xs.map fun x => .bl (nmB x))) h := by
    have q := lc_names (h := h) (env := [.v (.tup (.str w :: xs.map .str)), .u]) rfl xs [] hx (by simp; omega)
    unfold cLc aLc iTupD cSl
    have cut : cutD (D.str w :: xs.map D.str) (some 1) none = xs.map D.str := by
      unfold cutD
      have e1 : HT.sIx (D.str w :: xs.map D.str).length 0 (some 1) = 1 := by
        unfold HT.sIx; simp <;> omega
      have e2 : HT.sIx (D.str w :: xs.map D.str).length (D.str w :: xs.map D.str).length none = xs.length + 1 := by
        unfold HT.sIx; simp
      rw [e1, e2]
      have e3 : (xs.map D.str).length = xs.length := List.length_map _
      simp only [Nat.add_sub_cancel, List.drop_succ_cons, List.drop_zero]
      rw [← e3]
      exact List.take_length
    simp only [cVar, List.getElem?_cons_zero, R.bind_ok, oSome, cC, oNone, oSl, lstOf, tupOf, cut, noX, List.all_cons, List.all_nil, Sl.noX, Bool.and_self, cond_true]
    show (lcGo (gN 1) mYes (cCall F_is_name (aCons (cVar 1) aNil)) [.v (.tup (.str w :: xs.map .str)), .u] (xs.map .str) [] h).bind _ = _
    rw [q]
    simp
  show (m_is_place [.v (.tup (.str w :: xs.map .str)), .u] h).toR = _
  have at0 : atI (D.str w :: xs.map D.str) 0 = some (.str w) := by unfold atI ixN; simp
  have tg : ((tb_LENGTHS.map fun q => (q.1, q.2.d)).lookup w).getD (.int 0) = .int (wordLen w) := by
    rw [tbl_get]
    unfold wordLen
    split
    · rfl
    · split
      · rfl
      · split <;> rfl
  have ne0 : ¬ ((xs.length : Int) + 1 = 0) := by omega
  have head : sIf (cOr (cNot (cB (cIsi ty_tuple (cVar 0)))) (cOr (cB (c2 (oEq false) (cCall (f1 lenD) (aCons (cVar 0) (aNil))) (cC (.int 0)))) (cNot (cB (cIsi ty_str (c2 oIx (cVar 0) (cC (.int 0)))))))) (sRet (cC (.bl false))) sNil [.v (.tup (.str w :: xs.map .str)), .u] h = .nx [.v (.tup (.str w :: xs.map .str)), .u] h := by
    simp [sIf, cOr, cNot, cB, cIsi, cVar, tyD, t1, c2, cCall, aCons, aNil, f1, lenD, dicOf, seqOf, lstOf, tupOf, cC, oEq, ne0, oIx, at0, t2, sNil]
  unfold m_is_place
  rw [sSeq_nx head]
  unfold sRet cAndV
  simp only [c2, cGetK, cVar, List.getElem?_cons_zero, R.bind_ok, cC, oIx, dicOf, seqOf, lstOf, tupOf, at0, tg, cCall, aCons, aNil, f1, lenD, List.length_cons, List.length_map, oEq]
  by_cases hc : wordLen w = xs.length + 1
  · have hc' : (decide (wordLen w = ((xs.length + 1 : Nat) : Int))) = true := by simpa using hc
    simp only [hc', Bool.false_eq_true, if_false, R.bind_ok]
    rw [cl]
    have b : blsOf (xs.map fun x => D.bl (nmB x)) = some (xs.map nmB) := by
      have := blsOf_map (xs.map nmB)
      rwa [List.map_map] at this
    simp [allD, lstOf, b, R.thenS, RS.toR, hc, List.all_map, Function.comp_def]
  · have hc' : (decide (wordLen w = ((xs.length + 1 : Nat) : Int))) = false := by simpa using hc
    simp only [hc', Bool.false_eq_true, if_false, R.bind_ok]
    simp [R.thenS, RS.toR, hc]
end G

set_option Elab.async false
set_option linter.all false
set_option maxRecDepth 100000
set_option maxHeartbeats 4000000
/-! P86d: the plain law of k86: the tables. -/
namespace G
open PySem PySem.Spec PyProof.Rows L2

/-- a table -/
structure Tb (xs : List Str) (ds : List D) : Prop where
  len : ds.length = xs.length
  few : xs.length ≤ 30
  nms : ∀ x ∈ xs, Nm x = true
  plc : ∀ d ∈ ds, ∃ p, Py 10 d p ∧ FW 1 200 p = true
abbrev kys (xs : List Str) : List Key := xs.map Sum.inr
/-- its instance stands at n, its dict at m -/
structure At (h : List D) (n m : Nat) (xs : List Str) (ds : List D) : Prop where
  o : h[n]? = some (.obj "Notes" ["noted"] [.loc m])
  d : h[m]? = some (.dic (kys xs) ds)
theorem At.ne {h : List D} {n m : Nat} {xs : List Str} {ds : List D} (a : At h n m xs ds) : n ≠ m := fun e => by
  have h1 := a.o
  rw [e, a.d] at h1
  cases h1
/-- what stands at a name -/
def valAt (xs : List Str) (ds : List D) (x : Str) : D := (kget (kys xs) ds (.inr x)).getD .non
theorem kget_iff : ∀ {xs : List Str} {ds : List D} (x : Str), ds.length = xs.length → (kget (kys xs) ds (.inr x)).isSome = decide (x ∈ xs)
  | [], ds, x, _ => by cases ds <;> simp [kget, kys]
  | y :: xs, [], x, h => by simp at h
  | y :: xs, d :: ds, x, h => by
    have ih := kget_iff (xs := xs) (ds := ds) x (by simpa using h)
    simp only [kys, List.map_cons, kget]
    by_cases e : y = x
    · subst e
      simp
    · have e' : (decide ((Sum.inr y : Key) = Sum.inr x)) = false := by simpa using e
      rw [e', cond_false]
      rw [show (List.map Sum.inr xs : List Key) = kys xs from rfl, ih]
      have : x ≠ y := fun z => e z.symm
      simp [this]
theorem kget_mem : ∀ {xs : List Str} {ds : List D} {x : Str} {d : D}, kget (kys xs) ds (.inr x) = some d → d ∈ ds
  | [], ds, x, d, h => by cases ds <;> simp [kget, kys] at h
  | y :: xs, [], x, d, h => by simp [kget, kys] at h
  | y :: xs, e :: ds, x, d, h => by
    simp only [kys, List.map_cons, kget] at h
    cases hb : decide ((Sum.inr y : Key) = Sum.inr x) with
    | true => rw [hb, cond_true] at h; cases h; exact List.mem_cons_self
    | false => rw [hb, cond_false] at h; exact List.mem_cons_of_mem _ (kget_mem h)
theorem kget_at {xs : List Str} {ds : List D} {x : Str} (hl : ds.length = xs.length) (hx : x ∈ xs) : kget (kys xs) ds (.inr x) = some (valAt xs ds x) := by
  have := kget_iff x hl
  rw [decide_eq_true hx] at this
  unfold valAt
  cases e : kget (kys xs) ds (.inr x) with
  | none => rw [e] at this; cases this
  | some d => rfl
def rowsOf (xs : List Str) (ds : List D) : List D := (sortS xs).map fun x => .tup [.str x, valAt xs ds x]
theorem strsOf_map : ∀ ns : List Str, strsOf (ns.map .str) = some ns
  | [] => rfl
  | n :: ns => by rw [List.map_cons]; unfold strsOf; rw [strsOf_map ns]; rfl
theorem sorted_eq {xs : List Str} {h : List D} (hl : xs.length ≤ 30) : sortedD (.lst (xs.map .str)) h = .ok (.lst ((sortS xs).map .str)) h := by
  unfold sortedD lstOf
  dsimp only
  rw [strsOf_map]
  dsimp only
  rw [decide_eq_true (show xs.length < 64 by omega), cond_true]
theorem sortS_mem {xs : List Str} {x : Str} : x ∈ sortS xs ↔ x ∈ xs := (sortS_perm xs).mem_iff
theorem sortS_len {xs : List Str} : (sortS xs).length = xs.length := (sortS_perm xs).length_eq
theorem keyD_map (xs : List Str) : (kys xs).map keyD = xs.map .str := by
  unfold kys
  rw [List.map_map]
  rfl
/-- Notes.listed -/
theorem listed_ok {h : List D} {n m : Nat} {xs : List Str} {ds : List D} (a : At h n m xs ds) (t : Tb xs ds) : F_Notes_listed [.loc n] h = .ok (.loc h.length) (h ++ [.lst (rowsOf xs ds)]) := by
  have hz : sizeLine = 16777216 := by decide
  have few := t.few
  have ne := a.ne
  have keys : cLcDic (cFld "Notes" "noted" (cVar 0)) (gN 1) (mYes) (cCall (f1 strD) (aCons (cVar 1) (aNil))) [1] [.v (.loc n), .u] h = .ok (.lst (xs.map .str)) h := by
    have lk : (h.set m (.lck (kys xs) ds))[m]? = some (.lck (kys xs) ds) := set_get a.d
    have ob : (h.set m (.lck (kys xs) ds))[n]? = some (.obj "Notes" ["noted"] [.loc m]) := by rw [set_ne ne.symm]; exact a.o
    have wk := lcGo_map (T := gN 1) (te := cCall (f1 strD) (aCons (cVar 1) (aNil))) (env := [.v (.loc n), .u]) (h := h.set m (.lck (kys xs) ds)) (f := id) (xs.map .str) (by simp; omega) (fun d hd => by
      obtain ⟨x, _, rfl⟩ := List.mem_map.mp hd
      exact ⟨_, rfl, by simp [cCall, aCons, aNil, cVar, f1, strD]⟩)
    rw [List.map_id] at wk
    have al : aLc (iKeysD m (cFld "Notes" "noted" (cVar 0))) (gN 1) (mYes) (cCall (f1 strD) (aCons (cVar 1) (aNil))) [1] [.v (.loc n), .u] (h.set m (.lck (kys xs) ds)) = .ok (xs.map .str) (h.set m (.lck (kys xs) ds)) := by
      have ik : iKeysD m (cFld "Notes" "noted" (cVar 0)) [.v (.loc n), .u] (h.set m (.lck (kys xs) ds)) = .ok (xs.map .str) (h.set m (.lck (kys xs) ds)) := by
        simp [iKeysD, cFld, cVar, objOf, ob, fget, lk, -List.map_map, keyD_map]
      unfold aLc
      rw [ik]
      simp only [R.bind_ok, noX, List.all_cons, List.all_nil, Sl.noX, Bool.and_self, cond_true]
      exact wk
    have e0 : cFld "Notes" "noted" (cVar 0) [.v (.loc n), .u] h = .ok (.loc m) h := by simp [cFld, cVar, objOf, a.o, fget]
    unfold cLcDic
    rw [e0]
    dsimp only
    rw [a.d]
    dsimp only
    rw [al]
    dsimp only
    rw [lk]
    dsimp only
    rw [set_back a.d]
  have src : iSeq (cCall (f1 sortedD) (aCons (cLcDic (cFld "Notes" "noted" (cVar 0)) (gN 1) (mYes) (cCall (f1 strD) (aCons (cVar 1) (aNil))) [1]) (aNil))) [.v (.loc n), .u] h = .ok ((sortS xs).map .str) h := by
    refine iSeq_lst ?_
    rw [cCall1 keys]
    exact sorted_eq few
  have wk := lcGo_map (T := gN 1) (te := cTup (aCons (cVar 1) (aCons (c2 oIx (cFld "Notes" "noted" (cVar 0)) (cVar 1)) (aNil)))) (env := [.v (.loc n), .u]) (h := h) (f := fun d => match d with | .str x => .tup [.str x, valAt xs ds x] | _ => .non) ((sortS xs).map .str) (by simp [sortS_len]; omega) (fun d hd => by
    obtain ⟨x, hx, rfl⟩ := List.mem_map.mp hd
    refine ⟨_, rfl, ?_⟩
    have k := kget_at t.len (sortS_mem.mp hx)
    simp [cTup, aCons, aNil, cVar, c2, cFld, objOf, a.o, fget, oIx, dicOf, a.d, keyOf, k, hz])
  show (m_Notes_listed [.v (.loc n), .u] h).toR = _
  unfold m_Notes_listed sRet cLcN aLc
  rw [src]
  simp only [R.bind_ok, noX, List.all_cons, List.all_nil, Sl.noX, Bool.and_self, cond_true]
  show RS.toR (R.thenS (R.bind (lcGo (gN 1) mYes _ [.v (.loc n), .u] _ _ h) _) _ _) = _
  rw [wk]
  simp [RS.toR, rowsOf, List.map_map, Function.comp_def]
/-- _law_listed -/
theorem law_listed_ok {h : List D} {m : Nat} {xs : List Str} {ds : List D} (a : h[m]? = some (.dic (kys xs) ds)) (t : Tb xs ds) : F_law_listed [.loc m] h = .ok (.lst (rowsOf xs ds)) h := by
  have hz : sizeLine = 16777216 := by decide
  have few := t.few
  have keys : cLcDic (cVar 0) (gN 1) (mYes) (cCall (f1 strD) (aCons (cVar 1) (aNil))) [1] [.v (.loc m), .u] h = .ok (.lst (xs.map .str)) h := by
    have lk : (h.set m (.lck (kys xs) ds))[m]? = some (.lck (kys xs) ds) := set_get a
    have wk := lcGo_map (T := gN 1) (te := cCall (f1 strD) (aCons (cVar 1) (aNil))) (env := [.v (.loc m), .u]) (h := h.set m (.lck (kys xs) ds)) (f := id) (xs.map .str) (by simp; omega) (fun d hd => by
      obtain ⟨x, _, rfl⟩ := List.mem_map.mp hd
      exact ⟨_, rfl, by simp [cCall, aCons, aNil, cVar, f1, strD]⟩)
    rw [List.map_id] at wk
    have al : aLc (iKeysD m (cVar 0)) (gN 1) (mYes) (cCall (f1 strD) (aCons (cVar 1) (aNil))) [1] [.v (.loc m), .u] (h.set m (.lck (kys xs) ds)) = .ok (xs.map .str) (h.set m (.lck (kys xs) ds)) := by
      have ik : iKeysD m (cVar 0) [.v (.loc m), .u] (h.set m (.lck (kys xs) ds)) = .ok (xs.map .str) (h.set m (.lck (kys xs) ds)) := by
        simp [iKeysD, cVar, lk, -List.map_map, keyD_map]
      unfold aLc
      rw [ik]
      simp only [R.bind_ok, noX, List.all_cons, List.all_nil, Sl.noX, Bool.and_self, cond_true]
      exact wk
    have e0 : cVar 0 [.v (.loc m), .u] h = .ok (.loc m) h := rfl
    unfold cLcDic
    rw [e0]
    dsimp only
    rw [a]
    dsimp only
    rw [al]
    dsimp only
    rw [lk]
    dsimp only
    rw [set_back a]
  have src : iSeq (cCall (f1 sortedD) (aCons (cLcDic (cVar 0) (gN 1) (mYes) (cCall (f1 strD) (aCons (cVar 1) (aNil))) [1]) (aNil))) [.v (.loc m), .u] h = .ok ((sortS xs).map .str) h := by
    refine iSeq_lst ?_
    rw [cCall1 keys]
    exact sorted_eq few
  have wk := lcGo_map (T := gN 1) (te := cTup (aCons (cVar 1) (aCons (c2 oIx (cVar 0) (cVar 1)) (aNil)))) (env := [.v (.loc m), .u]) (h := h) (f := fun d => match d with | .str x => .tup [.str x, valAt xs ds x] | _ => .non) ((sortS xs).map .str) (by simp [sortS_len]; omega) (fun d hd => by
    obtain ⟨x, hx, rfl⟩ := List.mem_map.mp hd
    refine ⟨_, rfl, ?_⟩
    have k := kget_at t.len (sortS_mem.mp hx)
    simp [cTup, aCons, aNil, cVar, c2, oIx, dicOf, a, keyOf, k, hz])
  show (m_law_listed [.v (.loc m), .u] h).toR = _
  unfold m_law_listed sRet cLc aLc
  rw [src]
  simp only [R.bind_ok, noX, List.all_cons, List.all_nil, Sl.noX, Bool.and_self, cond_true]
  show RS.toR (R.thenS (R.bind (lcGo (gN 1) mYes _ [.v (.loc m), .u] _ _ h) _) _ _) = _
  rw [wk]
  simp [RS.toR, rowsOf, List.map_map, Function.comp_def]
/-- the rows as a text -/
theorem rows_py {xs : List Str} {ds : List D} (t : Tb xs ds) : ∃ ps : List PyData, (rowsOf xs ds).length = ps.length ∧ (∀ (i : Nat) (d : D) (p : PyData), (rowsOf xs ds)[i]? = some d → ps[i]? = some p → Py 20 d p) ∧ ∀ p ∈ ps, FW 2 500 p = true := by
  have one : ∀ x ∈ sortS xs, ∃ p, Py 20 (.tup [.str x, valAt xs ds x]) p ∧ FW 2 500 p = true := fun x hx => by
    have hx := sortS_mem.mp hx
    obtain ⟨q, q1, q2⟩ := t.plc _ (kget_mem (kget_at t.len hx))
    refine ⟨.tuple [.str x, q], ?_, ?_⟩
    · refine Py.mono (py_tup (n := 10) (ds := [.str x, valAt xs ds x]) (ps := [.str x, q]) rfl fun i d p h1 h2 => ?_) (by simp)
      match i, h1, h2 with
      | 0, h1, h2 => cases h1; cases h2; exact py_str.mono (by decide)
      | 1, h1, h2 => cases h1; cases h2; exact q1
    · refine FW.mono (FW_tuple (n := 1) (W := 200) (m := 2) (ps := [.str x, q]) (fun p hp => ?_) (by simp)) (by decide) (by decide)
      rcases List.mem_cons.mp hp with rfl | hp
      · exact FW.mono (Nm.fw (t.nms x hx)) (by decide) (by decide)
      · rw [List.mem_singleton] at hp; subst hp; exact q2
  unfold rowsOf
  generalize sortS xs = ys at one
  induction ys with
  | nil => exact ⟨[], rfl, fun i d p h => by simp at h, fun p h => by simp at h⟩
  | cons y ys ih =>
    obtain ⟨ps, h1, h2, h3⟩ := ih fun x hx => one x (List.mem_cons_of_mem _ hx)
    obtain ⟨p, p1, p2⟩ := one y List.mem_cons_self
    refine ⟨p :: ps, by simpa using h1, fun i d q e1 e2 => ?_, fun q hq => ?_⟩
    · cases i with
      | zero => simp at e1 e2; subst e1; subst e2; exact p1
      | succ i => exact h2 i d q (by simpa using e1) (by simpa using e2)
    · rcases List.mem_cons.mp hq with rfl | hq
      · exact p2
      · exact h3 q hq
/-- the two lists of rows have the same text -/
theorem is_list_ok {h : List D} {k : Nat} {xs : List Str} {ds : List D} (t : Tb xs ds) (hk : h[k]? = some (.lst (rowsOf xs ds))) : F_law_is_list [.loc k, .lst (rowsOf xs ds)] h = .ok (.bl true) h := by
  obtain ⟨ps, h1, h2, h3⟩ := rows_py t
  have hl : (rowsOf xs ds).length ≤ 30 := by simpa [rowsOf, sortS_len] using t.few
  have e1 : toPy pyF h (.loc k) = some (.list ps) := py_loc h1 h2 hk (by show 20 + _ + 2 ≤ 4000; omega)
  have e2 : toPy pyF h (.lst (rowsOf xs ds)) = some (.list ps) := py_lst h1 h2 h pyF (by show 20 + _ + 2 ≤ 4000; omega)
  have f : FW 3 (30 * 501) (.list ps) = true := FW_list h3 (by omega)
  have r1 := repr_ok e1 f (by decide) (by decide)
  have r2 := repr_ok e2 f (by decide) (by decide)
  have ty : ty_list.lookup "list" = some true := by decide
  show (m_law_is_list [.v (.loc k), .v (.lst (rowsOf xs ds))] h).toR = _
  simp [m_law_is_list, sRet, cAndV, cIsi, cVar, tyD, hk, ty, c2, cCall, aCons, aNil, f1, r1, r2, oEq, RS.toR]
end G

set_option Elab.async false
set_option linter.all false
set_option maxRecDepth 100000
set_option maxHeartbeats 4000000
/-! P86e: the plain law of k86: deeds, looks. -/
namespace G
open PySem PySem.Spec PyProof.Rows L2

theorem contains_ok {h : List D} {n m : Nat} {xs : List Str} {ds : List D} (a : At h n m xs ds) (t : Tb xs ds) (x : Str) : F_Notes___contains__ [.loc n, .str x] h = .ok (.bl (decide (x ∈ xs))) h := by
  have ty : ty_str.lookup "str" = some true := by decide
  have k := kget_iff x t.len
  show (m_Notes___contains__ [.v (.loc n), .v (.str x)] h).toR = _
  simp [m_Notes___contains__, sRet, cAndV, cIsi, cVar, tyD, ty, c2, cFld, objOf, a.o, fget, oIn, dicOf, a.d, keyOf, k, RS.toR]
theorem contains_no {h : List D} {n m : Nat} {xs : List Str} {ds : List D} (a : At h n m xs ds) {d : D} {T : String} (e : tyD h d = some T) (ht : ty_str.lookup T = some false) : F_Notes___contains__ [.loc n, d] h = .ok (.bl false) h := by
  show (m_Notes___contains__ [.v (.loc n), .v d] h).toR = _
  simp [m_Notes___contains__, sRet, cAndV, cIsi, cVar, e, ht, RS.toR]
theorem len_ok {h : List D} {n m : Nat} {xs : List Str} {ds : List D} (a : At h n m xs ds) : F_Notes___len__ [.loc n] h = .ok (.int xs.length) h := by
  show (m_Notes___len__ [.v (.loc n)] h).toR = _
  simp [m_Notes___len__, sRet, cCall, aCons, aNil, f1, cFld, cVar, objOf, a.o, fget, lenD, dicOf, a.d, RS.toR, kys]
/-- noted[x] -/
theorem getitem_ok {h : List D} {n m : Nat} {xs : List Str} {ds : List D} (a : At h n m xs ds) (t : Tb xs ds) {x : Str} (hx : x ∈ xs) : F_Notes___getitem__ [.loc n, .str x] h = .ok (valAt xs ds x) h := by
  have c := contains_ok a t x
  have k := kget_at t.len hx
  rw [decide_eq_true hx] at c
  show (m_Notes___getitem__ [.v (.loc n), .v (.str x)] h).toR = _
  simp [m_Notes___getitem__, sSeq, sIf, cB, c2, oDin, dun, cVar, objOf, a.o, c, sNil, sRet, cFld, fget, oIx, dicOf, a.d, keyOf, k, RS.toR]
theorem getitem_no {h : List D} {n m : Nat} {xs : List Str} {ds : List D} (a : At h n m xs ds) {d : D} (c : F_Notes___contains__ [.loc n, d] h = .ok (.bl false) h) : F_Notes___getitem__ [.loc n, d] h = .exc "BadName" ["name"] [d] h := by
  show (m_Notes___getitem__ [.v (.loc n), .v d] h).toR = _
  simp [m_Notes___getitem__, sSeq, sIf, cB, c2, oDin, dun, cVar, objOf, a.o, c, sRaise, RS.toR]
theorem at_of_ok {h : List D} {n m : Nat} {xs : List Str} {ds : List D} (a : At h n m xs ds) (t : Tb xs ds) {x : Str} (hx : x ∈ xs) : F_law_at_of [.loc n, .str x] h = .ok (.lst [valAt xs ds x]) h := by
  have hz : sizeLine = 16777216 := by decide
  have g := getitem_ok a t hx
  show (m_law_at_of [.v (.loc n), .v (.str x), .u] h).toR = _
  simp [m_law_at_of, sTry, noX, Sl.noX, sRet, cLst, aCons, aNil, c2, oDix, dun, cVar, objOf, a.o, g, hz, RS.toR]
theorem at_of_no {h : List D} {n m : Nat} {xs : List Str} {ds : List D} (a : At h n m xs ds) {d : D} {s : Str} (c : F_Notes___contains__ [.loc n, d] h = .ok (.bl false) h) (r : reprD d h = .ok (.str s) h) : F_law_at_of [.loc n, d] h = .ok (.lst [.str "none", .str s]) h := by
  have hz : sizeLine = 16777216 := by decide
  have g := getitem_no a c
  have l1 : List.lookup ("BadName" : Str) [("NamesError", false), ("BadPlace", false), ("BadName", true)] = some true := by decide
  have cn : (["BadName"] : List Str).contains "BadName" = true := by decide
  show (m_law_at_of [.v (.loc n), .v d, .u] h).toR = _
  simp [m_law_at_of, sTry, noX, Sl.noX, sRet, cLst, aCons, aNil, c2, oDix, dun, cVar, objOf, a.o, g, hand, l1, cCall, f1, cExcI, cn, cExc, fget, r, hz, endX, cC, RS.toR]
/-- noted[x] = d -/
theorem setitem_ok {h : List D} {n m : Nat} {xs : List Str} {ds : List D} (a : At h n m xs ds) (t : Tb xs ds) {x : Str} {d : D} (hx : Nm x = true) (hd : F_is_place [d] h = .ok (.bl true) h) :
    F_Notes___setitem__ [.loc n, .str x, d] h = .ok .non (h.set m (.dic (kput (kys xs) ds (.inr x) d).1 (kput (kys xs) ds (.inr x) d).2)) := by
  have hz : sizeLine = 16777216 := by decide
  have few := t.few
  have hn := is_name_str (h := h) (Nm.len hx)
  rw [Nm.nm hx] at hn
  have fl : xs.length < sizeLine := by omega
  show (m_Notes___setitem__ [.v (.loc n), .v (.str x), .v d] h).toR = _
  simp [m_Notes___setitem__, sSeq, sIf, cNot, cB, cCall, aCons, aNil, cVar, hn, sNil, hd, sSub, cFld, objOf, a.o, fget, a.d, keyOf, kys, fl, RS.toR]
theorem setitem_name {h : List D} {n : Nat} {nm d : D} (hn : F_is_name [nm] h = .ok (.bl false) h) : F_Notes___setitem__ [.loc n, nm, d] h = .exc "BadName" ["name"] [nm] h := by
  show (m_Notes___setitem__ [.v (.loc n), .v nm, .v d] h).toR = _
  simp [m_Notes___setitem__, sSeq, sIf, cNot, cB, cCall, aCons, aNil, cVar, hn, sRaise, RS.toR]
theorem setitem_place {h : List D} {n : Nat} {nm d : D} (hn : F_is_name [nm] h = .ok (.bl true) h) (hd : F_is_place [d] h = .ok (.bl false) h) : F_Notes___setitem__ [.loc n, nm, d] h = .exc "BadPlace" ["place"] [d] h := by
  show (m_Notes___setitem__ [.v (.loc n), .v nm, .v d] h).toR = _
  simp [m_Notes___setitem__, sSeq, sIf, cNot, cB, cCall, aCons, aNil, cVar, hn, hd, sNil, sRaise, RS.toR]
theorem noted_ok {h : List D} {n m : Nat} {xs : List Str} {ds : List D} (a : At h n m xs ds) (t : Tb xs ds) {x : Str} {d : D} (hx : Nm x = true) (hd : F_is_place [d] h = .ok (.bl true) h) :
    F_law_noted_of [.loc n, .str x, d] h = .ok (.lst []) (h.set m (.dic (kput (kys xs) ds (.inr x) d).1 (kput (kys xs) ds (.inr x) d).2)) := by
  have hz : sizeLine = 16777216 := by decide
  have g := setitem_ok a t hx hd
  show (m_law_noted_of [.v (.loc n), .v (.str x), .v d, .u] h).toR = _
  simp [m_law_noted_of, sSeq, sTry, noX, Sl.noX, sSubO, cVar, dun, objOf, a.o, g, sRet, cLst, aNil, hz, RS.toR]
theorem noted_name {h : List D} {n m : Nat} {xs : List Str} {ds : List D} (a : At h n m xs ds) {nm d : D} {s : Str} (hn : F_is_name [nm] h = .ok (.bl false) h) (r : reprD nm h = .ok (.str s) h) :
    F_law_noted_of [.loc n, nm, d] h = .ok (.lst [.str "name", .str s]) h := by
  have hz : sizeLine = 16777216 := by decide
  have g := setitem_name (n := n) (d := d) hn
  have l1 : List.lookup ("BadName" : Str) [("NamesError", false), ("BadPlace", false), ("BadName", true)] = some true := by decide
  have cn : (["BadName"] : List Str).contains "BadName" = true := by decide
  show (m_law_noted_of [.v (.loc n), .v nm, .v d, .u] h).toR = _
  simp [m_law_noted_of, sSeq, sTry, noX, Sl.noX, sSubO, cVar, dun, objOf, a.o, g, hand, l1, sRet, cLst, aCons, aNil, cCall, f1, cExcI, cn, cExc, fget, r, hz, endX, cC, RS.toR]
theorem noted_place {h : List D} {n m : Nat} {xs : List Str} {ds : List D} (a : At h n m xs ds) {nm d : D} {s : Str} (hn : F_is_name [nm] h = .ok (.bl true) h) (hd : F_is_place [d] h = .ok (.bl false) h) (r : reprD d h = .ok (.str s) h) :
    F_law_noted_of [.loc n, nm, d] h = .ok (.lst [.str "place", .str s]) h := by
  have hz : sizeLine = 16777216 := by decide
  have g := setitem_place (n := n) hn hd
  have l0 : List.lookup ("BadPlace" : Str) [("NamesError", false), ("BadPlace", false), ("BadName", true)] = some false := by decide
  have l1 : List.lookup ("BadPlace" : Str) [("NamesError", false), ("BadPlace", true), ("BadName", false)] = some true := by decide
  have cn : (["BadPlace"] : List Str).contains "BadPlace" = true := by decide
  show (m_law_noted_of [.v (.loc n), .v nm, .v d, .u] h).toR = _
  simp [m_law_noted_of, sSeq, sTry, noX, Sl.noX, sSubO, cVar, dun, objOf, a.o, g, hand, l0, l1, sRet, cLst, aCons, aNil, cCall, f1, cExcI, cn, cExc, fget, r, hz, endX, cC, RS.toR]
/-- data that a text can be made of, and compared -/
def Txt (d : D) (s : Str) : Prop := ∃ p, Py 10 d p ∧ FW 1 200 p = true ∧ p.shown = s ∧ FW 0 200 (.str s) = true
theorem Txt.rd {d : D} {s : Str} (t : Txt d s) (h : List D) : reprD d h = .ok (.str s) h := by
  obtain ⟨p, p1, p2, p3, _⟩ := t
  rw [← p3]
  exact repr_ok (p1 h pyF (by decide)) p2 (by decide) (by decide)
theorem Txt.eq {d : D} {s : Str} (t : Txt d s) (h : List D) {x : Str} (hx : FW 0 200 (.str x) = true) (neg : Bool) : oEqD neg (.lst [.str x, .str s]) (.lst [.str x, .str s]) h = .ok (.bl (!neg)) h := by
  obtain ⟨p, p1, p2, p3, p4⟩ := t
  have e : toPy pyF h (.lst [.str x, .str s]) = some (.list [.str x, .str s]) := py_lst (n := 1) (ds := [x, s].map D.str) (ps := [x, s].map PyData.str) rfl py_strs h pyF (by simp [pyF])
  have f : FW 1 (2 * 201) (.list [.str x, .str s]) = true := FW_list (n := 0) (W := 200) (m := 2) (fun q hq => by
    rcases List.mem_cons.mp hq with rfl | hq
    · exact hx
    · rw [List.mem_singleton] at hq; subst hq; exact p4) (by simp)
  have q := eqD_ok (neg := neg) e e f f (by decide) (by decide) (by decide) (by decide)
  rw [eqv_refl _ (FW.lay f)] at q
  rw [q]
  cases neg <;> rfl
/-- an item that a look asks: a text, or what is none -/
structure Itm (d : D) : Prop where
  k : (∃ x : Str, d = .str x) ∨ ∃ T, (∀ h, tyD h d = some T) ∧ ty_str.lookup T = some false
  r : ∃ s, Txt d s
/-- one pass of a look -/
def b_fits : MS := sSeq (sSet 4 (cIf (cAnd (cB (cIsi ty_str (cVar 3))) (cB (c2 (oIn false) (cVar 3) (cVar 1)))) (cLst (aCons (c2 oIx (cVar 1) (cVar 3)) (aNil))) (cLst (aCons (cC (.str "none")) (aCons (cCall (f1 reprD) (aCons (cVar 3) (aNil))) (aNil))))))
  (sIf (cOr (cB (c2 (oEq true) (cCall F_law_at_of (aCons (cVar 0) (aCons (cVar 3) (aNil)))) (cVar 4))) (cB (c2 (oEq true) (c2 (oDin "Notes" F_Notes___contains__ false) (cVar 3) (cVar 0)) (c2 (oEq false) (cCall (f1 lenD) (aCons (cVar 4) (aNil))) (cC (.int 1)))))) (sRet (cC (.bl false)))
  (sNil))
theorem fits_step {h : List D} {n m k : Nat} {xs : List Str} {ds : List D} (a : At h n m xs ds) (t : Tb xs ds) (hk : h[k]? = some (.dic (kys xs) ds)) {d nms : D} {s4 : Sl} (i : Itm d) :
    ∃ s4', b_fits [.v (.loc n), .v (.loc k), .v nms, .v d, s4] h = .nx [.v (.loc n), .v (.loc k), .v nms, .v d, s4'] h := by
  have hz : sizeLine = 16777216 := by decide
  obtain ⟨s, tx⟩ := i.r
  have rd := tx.rd h
  have ty : ty_str.lookup "str" = some true := by decide
  have none_ : ∀ (c : F_Notes___contains__ [.loc n, d] h = .ok (.bl false) h) (te : (cAnd (cB (cIsi ty_str (cVar 3))) (cB (c2 (oIn false) (cVar 3) (cVar 1)))) [.v (.loc n), .v (.loc k), .v nms, .v d, s4] h = .ok false h),
      ∃ s4', b_fits [.v (.loc n), .v (.loc k), .v nms, .v d, s4] h = .nx [.v (.loc n), .v (.loc k), .v nms, .v d, s4'] h := fun c te => by
    have ao := at_of_no a c rd
    refine ⟨.v (.lst [.str "none", .str s]), ?_⟩
    have eq := tx.eq h (x := "none") (by decide +kernel) true
    unfold b_fits
    have e1 : sSet 4 (cIf (cAnd (cB (cIsi ty_str (cVar 3))) (cB (c2 (oIn false) (cVar 3) (cVar 1)))) (cLst (aCons (c2 oIx (cVar 1) (cVar 3)) (aNil))) (cLst (aCons (cC (.str "none")) (aCons (cCall (f1 reprD) (aCons (cVar 3) (aNil))) (aNil))))) [.v (.loc n), .v (.loc k), .v nms, .v d, s4] h = .nx [.v (.loc n), .v (.loc k), .v nms, .v d, .v (.lst [.str "none", .str s])] h := by
      unfold sSet cIf
      rw [te]
      simp [cLst, aCons, aNil, cC, cCall, cVar, f1, rd, hz]
    rw [sSeq_nx e1]
    have o1 : oDin "Notes" F_Notes___contains__ false d (.loc n) h = .ok (.bl false) h := by simp [oDin, dun, objOf, a.o, c]
    simp [sIf, cOr, cB, c2, cCall, aCons, aNil, cVar, ao, eq, o1, f1, lenD, dicOf, seqOf, lstOf, cC, oEq, sNil]
  rcases i.k with ⟨x, rfl⟩ | ⟨T, hT, hTs⟩
  · have c := contains_ok a t x
    have kk := kget_iff x t.len
    by_cases hx : x ∈ xs
    · have ao := at_of_ok a t hx
      have k1 := kget_at t.len hx
      rw [decide_eq_true hx] at c
      refine ⟨.v (.lst [valAt xs ds x]), ?_⟩
      obtain ⟨q, q1, q2⟩ := t.plc _ (kget_mem k1)
      have eq : oEqD true (.lst [valAt xs ds x]) (.lst [valAt xs ds x]) h = .ok (.bl false) h := by
        have e : toPy pyF h (.lst [valAt xs ds x]) = some (.list [q]) := py_lst (n := 10) (ds := [valAt xs ds x]) (ps := [q]) rfl (fun i d p h1 h2 => match i, h1, h2 with
          | 0, h1, h2 => by cases h1; cases h2; exact q1) h pyF (by simp [pyF])
        have f : FW 2 201 (.list [q]) = true := FW_list (n := 1) (W := 200) (m := 1) (fun p hp => by rw [List.mem_singleton] at hp; subst hp; exact q2) (by simp)
        have g := eqD_ok (neg := true) e e f f (by decide) (by decide) (by decide) (by decide)
        rw [eqv_refl _ (FW.lay f)] at g
        rw [g]
        rfl
      have o1 : oDin "Notes" F_Notes___contains__ false (.str x) (.loc n) h = .ok (.bl true) h := by simp [oDin, dun, objOf, a.o, c]
      have e1 : sSet 4 (cIf (cAnd (cB (cIsi ty_str (cVar 3))) (cB (c2 (oIn false) (cVar 3) (cVar 1)))) (cLst (aCons (c2 oIx (cVar 1) (cVar 3)) (aNil))) (cLst (aCons (cC (.str "none")) (aCons (cCall (f1 reprD) (aCons (cVar 3) (aNil))) (aNil))))) [.v (.loc n), .v (.loc k), .v nms, .v (.str x), s4] h = .nx [.v (.loc n), .v (.loc k), .v nms, .v (.str x), .v (.lst [valAt xs ds x])] h := by
        simp [sSet, cIf, cAnd, cB, cIsi, cVar, tyD, ty, c2, oIn, dicOf, hk, keyOf, k1, cLst, aCons, aNil, oIx, hz]
      unfold b_fits
      rw [sSeq_nx e1]
      simp [sIf, cOr, cB, c2, cCall, aCons, aNil, cVar, ao, eq, o1, f1, lenD, dicOf, seqOf, lstOf, cC, oEq, sNil]
    · rw [decide_eq_false hx] at c kk
      refine none_ c ?_
      simp [cAnd, cB, cIsi, cVar, tyD, ty, c2, oIn, dicOf, hk, keyOf, kk]
  · refine none_ (contains_no a (hT h) hTs) ?_
    simp [cAnd, cB, cIsi, cVar, hT h, hTs]
section
variable {h : List D} {n m k : Nat} {xs : List Str} {ds : List D}
abbrev moreItems : List D := [.non, .int 1, .str "", .str "A", .tup [.str "a"], .lst []]
abbrev hd_fits : MS := sIf (cOr (cNot (cB (cCall F_law_is_list (aCons (cMeth "Notes" "listed" F_Notes_listed (cVar 0) (aNil)) (aCons (cCall F_law_listed (aCons (cVar 1) (aNil))) (aNil)))))) (cB (c2 (oEq true) (cLenO "Notes" F_Notes___len__ (cVar 0)) (cCall (f1 lenD) (aCons (cVar 1) (aNil)))))) (sRet (cC (.bl false))) sNil
abbrev it_fits : MA := iSeq (c2 oPlus (cVar 2) (cLst (aCons (cC .non) (aCons (cC (.int 1)) (aCons (cC (.str "")) (aCons (cC (.str "A")) (aCons (cTup (aCons (cC (.str "a")) (aNil))) (aCons (cLst (aNil)) (aNil)))))))))
theorem lenO_ok {c : Str} {F : FF} {m : ME} {env : List Sl} {h h1 h2 : List D} {x : D} {n : Int} (e : m env h = .ok x h1) (d : dun c F x [] h1 = .ok (.int n) h2) (b : (decide (0 ≤ n) && decide (n < 2 ^ 63)) = true) : cLenO c F m env h = .ok (.int n) h2 := by
  unfold cLenO
  rw [e]
  show R.bind (dun c F x [] h1) _ = _
  rw [d]
  show (bif (decide (0 ≤ n) && decide (n < 2 ^ 63)) then _ else _) = _
  rw [b]
  rfl
theorem len_small {n : Nat} (h : n ≤ 1000000) : (decide ((0 : Int) ≤ n) && decide ((n : Int) < 2 ^ 63)) = true :=
  Bool.and_eq_true_iff.mpr ⟨decide_eq_true (by omega), decide_eq_true (Int.lt_of_le_of_lt (show (n : Int) ≤ 1000000 by omega) (by decide +kernel))⟩
theorem len_call (a : At h n m xs ds) (t : Tb xs ds) {env : List Sl} (e : env[0]? = some (.v (.loc n))) : cLenO "Notes" F_Notes___len__ (cVar 0) env h = .ok (.int xs.length) h := by
  have few := t.few
  refine lenO_ok (x := .loc n) (h1 := h) (by simp [cVar, e]) ?_ (len_small (by omega))
  have l4 := len_ok a
  simp [dun, objOf, a.o, l4]
theorem fits_head (a : At h n m xs ds) (t : Tb xs ds) (hk : h[k]? = some (.dic (kys xs) ds)) {nms : D} : hd_fits [.v (.loc n), .v (.loc k), .v nms, .u, .u] h = .nx [.v (.loc n), .v (.loc k), .v nms, .u, .u] (h ++ [.lst (rowsOf xs ds)]) := by
  have a' : At (h ++ [.lst (rowsOf xs ds)]) n m xs ds := ⟨app_get a.o, app_get a.d⟩
  have hk' : (h ++ [.lst (rowsOf xs ds)])[k]? = some (.dic (kys xs) ds) := app_get hk
  have l1 := listed_ok a t
  have l2 := law_listed_ok hk' t
  have l3 := is_list_ok (h := h ++ [.lst (rowsOf xs ds)]) (k := h.length) t (by simp)
  have l4 := fun env => len_call a' t (env := env)
  generalize h ++ [.lst (rowsOf xs ds)] = h' at a' hk' l1 l2 l3 l4 ⊢
  have ns : ¬ ("noted" : Str) = "listed" := by decide
  have e1 : cMeth "Notes" "listed" F_Notes_listed (cVar 0) (aNil) [.v (.loc n), .v (.loc k), .v nms, .u, .u] h = .ok (.loc h.length) h' := by
    simp [cMeth, cVar, objOf, a.o, fget, ns, aNil, l1]
  have e2 := l4 [.v (.loc n), .v (.loc k), .v nms, .u, .u] rfl
  have e3 : cCall (f1 lenD) (aCons (cVar 1) (aNil)) [.v (.loc n), .v (.loc k), .v nms, .u, .u] h' = .ok (.int xs.length) h' := by
    simp [cCall, aCons, aNil, cVar, f1, lenD, dicOf, hk', kys]
  have e4 : cCall F_law_is_list (aCons (cMeth "Notes" "listed" F_Notes_listed (cVar 0) (aNil)) (aCons (cCall F_law_listed (aCons (cVar 1) (aNil))) (aNil))) [.v (.loc n), .v (.loc k), .v nms, .u, .u] h = .ok (.bl true) h' := by
    unfold cCall aCons
    rw [e1]
    simp [aNil, cVar, l2, l3]
  unfold hd_fits sIf cOr cNot cB c2
  rw [e4]
  simp only [R.bind_ok, Bool.not_true]
  rw [e2]
  simp only [R.bind_ok]
  rw [e3]
  simp [oEq, sNil]
theorem fits_src {nms : List D} (hn : nms.length ≤ 30) {env : List Sl} (e : env[2]? = some (.v (.lst nms))) : it_fits env h = .ok (nms ++ moreItems) h := by
  have hz : sizeLine = 16777216 := by decide
  have : nms.length + 6 ≤ sizeLine := by omega
  have h1 : (1 : Nat) ≤ sizeLine := by omega
  have h0 : (0 : Nat) ≤ sizeLine := by omega
  have h6 : (6 : Nat) ≤ sizeLine := by omega
  refine iSeq_lst ?_
  have e2 : (cLst (aCons (cC .non) (aCons (cC (.int 1)) (aCons (cC (.str "")) (aCons (cC (.str "A")) (aCons (cTup (aCons (cC (.str "a")) (aNil))) (aCons (cLst (aNil)) (aNil)))))))) env h = .ok (.lst moreItems) h := by
    simp [cLst, cTup, aCons, aNil, cC, h1, h0, h6]
  unfold c2
  simp only [cVar, e, R.bind_ok]
  rw [e2]
  simp only [R.bind_ok, oPlus, lstH]
  rw [decide_eq_true (show nms.length + moreItems.length ≤ sizeLine from this)]
  rfl
theorem fits_loop (a : At h n m xs ds) (t : Tb xs ds) (hk : h[k]? = some (.dic (kys xs) ds)) {nms : D} {items : List D} (i : ∀ d ∈ items, Itm d) :
    ∃ env', forGo (gN 3) b_fits items [.v (.loc n), .v (.loc k), .v nms, .u, .u] h = .nx env' h := by
  obtain ⟨env', h', e, ⟨_, _, rfl⟩, e'⟩ := forGo_inv (T := gN 3) (m := b_fits) (I := fun _ env h' => (∃ s3 s4, env = [.v (.loc n), .v (.loc k), .v nms, s3, s4]) ∧ h' = h) items 0 _ h ⟨⟨.u, .u, rfl⟩, rfl⟩ (fun j d env h' hj ⟨⟨s3, s4, e⟩, e'⟩ => by
    subst e; subst e'
    obtain ⟨s4', e⟩ := fits_step (s4 := s4) (nms := nms) a t hk (i d (List.mem_of_getElem? hj))
    exact ⟨_, _, _, rfl, .inl e, ⟨_, _, rfl⟩, rfl⟩)
  subst e'
  exact ⟨_, e⟩
/-- a look -/
theorem fits_ok (a : At h n m xs ds) (t : Tb xs ds) (hk : h[k]? = some (.dic (kys xs) ds)) {nms : List D} (hn : nms.length ≤ 30) (i : ∀ d ∈ nms ++ moreItems, Itm d) :
    F_law_fits [.loc n, .loc k, .lst nms] h = .ok (.bl true) (h ++ [.lst (rowsOf xs ds)]) := by
  have a' : At (h ++ [.lst (rowsOf xs ds)]) n m xs ds := ⟨app_get a.o, app_get a.d⟩
  have hk' : (h ++ [.lst (rowsOf xs ds)])[k]? = some (.dic (kys xs) ds) := app_get hk
  have e1 := fits_head a t hk (nms := .lst nms)
  have e2 := fits_src (h := h ++ [.lst (rowsOf xs ds)]) (env := [.v (.loc n), .v (.loc k), .v (.lst nms), .u, .u]) hn rfl
  obtain ⟨env', e3⟩ := fits_loop a' t hk' (nms := .lst nms) i
  have e4 : sFor it_fits (gN 3) b_fits [.v (.loc n), .v (.loc k), .v (.lst nms), .u, .u] (h ++ [.lst (rowsOf xs ds)]) = .nx env' (h ++ [.lst (rowsOf xs ds)]) := by
    unfold sFor
    rw [e2]
    exact e3
  have e5 : (sSeq hd_fits (sSeq (sFor it_fits (gN 3) b_fits) (sRet (cC (.bl true))))) [.v (.loc n), .v (.loc k), .v (.lst nms), .u, .u] h = .rt (.bl true) (h ++ [.lst (rowsOf xs ds)]) := by
    rw [sSeq_nx e1, sSeq_nx e4]
    rfl
  have e6 : m_law_fits = sSeq hd_fits (sSeq (sFor it_fits (gN 3) b_fits) (sRet (cC (.bl true)))) := rfl
  unfold F_law_fits runF
  rw [e6]
  show RS.toR ((sSeq hd_fits (sSeq (sFor it_fits (gN 3) b_fits) (sRet (cC (.bl true))))) [.v (.loc n), .v (.loc k), .v (.lst nms), .u, .u] h) = _
  rw [e5]
  rfl
end
end G

set_option Elab.async false
set_option linter.all false
set_option maxRecDepth 100000
set_option maxHeartbeats 4000000
/-! P86f: the plain law of k86: the loop. -/
namespace G
open PySem PySem.Spec PyProof.Rows L2

theorem txt_name {x : Str} (h : Nm x = true) : Txt (.str x) (reprText x) := by
  have f := Nm.fw h
  simp only [Nm, Bool.and_eq_true, decide_eq_true_eq] at h
  exact ⟨.str x, py_str.mono (by decide), FW.mono f (by decide) (by decide), by simp [PyData.shown], FW_str h.2.2.2.1 (by omega)⟩
theorem itm_name {x : Str} (h : Nm x = true) : Itm (.str x) := ⟨.inl ⟨x, rfl⟩, _, txt_name h⟩
theorem txt_tups {xs : List Str} {s : Str} (hn : xs.length ≤ 7) (f : FW 1 200 (.tuple (xs.map .str)) = true) (e : (PyData.tuple (xs.map .str)).shown = s) (f' : FW 0 200 (.str s) = true) : Txt (.tup (xs.map .str)) s :=
  ⟨_, (py_tup (n := 1) (by simp) py_strs).mono (by simp; omega), f, e, f'⟩
theorem txt_lsts {xs : List Str} {s : Str} (hn : xs.length ≤ 7) (f : FW 1 200 (.list (xs.map .str)) = true) (e : (PyData.list (xs.map .str)).shown = s) (f' : FW 0 200 (.str s) = true) : Txt (.lst (xs.map .str)) s :=
  ⟨_, (py_lst (n := 1) (by simp) py_strs).mono (by simp; omega), f, e, f'⟩
theorem itm_more : ∀ d ∈ ([.non, .int 1, .str "", .str "A", .tup [.str "a"], .lst []] : List D), Itm d := by
  intro d hd
  simp only [List.mem_cons, List.not_mem_nil, or_false] at hd
  rcases hd with rfl | rfl | rfl | rfl | rfl | rfl
  · exact ⟨.inr ⟨"NoneType", fun _ => rfl, by decide⟩, "None", .none, py_non.mono (by decide), by decide +kernel, rfl, by decide +kernel⟩
  · exact ⟨.inr ⟨"int", fun _ => rfl, by decide⟩, "1", .int 1, py_int.mono (by decide), by decide +kernel, rfl, by decide +kernel⟩
  · exact ⟨.inl ⟨_, rfl⟩, "''", .str "", py_str.mono (by decide), by decide +kernel, by decide +kernel, by decide +kernel⟩
  · exact ⟨.inl ⟨_, rfl⟩, "'A'", .str "A", py_str.mono (by decide), by decide +kernel, by decide +kernel, by decide +kernel⟩
  · exact ⟨.inr ⟨"tuple", fun _ => rfl, by decide⟩, "('a',)", txt_tups (xs := ["a"]) (by decide) (by decide +kernel) (by decide +kernel) (by decide +kernel)⟩
  · exact ⟨.inr ⟨"list", fun _ => rfl, by decide⟩, "[]", txt_lsts (xs := []) (by decide) (by decide +kernel) (by decide +kernel) (by decide +kernel)⟩
/-- a name that is none -/
def BadNm (d : D) : Prop := (∀ h, F_is_name [d] h = .ok (.bl false) h) ∧ ∃ s, Txt d s
def BadPl (d : D) : Prop := (∀ h, F_is_place [d] h = .ok (.bl false) h) ∧ ∃ s, Txt d s
def GoodPl (d : D) : Prop := (∀ h, F_is_place [d] h = .ok (.bl true) h) ∧ ∃ p, Py 10 d p ∧ FW 1 200 p = true
abbrev badNames : List D := [.non, .str "", .str "A", .str "abcdefghi", .int 5, .tup [.str "a"], .str "a b"]
theorem bad_name_str {x s : Str} (h1 : nmB x = false) (h2 : x.length ≤ 40) (h3 : PyData.strOk x = true) (h4 : (PyData.str x).shown = s) (h5 : FW 0 200 (.str s) = true) : BadNm (.str x) :=
  ⟨fun h => by rw [is_name_str (by have : sizeLine = 16777216 := by decide
                                   omega), h1], s, .str x, py_str.mono (by decide), FW.mono (FW_str h3 h2) (by decide) (by decide), h4, h5⟩
theorem bad_names : ∀ d ∈ badNames, BadNm d := by
  intro d hd
  simp only [badNames, List.mem_cons, List.not_mem_nil, or_false] at hd
  rcases hd with rfl | rfl | rfl | rfl | rfl | rfl | rfl
  · exact ⟨fun h => is_name_no (t := "NoneType") rfl (by decide), "None", .none, py_non.mono (by decide), by decide +kernel, rfl, by decide +kernel⟩
  · exact bad_name_str (s := "''") (by decide +kernel) (by decide) (by decide +kernel) (by decide +kernel) (by decide +kernel)
  · exact bad_name_str (s := "'A'") (by decide +kernel) (by decide) (by decide +kernel) (by decide +kernel) (by decide +kernel)
  · exact bad_name_str (s := "'abcdefghi'") (by decide +kernel) (by decide) (by decide +kernel) (by decide +kernel) (by decide +kernel)
  · exact ⟨fun h => is_name_no (t := "int") rfl (by decide), "5", .int 5, py_int.mono (by decide), by decide +kernel, rfl, by decide +kernel⟩
  · exact ⟨fun h => is_name_no (t := "tuple") rfl (by decide), "('a',)", txt_tups (xs := ["a"]) (by decide) (by decide +kernel) (by decide +kernel) (by decide +kernel)⟩
  · exact bad_name_str (s := "'a b'") (by decide +kernel) (by decide) (by decide +kernel) (by decide +kernel) (by decide +kernel)
abbrev badPlaces : List D := [.non, .tup [.str "name", .str "l"], .lst [.str "name", .str "l", .str "a"], .str "name l a", .tup [.str "name", .str "l", .str "A"], .tup []]
theorem is_place_no {d : D} {t : String} {h : List D} (ht : tyD h d = some t) (hs : ty_tuple.lookup t = some false) : F_is_place [d] h = .ok (.bl false) h := by
  show (m_is_place [.v d, .u] h).toR = _
  simp [m_is_place, sSeq, sIf, cOr, cNot, cB, cIsi, cVar, ht, hs, sRet, cC, RS.toR]
theorem bad_places : ∀ d ∈ badPlaces, BadPl d := by
  have hz : sizeLine = 16777216 := by decide
  intro d hd
  simp only [badPlaces, List.mem_cons, List.not_mem_nil, or_false] at hd
  rcases hd with rfl | rfl | rfl | rfl | rfl | rfl
  · exact ⟨fun h => is_place_no (t := "NoneType") rfl (by decide), "None", .none, py_non.mono (by decide), by decide +kernel, rfl, by decide +kernel⟩
  · refine ⟨fun h => ?_, "('name', 'l')", txt_tups (xs := ["name", "l"]) (by decide) (by decide +kernel) (by decide +kernel) (by decide +kernel)⟩
    have := is_place_tup (h := h) "name" ["l"] (by decide) (by intro x hx; rw [List.mem_singleton] at hx; subst hx; rw [hz]; decide)
    simpa [wordLen] using this
  · exact ⟨fun h => is_place_no (t := "list") rfl (by decide), "['name', 'l', 'a']", txt_lsts (xs := ["name", "l", "a"]) (by decide) (by decide +kernel) (by decide +kernel) (by decide +kernel)⟩
  · exact ⟨fun h => is_place_no (t := "str") rfl (by decide), "'name l a'", .str "name l a", py_str.mono (by decide), by decide +kernel, by decide +kernel, by decide +kernel⟩
  · refine ⟨fun h => ?_, "('name', 'l', 'A')", txt_tups (xs := ["name", "l", "A"]) (by decide) (by decide +kernel) (by decide +kernel) (by decide +kernel)⟩
    have := is_place_tup (h := h) "name" ["l", "A"] (by decide) (by intro x hx; rw [hz]; simp only [List.mem_cons, List.not_mem_nil, or_false] at hx; rcases hx with rfl | rfl <;> decide)
    have e : (["l", "A"] : List Str).all nmB = false := by decide +kernel
    rw [e, Bool.and_false] at this
    exact this
  · refine ⟨fun h => ?_, "()", txt_tups (xs := []) (by decide) (by decide +kernel) (by decide +kernel) (by decide +kernel)⟩
    have t1 : ty_tuple.lookup "tuple" = some true := by decide
    show (m_is_place [.v (.tup []), .u] h).toR = _
    simp [m_is_place, sSeq, sIf, cOr, cNot, cB, cIsi, cVar, tyD, t1, c2, cCall, aCons, aNil, f1, lenD, dicOf, seqOf, lstOf, tupOf, cC, oEq, sRet, RS.toR]
theorem good_place {w : Str} {xs : List Str} (hw : wordLen w = xs.length + 1) (hw2 : PyData.strOk w = true ∧ w.length ≤ 40) (hx : ∀ x ∈ xs, Nm x = true) (hl : xs.length ≤ 3) : GoodPl (.tup (.str w :: xs.map .str)) := by
  refine ⟨fun h => ?_, .tuple ((w :: xs).map .str), ?_, ?_⟩
  · have := is_place_tup (h := h) w xs (by omega) (fun x hx' => Nm.len (hx x hx'))
    have e : xs.all nmB = true := List.all_eq_true.mpr fun x hx' => Nm.nm (hx x hx')
    rw [e, decide_eq_true hw, Bool.and_true] at this
    exact this
  · exact (py_tup (n := 1) (ds := (w :: xs).map D.str) (ps := (w :: xs).map PyData.str) (by simp) py_strs).mono (by simp; omega)
  · refine FW.mono (FW_tuple (n := 0) (W := 40) (m := 4) (fun p hp => ?_) (by simp; omega)) (by decide) (by decide)
    obtain ⟨y, hy, rfl⟩ := List.mem_map.mp hp
    rcases List.mem_cons.mp hy with rfl | hy
    · exact FW_str hw2.1 hw2.2
    · exact Nm.fw (hx y hy)
abbrev goodPlaces (x : Str) : List D := [.tup [.str "name", .str "l", .str "a"], .tup [.str "member", .str x, .str "b"], .tup [.str "spread", .str "l", .str "k", .str x]]
theorem good_places {x : Str} (hx : Nm x = true) : ∀ d ∈ goodPlaces x, GoodPl d := by
  have n1 : Nm "l" = true := by decide +kernel
  have n2 : Nm "a" = true := by decide +kernel
  have n3 : Nm "b" = true := by decide +kernel
  have n4 : Nm "k" = true := by decide +kernel
  intro d hd
  simp only [goodPlaces, List.mem_cons, List.not_mem_nil, or_false] at hd
  rcases hd with rfl | rfl | rfl
  · exact good_place (w := "name") (xs := ["l", "a"]) (by decide) (by decide +kernel) (by simp [n1, n2]) (by decide)
  · exact good_place (w := "member") (xs := [x, "b"]) (show wordLen "member" = 3 from by decide) (by decide +kernel) (by simp [hx, n3]) (by simp)
  · exact good_place (w := "spread") (xs := ["l", "k", x]) (show wordLen "spread" = 4 from by decide) (by decide +kernel) (by simp [hx, n1, n4]) (by simp)

/-! ### states -/
structure St (h : List D) (x0 : List Str) (d0 : List D) (x1 : List Str) (d1 : List D) : Prop where
  a0 : At h 0 1 x0 d0
  a1 : At h 2 3 x1 d1
  r0 : h[4]? = some (.dic (kys x0) d0)
  r1 : h[5]? = some (.dic (kys x1) d1)
section
variable {h : List D} {x0 x1 : List Str} {d0 d1 : List D}
theorem St.app (s : St h x0 d0 x1 d1) (t : List D) : St (h ++ t) x0 d0 x1 d1 := ⟨⟨app_get s.a0.o, app_get s.a0.d⟩, ⟨app_get s.a1.o, app_get s.a1.d⟩, app_get s.r0, app_get s.r1⟩
theorem St.set (s : St h x0 d0 x1 d1) {p : Nat} (c : D) (hp : 6 ≤ p) : St (h.set p c) x0 d0 x1 d1 := by
  refine ⟨⟨?_, ?_⟩, ⟨?_, ?_⟩, ?_, ?_⟩
  · rw [set_ne (by omega)]; exact s.a0.o
  · rw [set_ne (by omega)]; exact s.a0.d
  · rw [set_ne (by omega)]; exact s.a1.o
  · rw [set_ne (by omega)]; exact s.a1.d
  · rw [set_ne (by omega)]; exact s.r0
  · rw [set_ne (by omega)]; exact s.r1
theorem St.six (s : St h x0 d0 x1 d1) : 6 ≤ h.length := (List.getElem?_eq_some_iff.mp s.r1).1
end
theorem kput_kys (xs : List Str) (ds : List D) (x : Str) (d : D) : ∃ ys es, kput (kys xs) ds (.inr x) d = (kys ys, es) ∧ (∀ y ∈ ys, y ∈ xs ∨ y = x) ∧ (∀ e ∈ es, e ∈ ds ∨ e = d) ∧ ys.length ≤ xs.length + 1 ∧ (ds.length = xs.length → es.length = ys.length) := by
  unfold kput
  split
  · refine ⟨xs, krep (kys xs) ds (.inr x) d, rfl, fun y hy => .inl hy, fun e he => ?_, by omega, fun hl => by simp [krep, hl]⟩
    unfold krep at he
    obtain ⟨i, hi, rfl⟩ := List.getElem_of_mem he
    rw [List.getElem_zipWith]
    split
    · exact .inr rfl
    · exact .inl (List.getElem_mem _)
  · refine ⟨xs ++ [x], ds ++ [d], by simp, fun y hy => ?_, fun e he => ?_, by simp, fun hl => by simp [hl]⟩
    · simpa using hy
    · simpa using he
/-- a name noted -/
theorem tb_put {xs : List Str} {ds : List D} {x : Str} {d : D} (t : Tb xs ds) (few : xs.length ≤ 29) (hx : Nm x = true) (hd : ∃ p, Py 10 d p ∧ FW 1 200 p = true) : ∃ ys es, kput (kys xs) ds (.inr x) d = (kys ys, es) ∧ Tb ys es ∧ ys.length ≤ xs.length + 1 := by
  obtain ⟨ys, es, e, h1, h2, h3, h4⟩ := kput_kys xs ds x d
  refine ⟨ys, es, e, ⟨h4 t.len, by omega, fun y hy => ?_, fun z hz => ?_⟩, h3⟩
  · rcases h1 y hy with hy | rfl
    · exact t.nms y hy
    · exact hx
  · rcases h2 z hz with hz | rfl
    · exact t.plc z hz
    · exact hd
end G

set_option Elab.async false
set_option linter.all false
set_option maxRecDepth 100000
set_option maxHeartbeats 4000000
/-! P86g: the plain law of k86: the law. -/
namespace G
open PySem PySem.Spec PyProof.Rows L2

def p_law_0 : MS := sPar 4 5 (aCons (cLst (aCons (cCall (mkF "Notes" F_Notes___init__) (aNil)) (aCons (cCall (mkF "Notes" F_Notes___init__) (aNil)) (aNil)))) (aCons (cLst (aCons (cDicN) (aCons (cDicN) (aNil)))) (aNil)))
def p_law_1 : MS := sSet 1 (cCall F_law_names_of (aCons (cCall F_law_pool_of (aCons (cVar 0) (aCons (cC (.int 0)) (aNil)))) (aCons (cC (.int 4)) (aNil))))
def p_law_2b_0 : MS := sSet 6 (cCall F_law_pool_of (aCons (cVar 0) (aCons (cVar 2) (aNil))))
def p_law_2b_1 : MS := sPar 9 10 (aCons (cCall F_law_draw (aCons (cVar 6) (aCons (cC (.int 2)) (aNil)))) (aCons (cCall F_law_pick (aCons (cVar 6) (aCons (cVar 1) (aNil)))) (aNil)))
def p_law_2b_2 : MS := sSet 7 (cCall F_law_pick (aCons (cVar 6) (aCons (cLst (aCons (cTup (aCons (cC (.str "name")) (aCons (cC (.str "l")) (aCons (cC (.str "a")) (aNil))))) (aCons (cTup (aCons (cC (.str "member")) (aCons (cVar 10) (aCons (cC (.str "b")) (aNil))))) (aCons (cTup (aCons (cC (.str "spread")) (aCons (cC (.str "l")) (aCons (cC (.str "k")) (aCons (cVar 10) (aNil)))))) (aNil))))) (aNil))))
def p_law_2b_3 : MS := sSet 8 (cCall F_law_draw (aCons (cVar 6) (aCons (cC (.int 8)) (aNil))))
def p_law_2b_4y_0 : MS := sSet 10 (cCall F_law_pick (aCons (cVar 6) (aCons (cLst (aCons (cC .non) (aCons (cC (.str "")) (aCons (cC (.str "A")) (aCons (cC (.str "abcdefghi")) (aCons (cC (.int 5)) (aCons (cTup (aCons (cC (.str "a")) (aNil))) (aCons (cC (.str "a b")) (aNil))))))))) (aNil))))
def p_law_2b_4y : MS := p_law_2b_4y_0
def p_law_2b_4n_0 : MS := sNil
def p_law_2b_4n : MS := p_law_2b_4n_0
def p_law_2b_4t : MT := cB (c2 (oEq false) (cVar 8) (cC (.int 0)))
def p_law_2b_4 : MS := sIf p_law_2b_4t p_law_2b_4y p_law_2b_4n
def p_law_2b_5y_0 : MS := sSet 7 (cCall F_law_pick (aCons (cVar 6) (aCons (cLst (aCons (cC .non) (aCons (cTup (aCons (cC (.str "name")) (aCons (cC (.str "l")) (aNil)))) (aCons (cLst (aCons (cC (.str "name")) (aCons (cC (.str "l")) (aCons (cC (.str "a")) (aNil))))) (aCons (cC (.str "name l a")) (aCons (cTup (aCons (cC (.str "name")) (aCons (cC (.str "l")) (aCons (cC (.str "A")) (aNil))))) (aCons (cTup (aNil)) (aNil)))))))) (aNil))))
def p_law_2b_5y : MS := p_law_2b_5y_0
def p_law_2b_5n_0 : MS := sNil
def p_law_2b_5n : MS := p_law_2b_5n_0
def p_law_2b_5t : MT := cOr (cB (c2 (oEq false) (cVar 8) (cC (.int 1)))) (cAnd (cB (c2 (oEq false) (cVar 8) (cC (.int 0)))) (cB (c2 (oEq false) (cCall F_law_draw (aCons (cVar 6) (aCons (cC (.int 2)) (aNil)))) (cC (.int 0)))))
def p_law_2b_5 : MS := sIf p_law_2b_5t p_law_2b_5y p_law_2b_5n
def p_law_2b_6 : MS := sPar 11 12 (aCons (c2 oIx (cVar 4) (cVar 9)) (aCons (cLst (aNil)) (aNil)))
def p_law_2b_7y_0 : MS := sSet 12 (cLst (aCons (cC (.str "name")) (aCons (cCall (f1 reprD) (aCons (cVar 10) (aNil))) (aNil))))
def p_law_2b_7y : MS := p_law_2b_7y_0
def p_law_2b_7n_0y_0 : MS := sSet 12 (cLst (aCons (cC (.str "place")) (aCons (cCall (f1 reprD) (aCons (cVar 7) (aNil))) (aNil))))
def p_law_2b_7n_0y : MS := p_law_2b_7n_0y_0
def p_law_2b_7n_0n_0 : MS := sNil
def p_law_2b_7n_0n : MS := p_law_2b_7n_0n_0
def p_law_2b_7n_0t : MT := cB (c2 (oEq false) (cVar 8) (cC (.int 1)))
def p_law_2b_7n_0 : MS := sIf p_law_2b_7n_0t p_law_2b_7n_0y p_law_2b_7n_0n
def p_law_2b_7n : MS := p_law_2b_7n_0
def p_law_2b_7t : MT := cB (c2 (oEq false) (cVar 8) (cC (.int 0)))
def p_law_2b_7 : MS := sIf p_law_2b_7t p_law_2b_7y p_law_2b_7n
def p_law_2b_8y_0 : MS := sRet (cC (.bl false))
def p_law_2b_8y : MS := p_law_2b_8y_0
def p_law_2b_8n_0 : MS := sNil
def p_law_2b_8n : MS := p_law_2b_8n_0
def p_law_2b_8t : MT := cB (c2 (oEq true) (cCall F_law_noted_of (aCons (cVar 11) (aCons (cVar 10) (aCons (cVar 7) (aNil))))) (cVar 12))
def p_law_2b_8 : MS := sIf p_law_2b_8t p_law_2b_8y p_law_2b_8n
def p_law_2b_9y_0 : MS := sSub (c2 oIx (cVar 5) (cVar 9)) (cVar 10) (cVar 7)
def p_law_2b_9y : MS := p_law_2b_9y_0
def p_law_2b_9n_0 : MS := sNil
def p_law_2b_9n : MS := p_law_2b_9n_0
def p_law_2b_9t : MT := cB (c2 (oEq false) (cVar 12) (cLst (aNil)))
def p_law_2b_9 : MS := sIf p_law_2b_9t p_law_2b_9y p_law_2b_9n
def p_law_2b_10y_0 : MS := sRet (cC (.bl false))
def p_law_2b_10y : MS := p_law_2b_10y_0
def p_law_2b_10n_0 : MS := sNil
def p_law_2b_10n : MS := p_law_2b_10n_0
def p_law_2b_10t : MT := cOr (cNot (cB (cCall F_law_fits (aCons (c2 oIx (cVar 4) (cC (.int 0))) (aCons (c2 oIx (cVar 5) (cC (.int 0))) (aCons (cVar 1) (aNil))))))) (cNot (cB (cCall F_law_fits (aCons (c2 oIx (cVar 4) (cC (.int 1))) (aCons (c2 oIx (cVar 5) (cC (.int 1))) (aCons (cVar 1) (aNil)))))))
def p_law_2b_10 : MS := sIf p_law_2b_10t p_law_2b_10y p_law_2b_10n
def p_law_2b : MS := sSeq p_law_2b_0 (sSeq p_law_2b_1 (sSeq p_law_2b_2 (sSeq p_law_2b_3 (sSeq p_law_2b_4 (sSeq p_law_2b_5 (sSeq p_law_2b_6 (sSeq p_law_2b_7 (sSeq p_law_2b_8 (sSeq p_law_2b_9 p_law_2b_10)))))))))
def p_law_2i : MA := iRange1 (aCons (cCall (f2 minD) (aCons (cC (.int 24)) (aCons (cCall (f2 maxD) (aCons (cCall (f1 lenD) (aCons (cVar 0) (aNil))) (aCons (cC (.int 6)) (aNil)))) (aNil)))) (aNil))
def p_law_2 : MS := sFor p_law_2i (gN 2) p_law_2b
def p_law_3 : MS := sSet 3 (cMeth "Notes" "listed" F_Notes_listed (c2 oIx (cVar 4) (cC (.int 0))) (aNil))
def p_law_4 : MS := sExpr (cApp (cVar 3) (cC .non))
def p_law_5 : MS := sRet (cCall F_law_fits (aCons (c2 oIx (cVar 4) (cC (.int 0))) (aCons (c2 oIx (cVar 5) (cC (.int 0))) (aCons (cVar 1) (aNil)))))
def p_law : MS := sSeq p_law_0 (sSeq p_law_1 (sSeq p_law_2 (sSeq p_law_3 (sSeq p_law_4 p_law_5))))
theorem m_law_eq : m_law = p_law := rfl
def p_law_names_of_0 : MS := sSet 2 (cC (.str "abcdefghijklmnopqrstuvwxyz"))
def p_law_names_of_1 : MS := sAsg (gT 2 (gsC (gN 4) (gsC (gN 5) (gsN)))) (cTup (aCons (cCall F_law_draw (aCons (cVar 0) (aCons (cC (.int 26)) (aNil)))) (aCons (c2 oPlus (cC (.int 1)) (c2 oMul (cC (.int 2)) (cCall F_law_draw (aCons (cVar 0) (aCons (cC (.int 6)) (aNil)))))) (aNil))))
def p_law_names_of_2 : MS := sSet 3 (cLst (aCons (cTup (aCons (cC (.str "")) (aCons (cC (.str "")) (aNil)))) (aCons (cTup (aCons (cC (.str "")) (aCons (cC (.str "q")) (aNil)))) (aCons (cTup (aCons (cC (.str "ab")) (aCons (cC (.str "")) (aNil)))) (aCons (cTup (aCons (cC (.str "abcdefg")) (aCons (cC (.str "")) (aNil)))) (aCons (cTup (aCons (cC (.str "")) (aCons (cC (.str "abcdefg")) (aNil)))) (aNil)))))))
def p_law_names_of_3 : MS := sAsg (gT 2 (gsC (gN 6) (gsC (gN 7) (gsN)))) (cCall F_law_pick (aCons (cVar 0) (aCons (cVar 3) (aNil))))
def p_law_names_of_4 : MS := sRet (cLc (iRange1 (aCons (cVar 1) (aNil))) (gN 8) (mYes) (c2 oPlus (c2 oPlus (cVar 6) (c2 oIx (cVar 2) (c2 oMod (c2 oPlus (cVar 4) (c2 oMul (cVar 5) (cVar 8))) (cC (.int 26))))) (cVar 7)) [8])
def p_law_names_of : MS := sSeq p_law_names_of_0 (sSeq p_law_names_of_1 (sSeq p_law_names_of_2 (sSeq p_law_names_of_3 p_law_names_of_4)))
theorem m_law_names_of_eq : m_law_names_of = p_law_names_of := rfl

/-! ### the names -/
def ENDS : List (Str × Str) := [("", ""), ("", "q"), ("ab", ""), ("abcdefg", ""), ("", "abcdefg")]
def signAt (z : Int) : Nat := (LET.cps.toList[(z % 26).toNat]?).getD 0
def mkName (hd tl : Str) (z : Int) : Str := hd ++ ⟨#[signAt z]⟩ ++ tl
theorem names_nm : ∀ p ∈ ENDS, ∀ i ∈ List.range 26, Nm (p.1 ++ ⟨#[(LET.cps.toList[i]?).getD 0]⟩ ++ p.2) = true := by decide +kernel
theorem mkName_nm {p : Str × Str} (hp : p ∈ ENDS) (z : Int) : Nm (mkName p.1 p.2 z) = true :=
  names_nm p hp (z % 26).toNat (List.mem_range.mpr (by have := Int.emod_nonneg z (show (26 : Int) ≠ 0 by decide); have := Int.emod_lt_of_pos z (show (0 : Int) < 26 by decide); omega))
theorem LET_len : LET.cps.toList.length = 26 := by decide +kernel
theorem LET_at {z : Int} (h0 : 0 ≤ z) (h1 : z < 26) : atI LET.cps.toList z = some ((LET.cps.toList[z.toNat]?).getD 0) := by
  have hl : z.toNat < LET.cps.toList.length := by rw [LET_len]; omega
  unfold atI ixN
  rw [if_pos h0, if_pos (by rw [LET_len]; exact h1)]
  simp [List.getElem?_eq_getElem hl]
abbrev endsD : List D := ENDS.map fun p => D.tup [.str p.1, .str p.2]
theorem ends_len : endsD.length = 5 := rfl
theorem ends_short : ∀ p ∈ ENDS, p.1.length + p.2.length ≤ 10 ∧ p.1.length ≤ 10 := by decide +kernel
theorem names_of_ok {h : List D} {p : Nat} (P : Pool h p) : ∃ (xs : List Str) (c : D), F_law_names_of [.loc p, .int 4] h = .ok (.lst (xs.map .str)) (h.set p c) ∧ xs.length = 4 ∧ ∀ x ∈ xs, Nm x = true := by
  have hz : sizeLine = 16777216 := by decide
  obtain ⟨o, c1, e1, o0, o1, P1⟩ := draw_ok (many := 26) P (by decide) (by decide)
  obtain ⟨r, c2', e2, r0, r1, P2⟩ := draw_ok (many := 6) P1 (by decide) (by decide)
  obtain ⟨j, d, c3, hj, e3, P3⟩ := pick_ok (row := endsD) P2 (by rw [ends_len]; decide) (by rw [ends_len]; decide)
  have hd : d ∈ endsD := List.mem_of_getElem? hj
  obtain ⟨q, hq, rfl⟩ := List.mem_map.mp hd
  have m2 : cMul 2 r = true := by simp [cMul]
  have k0 : p_law_names_of_0 [.v (.loc p), .v (.int 4), .u, .u, .u, .u, .u, .u, .u] h = .nx [.v (.loc p), .v (.int 4), .v (.str LET), .u, .u, .u, .u, .u, .u] h := rfl
  have k1 : p_law_names_of_1 [.v (.loc p), .v (.int 4), .v (.str LET), .u, .u, .u, .u, .u, .u] h = .nx [.v (.loc p), .v (.int 4), .v (.str LET), .u, .v (.int o), .v (.int (1 + 2 * r)), .u, .u, .u] ((h.set p c1).set p c2') := by
    have h2 : (2 : Nat) ≤ sizeLine := by omega
    simp only [p_law_names_of_1, sAsg, cTup, aCons, cCall, cVar, cC, aNil, R.bind_ok, List.getElem?_cons_zero, e1, c2, e2, oMul, oI, m2, cond_true, oPlus, List.length_cons, List.length_nil, if_pos h2, R.thenS_ok, gT, gsC, gN, gsN]
    rfl
  have k2 : p_law_names_of_2 [.v (.loc p), .v (.int 4), .v (.str LET), .u, .v (.int o), .v (.int (1 + 2 * r)), .u, .u, .u] ((h.set p c1).set p c2') = .nx [.v (.loc p), .v (.int 4), .v (.str LET), .v (.lst endsD), .v (.int o), .v (.int (1 + 2 * r)), .u, .u, .u] ((h.set p c1).set p c2') := by
    have h2 : (2 : Nat) ≤ sizeLine := by omega
    have h5 : (5 : Nat) ≤ sizeLine := by omega
    simp [p_law_names_of_2, sSet, cLst, cTup, aCons, aNil, cC, h2, h5, endsD, ENDS]
  have k3 : p_law_names_of_3 [.v (.loc p), .v (.int 4), .v (.str LET), .v (.lst endsD), .v (.int o), .v (.int (1 + 2 * r)), .u, .u, .u] ((h.set p c1).set p c2') = .nx [.v (.loc p), .v (.int 4), .v (.str LET), .v (.lst endsD), .v (.int o), .v (.int (1 + 2 * r)), .v (.str q.1), .v (.str q.2), .u] (((h.set p c1).set p c2').set p c3) := by
    simp only [p_law_names_of_3, sAsg, cCall, aCons, aNil, cVar, R.bind_ok, List.getElem?_cons_zero, List.getElem?_cons_succ, e3, R.thenS_ok, gT, gsC, gN, gsN]
    rfl
  generalize hH : (((h.set p c1).set p c2').set p c3) = h' at k3
  have hh : h' = h.set p c3 := by rw [← hH, List.set_set, List.set_set]
  have wk := lcGo_map (T := gN 8) (te := c2 oPlus (c2 oPlus (cVar 6) (c2 oIx (cVar 2) (c2 oMod (c2 oPlus (cVar 4) (c2 oMul (cVar 5) (cVar 8))) (cC (.int 26))))) (cVar 7)) (env := [.v (.loc p), .v (.int 4), .v (.str LET), .v (.lst endsD), .v (.int o), .v (.int (1 + 2 * r)), .v (.str q.1), .v (.str q.2), .u]) (h := h') (f := fun d => match d with | .int k => .str (mkName q.1 q.2 (o + (1 + 2 * r) * k)) | _ => .non) (rangeD 0 4) (by rw [hz]; decide) (fun d hd => by
    obtain ⟨i, _, rfl⟩ := List.mem_map.mp hd
    refine ⟨_, rfl, ?_⟩
    have m1 : cMul (1 + 2 * r) (0 + (i : Int)) = true := by
      simp only [cMul, Bool.or_eq_true, Bool.and_eq_true, decide_eq_true_eq]
      left
      have e64 : (2 : Int) ^ 64 = 18446744073709551616 := by decide +kernel
      rw [e64]
      omega
    generalize hz2 : o + (1 + 2 * r) * (0 + (i : Int)) = z
    have z0 := Int.emod_nonneg z (show (26 : Int) ≠ 0 by decide)
    have z1 := Int.emod_lt_of_pos z (show (0 : Int) < 26 by decide)
    have la := LET_at z0 z1
    have sh := ends_short q hq
    have ll : LET.length ≤ sizeLine := by rw [hz]; decide +kernel
    have one : ∀ c : Nat, (⟨#[c]⟩ : Str).length = 1 := fun _ => rfl
    have s1 : q.1.length + 1 ≤ sizeLine := by omega
    have s2 : (q.1 ++ (⟨#[signAt z]⟩ : Str)).length + q.2.length ≤ sizeLine := by rw [Str.length_append, one]; omega
    simp only [c2, cVar, List.set_cons_succ, List.set_cons_zero, List.getElem?_cons_zero, List.getElem?_cons_succ, R.bind_ok, oMul, oI, m1, cond_true, oPlus, hz2, oMod, show decide ((0 : Int) < 26) = true from rfl, cC, oIx, dicOf, la, decide_eq_true ll, one, decide_eq_true s1]
    rw [show (⟨#[(LET.cps.toList[(z % 26).toNat]?).getD 0]⟩ : Str) = ⟨#[signAt z]⟩ from rfl, decide_eq_true s2]
    rfl)
  have src : iRange1 (aCons (cVar 1) (aNil)) [.v (.loc p), .v (.int 4), .v (.str LET), .v (.lst endsD), .v (.int o), .v (.int (1 + 2 * r)), .v (.str q.1), .v (.str q.2), .u] h' = .ok (rangeD 0 4) h' := by
    unfold iRange1 aCons aNil
    simp only [cVar, List.getElem?_cons_zero, List.getElem?_cons_succ, R.bind_ok]
    rw [show (decide (-(2 ^ 62) ≤ (4 : Int)) && decide ((4 : Int) < 2 ^ 62)) = true by decide +kernel]
    rfl
  have k4 : p_law_names_of_4 [.v (.loc p), .v (.int 4), .v (.str LET), .v (.lst endsD), .v (.int o), .v (.int (1 + 2 * r)), .v (.str q.1), .v (.str q.2), .u] h' = .rt (.lst ((List.range 4).map fun (i : Nat) => D.str (mkName q.1 q.2 (o + (1 + 2 * r) * (0 + (i : Int)))))) h' := by
    unfold p_law_names_of_4 sRet cLc aLc
    rw [src]
    simp only [R.bind_ok, noX, List.all_cons, List.all_nil, Sl.noX, Bool.and_self, cond_true]
    show R.thenS (R.bind (lcGo (gN 8) mYes _ [.v (.loc p), .v (.int 4), .v (.str LET), .v (.lst endsD), .v (.int o), .v (.int (1 + 2 * r)), .v (.str q.1), .v (.str q.2), .u] _ _ h') _) _ _ = _
    rw [wk]
    simp only [R.bind_ok, R.thenS_ok, rangeD, List.map_map]
    rfl
  refine ⟨(List.range 4).map fun (i : Nat) => mkName q.1 q.2 (o + (1 + 2 * r) * (0 + (i : Int))), c3, ?_, by simp, fun x hx => ?_⟩
  · show (m_law_names_of [.v (.loc p), .v (.int 4), .u, .u, .u, .u, .u, .u, .u] h).toR = _
    rw [m_law_names_of_eq]
    unfold p_law_names_of
    rw [sSeq_nx k0, sSeq_nx k1, sSeq_nx k2, sSeq_nx k3, k4, hh, List.map_map]
    rfl
  · obtain ⟨i, _, rfl⟩ := List.mem_map.mp hx
    exact mkName_nm hq _
end G

set_option Elab.async false
set_option linter.all false
set_option maxRecDepth 100000
set_option maxHeartbeats 4000000
/-! P86h: the plain law of k86: a round. -/
namespace G
open PySem PySem.Spec PyProof.Rows L2

abbrev TABS : D := .lst [.loc 0, .loc 2]
abbrev ROWS : D := .lst [.loc 4, .loc 5]
abbrev EV (ns : List Int) (nms : List D) (k : Int) (s3 po pl kd tt na no du : Sl) : List Sl := [.v (.scr ns), .v (.lst nms), .v (.int k), s3, .v TABS, .v ROWS, po, pl, kd, tt, na, no, du]
section
variable {h : List D} {ns : List Int} {xs : List Str} {k : Int} {s3 po pl kd tt na no du : Sl} {p : Nat}
theorem b0 (k0 : 0 ≤ k) (k1 : k < 64) : ∃ c, p_law_2b_0 (EV ns (xs.map .str) k s3 po pl kd tt na no du) h = .nx (EV ns (xs.map .str) k s3 (.v (.loc h.length)) pl kd tt na no du) (h ++ [c]) ∧ Pool (h ++ [c]) h.length := by
  obtain ⟨c, e, P⟩ := pool_ok (ns := ns) (h := h) k0 k1
  refine ⟨c, ?_, P⟩
  simp [p_law_2b_0, sSet, cCall, aCons, aNil, cVar, e]
theorem b1 (P : Pool h p) (hl : xs.length = 4) : ∃ (a : Int) (x : Str) (c : D), p_law_2b_1 (EV ns (xs.map .str) k s3 (.v (.loc p)) pl kd tt na no du) h = .nx (EV ns (xs.map .str) k s3 (.v (.loc p)) pl kd (.v (.int a)) (.v (.str x)) no du) (h.set p c) ∧ Pool (h.set p c) p ∧ (a = 0 ∨ a = 1) ∧ x ∈ xs := by
  obtain ⟨a, c1, e1, a0, a1, P1⟩ := draw_ok (many := 2) P (by decide) (by decide)
  obtain ⟨j, d, c2', hj, e2, P2⟩ := pick_ok (row := xs.map .str) P1 (by simp [hl]) (by simp [hl])
  rw [List.set_set] at e2 P2
  obtain ⟨x, hx, rfl⟩ := List.mem_map.mp (List.mem_of_getElem? hj)
  refine ⟨a, x, c2', ?_, P2, by omega, hx⟩
  simp [p_law_2b_1, sPar, cCall, aCons, aNil, cVar, cC, e1, e2]
theorem b2 (P : Pool h p) {x : Str} : ∃ (d c : D), p_law_2b_2 (EV ns (xs.map .str) k s3 (.v (.loc p)) pl kd tt (.v (.str x)) no du) h = .nx (EV ns (xs.map .str) k s3 (.v (.loc p)) (.v d) kd tt (.v (.str x)) no du) (h.set p c) ∧ Pool (h.set p c) p ∧ d ∈ goodPlaces x := by
  have hz : sizeLine = 16777216 := by decide
  have z3 : (3 : Nat) ≤ sizeLine := by omega
  have z4 : (4 : Nat) ≤ sizeLine := by omega
  obtain ⟨j, d, c, hj, e, P1⟩ := pick_ok (row := goodPlaces x) P (by simp) (by simp)
  refine ⟨d, c, ?_, P1, List.mem_of_getElem? hj⟩
  simp [p_law_2b_2, sSet, cCall, aCons, aNil, cVar, cC, cLst, cTup, z3, z4, e]
theorem b3 (P : Pool h p) : ∃ (a : Int) (c : D), p_law_2b_3 (EV ns (xs.map .str) k s3 (.v (.loc p)) pl kd tt na no du) h = .nx (EV ns (xs.map .str) k s3 (.v (.loc p)) pl (.v (.int a)) tt na no du) (h.set p c) ∧ Pool (h.set p c) p := by
  obtain ⟨a, c1, e1, a0, a1, P1⟩ := draw_ok (many := 8) P (by decide) (by decide)
  refine ⟨a, c1, ?_, P1⟩
  simp [p_law_2b_3, sSet, cCall, aCons, aNil, cVar, cC, e1]
theorem b4 (P : Pool h p) {a : Int} {d0 : D} : ∃ (d c : D), p_law_2b_4 (EV ns (xs.map .str) k s3 (.v (.loc p)) pl (.v (.int a)) tt (.v d0) no du) h = .nx (EV ns (xs.map .str) k s3 (.v (.loc p)) pl (.v (.int a)) tt (.v d) no du) (h.set p c) ∧ Pool (h.set p c) p ∧ ((a = 0 ∧ d ∈ badNames) ∨ (a ≠ 0 ∧ d = d0)) := by
  have hz : sizeLine = 16777216 := by decide
  have z1 : (1 : Nat) ≤ sizeLine := by omega
  have z7 : (7 : Nat) ≤ sizeLine := by omega
  by_cases ha : a = 0
  · subst ha
    obtain ⟨j, d, c, hj, e, P1⟩ := pick_ok (row := badNames) P (by decide) (by decide)
    refine ⟨d, c, ?_, P1, .inl ⟨rfl, List.mem_of_getElem? hj⟩⟩
    simp [p_law_2b_4, p_law_2b_4t, p_law_2b_4y, p_law_2b_4y_0, sIf, cB, c2, cVar, cC, oEq, sSet, cCall, aCons, aNil, cLst, cTup, z1, z7, e]
  · obtain ⟨A, B, hA, hB⟩ := P
    refine ⟨d0, .lst [.int A, .int B], ?_, ?_, .inr ⟨ha, rfl⟩⟩
    · rw [set_same hA]
      simp [p_law_2b_4, p_law_2b_4t, p_law_2b_4n, p_law_2b_4n_0, sIf, cB, c2, cVar, cC, oEq, ha, sNil]
    · rw [set_same hA]; exact ⟨A, B, hA, hB⟩
theorem b5 (P : Pool h p) {a : Int} {d0 : D} : ∃ (d c : D), p_law_2b_5 (EV ns (xs.map .str) k s3 (.v (.loc p)) (.v d0) (.v (.int a)) tt na no du) h = .nx (EV ns (xs.map .str) k s3 (.v (.loc p)) (.v d) (.v (.int a)) tt na no du) (h.set p c) ∧ (a = 0 ∨ (a = 1 ∧ d ∈ badPlaces) ∨ (a ≠ 0 ∧ a ≠ 1 ∧ d = d0)) := by
  have hz : sizeLine = 16777216 := by decide
  have z0 : (0 : Nat) ≤ sizeLine := by omega
  have z2 : (2 : Nat) ≤ sizeLine := by omega
  have z3 : (3 : Nat) ≤ sizeLine := by omega
  have z6 : (6 : Nat) ≤ sizeLine := by omega
  have pick : ∀ {h : List D}, Pool h p → ∃ d c, p_law_2b_5y (EV ns (xs.map .str) k s3 (.v (.loc p)) (.v d0) (.v (.int a)) tt na no du) h = .nx (EV ns (xs.map .str) k s3 (.v (.loc p)) (.v d) (.v (.int a)) tt na no du) (h.set p c) ∧ d ∈ badPlaces := fun {h} P => by
    obtain ⟨j, d, c, hj, e, P1⟩ := pick_ok (row := badPlaces) P (by decide) (by decide)
    refine ⟨d, c, ?_, List.mem_of_getElem? hj⟩
    simp [p_law_2b_5y, p_law_2b_5y_0, cVar, cC, sSet, cCall, aCons, aNil, cLst, cTup, z0, z2, z3, z6, e]
  by_cases h1 : a = 1
  · subst h1
    obtain ⟨d, c, e, hd⟩ := pick P
    refine ⟨d, c, ?_, .inr (.inl ⟨rfl, hd⟩)⟩
    rw [← e]
    simp [p_law_2b_5, p_law_2b_5t, sIf, cOr, cB, c2, cVar, cC, oEq]
  · by_cases ha : a = 0
    · subst ha
      obtain ⟨r, c1, e1, r0, r1, P1⟩ := draw_ok (many := 2) P (by decide) (by decide)
      by_cases hr : r = 0
      · subst hr
        obtain ⟨d, c, e, hd⟩ := pick P1
        rw [List.set_set] at e
        refine ⟨d, c, ?_, .inl rfl⟩
        rw [← e]
        simp [p_law_2b_5, p_law_2b_5t, sIf, cOr, cAnd, cB, c2, cVar, cC, oEq, cCall, aCons, aNil, e1]
      · refine ⟨d0, c1, ?_, .inl rfl⟩
        simp [p_law_2b_5, p_law_2b_5t, p_law_2b_5n, p_law_2b_5n_0, sNil, sIf, cOr, cAnd, cB, c2, cVar, cC, oEq, cCall, aCons, aNil, e1, hr]
    · obtain ⟨A, B, hA, hB⟩ := P
      refine ⟨d0, .lst [.int A, .int B], ?_, .inr (.inr ⟨ha, h1, rfl⟩)⟩
      rw [set_same hA]
      simp [p_law_2b_5, p_law_2b_5t, p_law_2b_5n, p_law_2b_5n_0, sNil, sIf, cOr, cAnd, cB, c2, cVar, cC, oEq, ha, h1]
/-- what is drawn in a round -/
theorem drawn {x0 x1 : List Str} {d0 d1 : List D} (s : St h x0 d0 x1 d1) (hl : xs.length = 4) (hx : ∀ x ∈ xs, Nm x = true) (k0 : 0 ≤ k) (k1 : k < 64) :
    ∃ (a kd' : Int) (nd pd : D) (h' : List D) (po' : Sl), (∀ r : MS, (sSeq p_law_2b_0 (sSeq p_law_2b_1 (sSeq p_law_2b_2 (sSeq p_law_2b_3 (sSeq p_law_2b_4 (sSeq p_law_2b_5 r)))))) (EV ns (xs.map .str) k s3 po pl kd tt na no du) h = r (EV ns (xs.map .str) k s3 po' (.v pd) (.v (.int kd')) (.v (.int a)) (.v nd) no du) h')
      ∧ St h' x0 d0 x1 d1 ∧ (a = 0 ∨ a = 1) ∧ ((kd' = 0 ∧ BadNm nd) ∨ (kd' = 1 ∧ (∃ x, Nm x = true ∧ nd = .str x) ∧ BadPl pd) ∨ (kd' ≠ 0 ∧ kd' ≠ 1 ∧ ∃ x, Nm x = true ∧ nd = .str x ∧ GoodPl pd)) := by
  have six := s.six
  obtain ⟨c0, e0, P0⟩ := b0 (h := h) (ns := ns) (xs := xs) (s3 := s3) (po := po) (pl := pl) (kd := kd) (tt := tt) (na := na) (no := no) (du := du) k0 k1
  have s0 := s.app [c0]
  obtain ⟨a, x, c1, e1, P1, ha, hxx⟩ := b1 (ns := ns) (k := k) (s3 := s3) (pl := pl) (kd := kd) (tt := tt) (na := na) (no := no) (du := du) P0 hl
  obtain ⟨pd0, c2', e2, P2, hp⟩ := b2 (ns := ns) (xs := xs) (k := k) (s3 := s3) (pl := pl) (kd := kd) (tt := .v (.int a)) (no := no) (du := du) (x := x) P1
  obtain ⟨kd', c3, e3, P3⟩ := b3 (ns := ns) (xs := xs) (k := k) (s3 := s3) (pl := .v pd0) (kd := kd) (tt := .v (.int a)) (na := .v (.str x)) (no := no) (du := du) P2
  obtain ⟨nd, c4, e4, P4, hn⟩ := b4 (ns := ns) (xs := xs) (k := k) (s3 := s3) (pl := .v pd0) (tt := .v (.int a)) (no := no) (du := du) (a := kd') (d0 := .str x) P3
  obtain ⟨pd, c5, e5, hpd⟩ := b5 (ns := ns) (xs := xs) (k := k) (s3 := s3) (tt := .v (.int a)) (na := .v nd) (no := no) (du := du) (a := kd') (d0 := pd0) P4
  refine ⟨a, kd', nd, pd, _, .v (.loc h.length), fun r => ?_, ((((s0.set c1 six).set c2' six).set c3 six).set c4 six).set c5 six, ha, ?_⟩
  · rw [sSeq_nx e0, sSeq_nx e1, sSeq_nx e2, sSeq_nx e3, sSeq_nx e4, sSeq_nx e5]
  · rcases hn with ⟨z, hn⟩ | ⟨z, rfl⟩
    · exact .inl ⟨z, bad_names _ hn⟩
    · rcases hpd with q | ⟨q, hpd⟩ | ⟨_, q, rfl⟩
      · exact absurd q z
      · exact .inr (.inl ⟨q, ⟨x, hx x hxx, rfl⟩, bad_places _ hpd⟩)
      · exact .inr (.inr ⟨z, q, x, hx x hxx, rfl, good_places (hx x hxx) _ hp⟩)
end
end G

set_option Elab.async false
set_option linter.all false
set_option maxRecDepth 100000
set_option maxHeartbeats 4000000
/-! P86i: the plain law of k86: the loop, the law. -/
namespace G
open PySem PySem.Spec PyProof.Rows L2

section
variable {h : List D} {ns : List Int} {xs : List Str} {k : Int} {s3 po pl kd tt na no du : Sl} {p : Nat} {x0 x1 : List Str} {d0 d1 : List D}
theorem b6 {a : Int} (ha : a = 0 ∨ a = 1) : p_law_2b_6 (EV ns (xs.map .str) k s3 po pl kd (.v (.int a)) na no du) h = .nx (EV ns (xs.map .str) k s3 po pl kd (.v (.int a)) na (.v (.loc (if a = 0 then 0 else 2))) (.v (.lst []))) h := by
  have hz : sizeLine = 16777216 := by decide
  have z0 : (0 : Nat) ≤ sizeLine := by omega
  rcases ha with rfl | rfl
  · simp [p_law_2b_6, sPar, aCons, aNil, cVar, c2, oIx, dicOf, seqOf, lstOf, atI, ixN, cLst, z0]
  · simp [p_law_2b_6, sPar, aCons, aNil, cVar, c2, oIx, dicOf, seqOf, lstOf, atI, ixN, cLst, z0]
/-- what the round wants -/
theorem b7 {kk : Int} {nd pd : D} {due : List D} (hd : (kk = 0 ∧ ∃ s, Txt nd s ∧ due = [.str "name", .str s]) ∨ (kk = 1 ∧ ∃ s, Txt pd s ∧ due = [.str "place", .str s]) ∨ (kk ≠ 0 ∧ kk ≠ 1 ∧ due = [])) :
    p_law_2b_7 (EV ns (xs.map .str) k s3 po (.v pd) (.v (.int kk)) tt (.v nd) no (.v (.lst []))) h = .nx (EV ns (xs.map .str) k s3 po (.v pd) (.v (.int kk)) tt (.v nd) no (.v (.lst due))) h := by
  have hz : sizeLine = 16777216 := by decide
  have z2 : (2 : Nat) ≤ sizeLine := by omega
  rcases hd with ⟨rfl, s, t, rfl⟩ | ⟨rfl, s, t, rfl⟩ | ⟨n0, n1, rfl⟩
  · simp [p_law_2b_7, p_law_2b_7t, p_law_2b_7y, p_law_2b_7y_0, sIf, cB, c2, cVar, cC, oEq, sSet, cLst, aCons, aNil, cCall, f1, t.rd h, z2]
  · simp [p_law_2b_7, p_law_2b_7t, p_law_2b_7n, p_law_2b_7n_0, p_law_2b_7n_0t, p_law_2b_7n_0y, p_law_2b_7n_0y_0, sIf, cB, c2, cVar, cC, oEq, sSet, cLst, aCons, aNil, cCall, f1, t.rd h, z2]
  · simp [p_law_2b_7, p_law_2b_7t, p_law_2b_7n, p_law_2b_7n_0, p_law_2b_7n_0t, p_law_2b_7n_0n, p_law_2b_7n_0n_0, sNil, sIf, cB, c2, cVar, cC, oEq, n0, n1]
theorem nil_eq (neg : Bool) : oEqD neg (.lst []) (.lst []) h = .ok (.bl (!neg)) h := by
  have e : toPy pyF h (.lst []) = some (.list []) := py_lst (n := 1) (ds := []) (ps := []) rfl (fun i d p h1 h2 => by simp at h1) h pyF (by simp [pyF])
  have f : FW 1 201 (.list []) = true := by decide +kernel
  have q := eqD_ok (neg := neg) e e f f (by decide) (by decide) (by decide) (by decide)
  rw [eqv_refl _ (FW.lay f)] at q
  rw [q]
  cases neg <;> rfl
theorem due_ne {x s : Str} {d : D} (t : Txt d s) (hx : FW 0 200 (.str x) = true) : oEqD false (.lst [.str x, .str s]) (.lst []) h = .ok (.bl false) h := by
  obtain ⟨p, p1, p2, p3, p4⟩ := t
  have e : toPy pyF h (.lst [.str x, .str s]) = some (.list [.str x, .str s]) := py_lst (n := 1) (ds := [x, s].map D.str) (ps := [x, s].map PyData.str) rfl py_strs h pyF (by simp [pyF])
  have f : FW 1 (2 * 201) (.list [.str x, .str s]) = true := FW_list (n := 0) (W := 200) (m := 2) (fun q hq => by
    rcases List.mem_cons.mp hq with rfl | hq
    · exact hx
    · rw [List.mem_singleton] at hq; subst hq; exact p4) (by simp)
  have e' : toPy pyF h (.lst []) = some (.list []) := py_lst (n := 1) (ds := []) (ps := []) rfl (fun i d p h1 h2 => by simp at h1) h pyF (by simp [pyF])
  have f' : FW 1 201 (.list []) = true := by decide +kernel
  have q := eqD_ok (neg := false) e e' f f' (by decide) (by decide) (by decide) (by decide)
  rw [q]
  rfl
/-- both tables are looked at -/
theorem b10 (s : St h x0 d0 x1 d1) (t0 : Tb x0 d0) (t1 : Tb x1 d1) (hl : xs.length = 4) (hx : ∀ x ∈ xs, Nm x = true) :
    p_law_2b_10 (EV ns (xs.map .str) k s3 po pl kd tt na no du) h = .nx (EV ns (xs.map .str) k s3 po pl kd tt na no du) (h ++ [.lst (rowsOf x0 d0)] ++ [.lst (rowsOf x1 d1)]) := by
  have it : ∀ d ∈ xs.map D.str ++ moreItems, Itm d := fun d hd => by
    rcases List.mem_append.mp hd with hd | hd
    · obtain ⟨x, hx', rfl⟩ := List.mem_map.mp hd
      exact itm_name (hx x hx')
    · exact itm_more d hd
  have s1 := s.app [.lst (rowsOf x0 d0)]
  have f0 := fits_ok s.a0 t0 s.r0 (nms := xs.map .str) (by simp [hl]) it
  have f1' := fits_ok s1.a1 t1 s1.r1 (nms := xs.map .str) (by simp [hl]) it
  generalize hH : h ++ [.lst (rowsOf x0 d0)] = h1 at f0 f1' ⊢
  generalize hH2 : h1 ++ [.lst (rowsOf x1 d1)] = h2 at f1' ⊢
  simp [p_law_2b_10, p_law_2b_10t, p_law_2b_10n, p_law_2b_10n_0, sNil, sIf, cOr, cNot, cB, cCall, aCons, aNil, c2, cVar, cC, oIx, dicOf, seqOf, lstOf, atI, ixN, f0, f1']
theorem St.put0 (s : St h x0 d0 x1 d1) {ys : List Str} {es : List D} : St ((h.set 1 (.dic (kys ys) es)).set 4 (.dic (kys ys) es)) ys es x1 d1 := by
  have l := s.six
  refine ⟨⟨?_, ?_⟩, ⟨?_, ?_⟩, ?_, ?_⟩
  · rw [set_ne (by decide), set_ne (by decide)]; exact s.a0.o
  · rw [set_ne (by decide), List.getElem?_set_self (by omega)]
  · rw [set_ne (by decide), set_ne (by decide)]; exact s.a1.o
  · rw [set_ne (by decide), set_ne (by decide)]; exact s.a1.d
  · rw [List.getElem?_set_self (by rw [List.length_set]; omega)]
  · rw [set_ne (by decide), set_ne (by decide)]; exact s.r1
theorem St.put1 (s : St h x0 d0 x1 d1) {ys : List Str} {es : List D} : St ((h.set 3 (.dic (kys ys) es)).set 5 (.dic (kys ys) es)) x0 d0 ys es := by
  have l := s.six
  refine ⟨⟨?_, ?_⟩, ⟨?_, ?_⟩, ?_, ?_⟩
  · rw [set_ne (by decide), set_ne (by decide)]; exact s.a0.o
  · rw [set_ne (by decide), set_ne (by decide)]; exact s.a0.d
  · rw [set_ne (by decide), set_ne (by decide)]; exact s.a1.o
  · rw [set_ne (by decide), List.getElem?_set_self (by omega)]
  · rw [set_ne (by decide), set_ne (by decide)]; exact s.r0
  · rw [List.getElem?_set_self (by rw [List.length_set]; omega)]
theorem b8_bad {nm pd : D} {n : Nat} {x s : Str} {d : D} (c : F_law_noted_of [.loc n, nm, pd] h = .ok (.lst [.str x, .str s]) h) (t : Txt d s) (hx : FW 0 200 (.str x) = true) :
    p_law_2b_8 (EV ns (xs.map .str) k s3 po (.v pd) kd tt (.v nm) (.v (.loc n)) (.v (.lst [.str x, .str s]))) h = .nx (EV ns (xs.map .str) k s3 po (.v pd) kd tt (.v nm) (.v (.loc n)) (.v (.lst [.str x, .str s]))) h := by
  have q := t.eq h hx true
  simp [p_law_2b_8, p_law_2b_8t, p_law_2b_8n, p_law_2b_8n_0, sNil, sIf, cB, c2, cCall, aCons, aNil, cVar, c, oEq, q]
theorem b9_bad {s : Str} {x : Str} {d : D} (t : Txt d s) (hx : FW 0 200 (.str x) = true) :
    p_law_2b_9 (EV ns (xs.map .str) k s3 po pl kd tt na no (.v (.lst [.str x, .str s]))) h = .nx (EV ns (xs.map .str) k s3 po pl kd tt na no (.v (.lst [.str x, .str s]))) h := by
  have hz : sizeLine = 16777216 := by decide
  have z0 : (0 : Nat) ≤ sizeLine := by omega
  have q := due_ne (h := h) t hx
  simp [p_law_2b_9, p_law_2b_9t, p_law_2b_9n, p_law_2b_9n_0, sNil, sIf, cB, c2, cVar, cLst, aNil, z0, oEq, q]
theorem b8_ok {nm pd : D} {n : Nat} {h' : List D} (c : F_law_noted_of [.loc n, nm, pd] h = .ok (.lst []) h') :
    p_law_2b_8 (EV ns (xs.map .str) k s3 po (.v pd) kd tt (.v nm) (.v (.loc n)) (.v (.lst []))) h = .nx (EV ns (xs.map .str) k s3 po (.v pd) kd tt (.v nm) (.v (.loc n)) (.v (.lst []))) h' := by
  have q := nil_eq (h := h') true
  simp [p_law_2b_8, p_law_2b_8t, p_law_2b_8n, p_law_2b_8n_0, sNil, sIf, cB, c2, cCall, aCons, aNil, cVar, c, oEq, q]
theorem b9_ok {pd : D} {a : Int} {x : Str} {ys : List Str} {es : List D} (ha : a = 0 ∨ a = 1) (hd : h[if a = 0 then 4 else 5]? = some (.dic (kys ys) es)) (hl : ys.length ≤ 30) :
    p_law_2b_9 (EV ns (xs.map .str) k s3 po (.v pd) kd (.v (.int a)) (.v (.str x)) no (.v (.lst []))) h = .nx (EV ns (xs.map .str) k s3 po (.v pd) kd (.v (.int a)) (.v (.str x)) no (.v (.lst []))) (h.set (if a = 0 then 4 else 5) (.dic (kput (kys ys) es (.inr x) pd).1 (kput (kys ys) es (.inr x) pd).2)) := by
  have hz : sizeLine = 16777216 := by decide
  have z0 : (0 : Nat) ≤ sizeLine := by omega
  have zl : ys.length < sizeLine := by omega
  have q := nil_eq (h := h) false
  rcases ha with rfl | rfl
  · simp at hd
    simp [p_law_2b_9, p_law_2b_9t, p_law_2b_9y, p_law_2b_9y_0, sIf, cB, c2, cVar, cLst, aNil, z0, oEq, q, sSub, oIx, dicOf, seqOf, lstOf, atI, ixN, hd, keyOf, zl, kys]
  · simp at hd
    simp [p_law_2b_9, p_law_2b_9t, p_law_2b_9y, p_law_2b_9y_0, sIf, cB, c2, cVar, cLst, aNil, z0, oEq, q, sSub, oIx, dicOf, seqOf, lstOf, atI, ixN, hd, keyOf, zl, kys]
/-- a round -/
theorem round (s : St h x0 d0 x1 d1) (t0 : Tb x0 d0) (t1 : Tb x1 d1) (f0 : x0.length ≤ 29) (f1 : x1.length ≤ 29) (hl : xs.length = 4) (hx : ∀ x ∈ xs, Nm x = true) (k0 : 0 ≤ k) (k1 : k < 64) :
    ∃ po' pl' kd' tt' na' no' du' h' y0 e0 y1 e1, p_law_2b (EV ns (xs.map .str) k s3 po pl kd tt na no du) h = .nx (EV ns (xs.map .str) k s3 po' pl' kd' tt' na' no' du') h' ∧ St h' y0 e0 y1 e1 ∧ Tb y0 e0 ∧ Tb y1 e1 ∧ y0.length ≤ x0.length + 1 ∧ y1.length ≤ x1.length + 1 := by
  obtain ⟨a, kk, nd, pd, h1, po1, e, s1, ha, c⟩ := drawn (ns := ns) (s3 := s3) (po := po) (pl := pl) (kd := kd) (tt := tt) (na := na) (no := no) (du := du) s hl hx k0 k1
  have go : p_law_2b (EV ns (xs.map .str) k s3 po pl kd tt na no du) h = (sSeq p_law_2b_6 (sSeq p_law_2b_7 (sSeq p_law_2b_8 (sSeq p_law_2b_9 p_law_2b_10)))) (EV ns (xs.map .str) k s3 po1 (.v pd) (.v (.int kk)) (.v (.int a)) (.v nd) no du) h1 := e _
  have at_ : ∃ m ys es, At h1 (if a = 0 then 0 else 2) m ys es := by
    rcases ha with rfl | rfl
    · exact ⟨1, x0, d0, s1.a0⟩
    · exact ⟨3, x1, d1, s1.a1⟩
  obtain ⟨m, ys, es, at_⟩ := at_
  rcases c with ⟨rfl, bn, sn, tn⟩ | ⟨rfl, ⟨x, hxx, rfl⟩, bp, sp, tp⟩ | ⟨n0, n1, x, hxx, rfl, gp, pp⟩
  · have hn : FW 0 200 (.str "name") = true := by decide +kernel
    have c8 := noted_name (d := pd) at_ (bn h1) (tn.rd h1)
    refine ⟨po1, .v pd, .v (.int 0), .v (.int a), .v nd, .v (.loc (if a = 0 then 0 else 2)), .v (.lst [.str "name", .str sn]), _, x0, d0, x1, d1, ?_, (s1.app [.lst (rowsOf x0 d0)]).app [.lst (rowsOf x1 d1)], t0, t1, by omega, by omega⟩
    rw [go, sSeq_nx (b6 ha), sSeq_nx (b7 (.inl ⟨rfl, sn, tn, rfl⟩)), sSeq_nx (b8_bad c8 tn hn), sSeq_nx (b9_bad tn hn), b10 s1 t0 t1 hl hx]
  · have hn : FW 0 200 (.str "place") = true := by decide +kernel
    have isn : F_is_name [.str x] h1 = .ok (.bl true) h1 := by rw [is_name_str (Nm.len hxx), Nm.nm hxx]
    have c8 := noted_place at_ isn (bp h1) (tp.rd h1)
    refine ⟨po1, .v pd, .v (.int 1), .v (.int a), .v (.str x), .v (.loc (if a = 0 then 0 else 2)), .v (.lst [.str "place", .str sp]), _, x0, d0, x1, d1, ?_, (s1.app [.lst (rowsOf x0 d0)]).app [.lst (rowsOf x1 d1)], t0, t1, by omega, by omega⟩
    rw [go, sSeq_nx (b6 ha), sSeq_nx (b7 (.inr (.inl ⟨rfl, sp, tp, rfl⟩))), sSeq_nx (b8_bad c8 tp hn), sSeq_nx (b9_bad tp hn), b10 s1 t0 t1 hl hx]
  · rcases ha with rfl | rfl
    · obtain ⟨ys, es, ep, tb, le⟩ := tb_put t0 f0 hxx pp
      have c8 := noted_ok s1.a0 t0 hxx (gp h1)
      rw [ep] at c8
      have h4 : (h1.set 1 (.dic (kys ys) es))[if (0 : Int) = 0 then 4 else 5]? = some (.dic (kys x0) d0) := by rw [if_pos rfl, set_ne (by decide)]; exact s1.r0
      have c9 := b9_ok (ns := ns) (xs := xs) (k := k) (s3 := s3) (po := po1) (kd := .v (.int kk)) (no := .v (.loc 0)) (pd := pd) (x := x) (.inl rfl) h4 (by omega)
      rw [ep, if_pos rfl] at c9
      have s2 := s1.put0 (ys := ys) (es := es)
      refine ⟨po1, .v pd, .v (.int kk), .v (.int 0), .v (.str x), .v (.loc 0), .v (.lst []), _, ys, es, x1, d1, ?_, (s2.app [.lst (rowsOf ys es)]).app [.lst (rowsOf x1 d1)], tb, t1, le, by omega⟩
      rw [go, sSeq_nx (b6 (.inl rfl)), sSeq_nx (b7 (.inr (.inr ⟨n0, n1, rfl⟩))), if_pos rfl, sSeq_nx (b8_ok c8)]
      show (sSeq p_law_2b_9 p_law_2b_10) (EV ns (xs.map .str) k s3 po1 (.v pd) (.v (.int kk)) (.v (.int 0)) (.v (.str x)) (.v (.loc 0)) (.v (.lst []))) _ = _
      rw [sSeq_nx c9, b10 s2 tb t1 hl hx]
    · obtain ⟨ys, es, ep, tb, le⟩ := tb_put t1 f1 hxx pp
      have c8 := noted_ok s1.a1 t1 hxx (gp h1)
      rw [ep] at c8
      have h4 : (h1.set 3 (.dic (kys ys) es))[if (1 : Int) = 0 then 4 else 5]? = some (.dic (kys x1) d1) := by rw [if_neg (by decide), set_ne (by decide)]; exact s1.r1
      have c9 := b9_ok (ns := ns) (xs := xs) (k := k) (s3 := s3) (po := po1) (kd := .v (.int kk)) (no := .v (.loc 2)) (pd := pd) (x := x) (.inr rfl) h4 (by omega)
      rw [ep, if_neg (by decide)] at c9
      have s2 := s1.put1 (ys := ys) (es := es)
      refine ⟨po1, .v pd, .v (.int kk), .v (.int 1), .v (.str x), .v (.loc 2), .v (.lst []), _, x0, d0, ys, es, ?_, (s2.app [.lst (rowsOf x0 d0)]).app [.lst (rowsOf ys es)], t0, tb, by omega, le⟩
      rw [go, sSeq_nx (b6 (.inr rfl)), sSeq_nx (b7 (.inr (.inr ⟨n0, n1, rfl⟩))), if_neg (by decide), sSeq_nx (b8_ok c8)]
      show (sSeq p_law_2b_9 p_law_2b_10) (EV ns (xs.map .str) k s3 po1 (.v pd) (.v (.int kk)) (.v (.int 1)) (.v (.str x)) (.v (.loc 2)) (.v (.lst []))) _ = _
      rw [sSeq_nx c9, b10 s2 t0 tb hl hx]
end
/-! ### the law -/
def H0 : List D := [.obj "Notes" ["noted"] [.loc 1], .dic [] [], .obj "Notes" ["noted"] [.loc 3], .dic [] [], .dic [] [], .dic [] []]
theorem p0 {ns : List Int} : p_law_0 [.v (.scr ns), .u, .u, .u, .u, .u, .u, .u, .u, .u, .u, .u, .u] [] = .nx [.v (.scr ns), .u, .u, .u, .v TABS, .v ROWS, .u, .u, .u, .u, .u, .u, .u] H0 := by
  have hz : sizeLine = 16777216 := by decide
  have z2 : (2 : Nat) ≤ sizeLine := by omega
  have i0 : ∀ (h : List D), mkF "Notes" F_Notes___init__ [] h = .ok (.loc h.length) (h ++ [.obj "Notes" ["noted"] [.loc (h.length + 1)], .dic [] []]) := fun h => by
    have l1 : ((h ++ [D.obj "Notes" [] []]) ++ [D.dic [] []])[h.length]? = some (.obj "Notes" [] []) := by simp
    have st : ((h ++ [D.obj "Notes" [] []]) ++ [D.dic [] []]).set h.length (.obj "Notes" ["noted"] [.loc (h.length + 1)]) = h ++ [.obj "Notes" ["noted"] [.loc (h.length + 1)], .dic [] []] := by simp
    have f : F_Notes___init__ [.loc h.length] (h ++ [D.obj "Notes" [] []]) = .ok .non (h ++ [.obj "Notes" ["noted"] [.loc (h.length + 1)], .dic [] []]) := by
      show (m_Notes___init__ [.v (.loc h.length)] (h ++ [D.obj "Notes" [] []])).toR = _
      unfold m_Notes___init__ sFldS cDicN
      simp only [R.thenS_ok, cVar, List.getElem?_cons_zero, l1, List.length_append, List.length_cons, List.length_nil, fput, decide_true, Bool.true_and]
      rw [show decide ((0 : Nat) < 1000) = true from rfl, cond_true, st]
      rfl
    unfold mkF
    rw [f]
    rfl
  simp [p_law_0, sPar, aCons, aNil, cLst, cCall, i0, cDicN, z2, H0]
theorem st0 : St H0 [] [] [] [] := ⟨⟨rfl, rfl⟩, ⟨rfl, rfl⟩, rfl, rfl⟩
theorem tb0 : Tb [] [] := ⟨rfl, by decide, fun x h => absurd h List.not_mem_nil, fun x h => absurd h List.not_mem_nil⟩
theorem aCons1 {m : ME} {env : List Sl} {h h' : List D} {d : D} (e : m env h = .ok d h') : aCons m aNil env h = .ok [d] h' := by unfold aCons; rw [e]; rfl
theorem src_law {ns : List Int} (hns : ns.length ≤ 63) {env : List Sl} (e : env[0]? = some (.v (.scr ns))) {h : List D} : ∃ n : Nat, n ≤ 24 ∧ p_law_2i env h = .ok (rangeD 0 n) h := by
  obtain ⟨j, hj, j0, j1⟩ : ∃ j : Int, (if (if (6 : Int) > (ns.length : Int) then (6 : Int) else ns.length) < 24 then (if (6 : Int) > (ns.length : Int) then (6 : Int) else ns.length) else 24) = j ∧ 0 ≤ j ∧ j ≤ 24 := ⟨_, rfl, by split <;> (try split) <;> omega, by split <;> (try split) <;> omega⟩
  refine ⟨j.toNat, by omega, ?_⟩
  have b : (decide (-(2 ^ 62) ≤ j) && decide (j < 2 ^ 62)) = true := by
    have e1 : (-(2 ^ 62) : Int) ≤ 0 := by decide +kernel
    have e2 : (24 : Int) < 2 ^ 62 := by decide +kernel
    exact Bool.and_eq_true_iff.mpr ⟨decide_eq_true (Int.le_trans e1 j0), decide_eq_true (Int.lt_of_le_of_lt j1 e2)⟩
  have m : cCall (f2 minD) (aCons (cC (.int 24)) (aCons (cCall (f2 maxD) (aCons (cCall (f1 lenD) (aCons (cVar 0) (aNil))) (aCons (cC (.int 6)) (aNil)))) (aNil))) env h = .ok (.int j) h := by
    rw [← hj]
    simp [cCall, aCons, aNil, cC, cVar, e, f1, f2, lenD, dicOf, seqOf, lstOf, maxD, minD]
  unfold p_law_2i iRange1
  rw [aCons1 m]
  simp only [R.bind_ok]
  rw [b]
  rfl
/-- a round's invariant -/
structure Inv86 (ns : List Int) (xs : List Str) (i : Nat) (env : List Sl) (h : List D) : Prop where
  e : ∃ k s3 po pl kd tt na no du, env = [.v (.scr ns), .v (.lst (xs.map .str)), k, s3, .v TABS, .v ROWS, po, pl, kd, tt, na, no, du]
  s : ∃ x0 d0 x1 d1, St h x0 d0 x1 d1 ∧ Tb x0 d0 ∧ Tb x1 d1 ∧ x0.length ≤ i ∧ x1.length ≤ i
theorem plain86 (ns : List Int) (hns : ns.length ≤ 63) : ∃ h', F_law [.scr ns] [] = .ok (.bl true) h' := by
  obtain ⟨c, e0, P⟩ := pool_ok (ns := ns) (k := 0) (h := H0) (by decide) (by decide)
  obtain ⟨xs, c1, e1, hl, hx⟩ := names_of_ok P
  have st1 : St ((H0 ++ [c]).set H0.length c1) [] [] [] [] := (st0.app [c]).set c1 (by decide)
  have k1 : p_law_1 [.v (.scr ns), .u, .u, .u, .v TABS, .v ROWS, .u, .u, .u, .u, .u, .u, .u] H0 = .nx [.v (.scr ns), .v (.lst (xs.map .str)), .u, .u, .v TABS, .v ROWS, .u, .u, .u, .u, .u, .u, .u] ((H0 ++ [c]).set H0.length c1) := by
    simp [p_law_1, sSet, cCall, aCons, aNil, cVar, cC, e0, e1]
  generalize (H0 ++ [c]).set H0.length c1 = h1 at st1 k1
  obtain ⟨n, hn, e2⟩ := src_law hns (env := [.v (.scr ns), .v (.lst (xs.map .str)), .u, .u, .v TABS, .v ROWS, .u, .u, .u, .u, .u, .u, .u]) (h := h1) rfl
  obtain ⟨env2, h2, e3, ⟨⟨k, s3, po, pl, kd, tt, na, no, du, rfl⟩, x0, d0, x1, d1, st2, t0, t1, f0, f1⟩⟩ := forGo_inv (T := gN 2) (m := p_law_2b) (I := Inv86 ns xs) (rangeD 0 n) 0 _ h1 ⟨⟨.u, .u, .u, .u, .u, .u, .u, .u, .u, rfl⟩, [], [], [], [], st1, tb0, tb0, by simp, by simp⟩ (fun j d env h hj I => by
    obtain ⟨⟨k, s3, po, pl, kd, tt, na, no, du, rfl⟩, x0, d0, x1, d1, st2, t0, t1, f0, f1⟩ := I
    have hj' : j < n := by have := (List.getElem?_eq_some_iff.mp hj).1; simpa [rangeD] using this
    have hd : d = .int (j : Int) := by
      have : (rangeD 0 n)[j]? = some (.int (0 + (j : Int))) := by simp [rangeD, hj']
      rw [hj] at this
      cases this
      simp
    subst hd
    obtain ⟨po', pl', kd', tt', na', no', du', h', y0, e0, y1, e1, r, s', t0', t1', l0, l1⟩ := round (ns := ns) (xs := xs) (k := (j : Int)) (s3 := s3) (po := po) (pl := pl) (kd := kd) (tt := tt) (na := na) (no := no) (du := du) st2 t0 t1 (by omega) (by omega) hl hx (by omega) (by omega)
    exact ⟨_, _, _, rfl, .inl r, ⟨⟨.v (.int j), s3, po', pl', kd', tt', na', no', du', rfl⟩, y0, e0, y1, e1, s', t0', t1', by omega, by omega⟩⟩)
  have k2 : p_law_2 [.v (.scr ns), .v (.lst (xs.map .str)), .u, .u, .v TABS, .v ROWS, .u, .u, .u, .u, .u, .u, .u] h1 = .nx [.v (.scr ns), .v (.lst (xs.map .str)), k, s3, .v TABS, .v ROWS, po, pl, kd, tt, na, no, du] h2 := by
    unfold p_law_2 sFor
    rw [e2]
    exact e3
  have ls := listed_ok st2.a0 t0
  have st3 := st2.app [.lst (rowsOf x0 d0)]
  have few := t0.few
  have rl : (rowsOf x0 d0).length < sizeLine := by
    have hz : sizeLine = 16777216 := by decide
    simp [rowsOf, sortS_len]
    omega
  have cell : (h2 ++ [.lst (rowsOf x0 d0)])[h2.length]? = some (.lst (rowsOf x0 d0)) := by simp
  have six := st2.six
  have st4 := st3.set (p := h2.length) (.lst (rowsOf x0 d0 ++ [.non])) six
  have ns' : ¬ ("noted" : Str) = "listed" := by decide
  generalize h2 ++ [.lst (rowsOf x0 d0)] = h3 at ls st3 cell st4
  have k3 : p_law_3 [.v (.scr ns), .v (.lst (xs.map .str)), k, s3, .v TABS, .v ROWS, po, pl, kd, tt, na, no, du] h2 = .nx [.v (.scr ns), .v (.lst (xs.map .str)), k, .v (.loc h2.length), .v TABS, .v ROWS, po, pl, kd, tt, na, no, du] h3 := by
    simp [p_law_3, sSet, cMeth, c2, cVar, cC, oIx, dicOf, seqOf, lstOf, atI, ixN, objOf, st2.a0.o, fget, ns', aNil, ls]
  have k4 : p_law_4 [.v (.scr ns), .v (.lst (xs.map .str)), k, .v (.loc h2.length), .v TABS, .v ROWS, po, pl, kd, tt, na, no, du] h3 = .nx [.v (.scr ns), .v (.lst (xs.map .str)), k, .v (.loc h2.length), .v TABS, .v ROWS, po, pl, kd, tt, na, no, du] (h3.set h2.length (.lst (rowsOf x0 d0 ++ [.non]))) := by
    simp [p_law_4, sExpr, cApp, cVar, cC, lstH, cell, appD, rl]
  have it : ∀ d ∈ xs.map D.str ++ moreItems, Itm d := fun d hd => by
    rcases List.mem_append.mp hd with hd | hd
    · obtain ⟨x, hx', rfl⟩ := List.mem_map.mp hd
      exact itm_name (hx x hx')
    · exact itm_more d hd
  have f := fits_ok st4.a0 t0 st4.r0 (nms := xs.map .str) (by simp [hl]) it
  have k5 : p_law_5 [.v (.scr ns), .v (.lst (xs.map .str)), k, .v (.loc h2.length), .v TABS, .v ROWS, po, pl, kd, tt, na, no, du] (h3.set h2.length (.lst (rowsOf x0 d0 ++ [.non]))) = .rt (.bl true) (h3.set h2.length (.lst (rowsOf x0 d0 ++ [.non])) ++ [.lst (rowsOf x0 d0)]) := by
    simp [p_law_5, sRet, cCall, aCons, aNil, c2, cVar, cC, oIx, dicOf, seqOf, lstOf, atI, ixN, f]
  refine ⟨h3.set h2.length (.lst (rowsOf x0 d0 ++ [.non])) ++ [.lst (rowsOf x0 d0)], ?_⟩
  show (m_law [.v (.scr ns), .u, .u, .u, .u, .u, .u, .u, .u, .u, .u, .u, .u] []).toR = _
  rw [m_law_eq]
  unfold p_law
  rw [sSeq_nx p0, sSeq_nx k1, sSeq_nx k2, sSeq_nx k3, sSeq_nx k4, k5]
  rfl
end G

theorem PySem.Challenge.cw_addednames_k86_notes_holds : PySem.Challenge.rw_addednames_k86_notes.Holds := by
  exact G.law86 G.plain86
