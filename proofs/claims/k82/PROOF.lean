import PyProof.Rows.All
import Wide.All
import OpenK.AllK
import Wide.FinOn
import HandS.ForMost
import HandS.Exc
import HandS.TryOnly
import HandS.TryMany
import HandS.ExcOwn
import HandS.WordsExc
import HandS.HeadHook1
import HandS.HeadHook2
import HandS.ExcInit
import HandS.CallSlots
import HandS.Property
import HandS.ClsMeth
import HandS.ExcField
import HandS.Walk
import HandS.IsInst
import HandS.List
import HandS.Dict
import PyProof.ReprRoads
import HandS.TupAny
import HandS.WordsDict
import HandS.RaiseMore
import HandS.Style
import HandS.NamedTupGet
import HandS.Iter
import HandS.Ends
import HandS.HeadEnd
import HandS.HeadHook4
import PyProof.ReprLen
import PyProof.Rows.RegFStrParts
import HandS.Text
import HandS.FStr
import HandS.OwnEq
import HandS.DictComp
import HandS.Zip
import PyProof.DictUpdate
import PyProof.DictDisplay
import HandS.MakeKwOnly
import HandS.Conv
import HandS.ReplaceLit
import HandS.Words
import HandS.ReplaceList
import HandS.Codes
import PyProof.Rows.StrSplitCount
import KE.KStateDown
import HandS.Head0
import HandS.Head1
import HandS.Head2
import PySem.Challenge.RW_addednames_k82_books_and_places_as_texts
set_option Elab.async false
set_option linter.all false
set_option maxRecDepth 100000
set_option maxHeartbeats 4000000
/-! G0: data, how a heap holds data, states, readings by data. -/
namespace G
open PySem PySem.Spec PyProof.Rows L2

/-- data: what a value is worth, without addresses; loc n: the n-th mutable object of the state -/
inductive D where
  | non | bl (b : Bool) | int (i : Int) | str (x : Str)
  | tup (xs : List D) | lst (xs : List D)
  | dic (ks : List Key) (ds : List D)
  | obj (c : Str) (ns : List Str) (ds : List D)
  | loc (n : Nat)
  | scr (ns : List Int)
  | cls (c : Str)
  | lck (ks : List Key) (ds : List D)

/-! ### data without mutable objects -/
mutual
def D.pure : D → Bool
  | .non | .bl _ | .int _ | .str _ | .scr _ | .cls _ => true
  | .loc _ | .lck _ _ => false
  | .tup xs | .lst xs => pureL xs
  | .dic _ ds => pureL ds
  | .obj _ _ ds => pureL ds
def pureL : List D → Bool
  | [] => true
  | d :: ds => d.pure && pureL ds
end
mutual
/-- no object that may change stands in it -/
def D.flat : D → Bool
  | .non | .bl _ | .int _ | .str _ => true
  | .tup xs => flatL xs
  | .lst _ | .dic _ _ | .obj _ _ _ | .loc _ | .scr _ | .cls _ | .lck _ _ => false
def flatL : List D → Bool
  | [] => true
  | d :: ds => d.flat && flatL ds
end
theorem pureL_get : ∀ {ds : List D} {i : Nat} {d : D}, pureL ds = true → ds[i]? = some d → d.pure = true
  | [], _, _, _, h => by simp at h
  | x :: xs, 0, d, p, h => by simp at h; subst h; rw [pureL, Bool.and_eq_true] at p; exact p.1
  | x :: xs, i + 1, d, p, h => by rw [pureL, Bool.and_eq_true] at p; exact pureL_get p.2 (by simpa using h)
theorem flatL_get : ∀ {ds : List D} {i : Nat} {d : D}, flatL ds = true → ds[i]? = some d → d.flat = true
  | [], _, _, _, h => by simp at h
  | x :: xs, 0, d, p, h => by simp at h; subst h; rw [flatL, Bool.and_eq_true] at p; exact p.1
  | x :: xs, i + 1, d, p, h => by rw [flatL, Bool.and_eq_true] at p; exact flatL_get p.2 (by simpa using h)

/-- a tuple as it stands: in the heap, or of the written part -/
def TupA (K : PySem.W.Frag) (Z : Addr → Prop) (H : Hp) (a : Addr) (vs : List V) : Prop := (Z a ∧ Rd H a (.tup vs)) ∨ SqT K (fun _ => none) a vs
theorem TupA.map {K : PySem.W.Frag} {Z Z' : Addr → Prop} {H H' : Hp} {a : Addr} {vs : List V} (t : TupA K Z H a vs) (f : Z a → Rd H a (.tup vs) → Z' a ∧ Rd H' a (.tup vs)) : TupA K Z' H' a vs := t.imp (fun h => f h.1 h.2) id
theorem TupA.sq {K : PySem.W.Frag} {Z : Addr → Prop} {H : Hp} {a : Addr} {vs : List V} (t : TupA K Z H a vs) : SqT K H a vs := by
  rcases t with ⟨_, h⟩ | h
  · rcases h with h | ⟨o, h⟩
    · exact .inl (.inl h)
    · exact .inl (.inr ⟨o, h⟩)
  · rcases h with (h | ⟨o, h⟩) | h
    · cases h
    · cases h
    · exact .inr h
/-- how a value is data: every object of it stands in the zone Z, the mutable ones stand at M -/
inductive Rep (K : PySem.W.Frag) (Z : Addr → Prop) (M : List Addr) (H : Hp) : D → V → Prop
  | non : Rep K Z M H .non .non
  | bl (b : Bool) : Rep K Z M H (.bl b) (.bl b)
  | int (i : Int) : Rep K Z M H (.int i) (.int i)
  | str (x : Str) : Rep K Z M H (.str x) (.str x)
  | tup {xs : List D} {vs : List V} {a : Addr} : TupA K Z H a vs → xs.length = vs.length → (∀ (i : Nat) (d : D) (v : V), xs[i]? = some d → vs[i]? = some v → Rep K Z M H d v) → Rep K Z M H (.tup xs) (.ref a)
  | lst {xs : List D} {vs : List V} {a : Addr} : Z a → H a = some (.lst vs) → xs.length = vs.length → (∀ (i : Nat) (d : D) (v : V), xs[i]? = some d → vs[i]? = some v → Rep K Z M H d v) → Rep K Z M H (.lst xs) (.ref a)
  | dic {ks : List Key} {ds : List D} {kvs : List (Key × V)} {a : Addr} : Z a → Rd H a (.dK kvs) → kvs.map (·.1) = ks → ds.length = kvs.length → (∀ (i : Nat) (d : D) (v : V), ds[i]? = some d → (kvs.map (·.2))[i]? = some v → Rep K Z M H d v) → Rep K Z M H (.dic ks ds) (.ref a)
  | obj {c : Str} {ns : List Str} {ds : List D} {fs : List (Str × V)} {a dx : Addr} : Z a → H a = some (.ins (He.ga K c) dx fs) → fs.map (·.1) = ns → ds.length = fs.length → (∀ (i : Nat) (d : D) (v : V), ds[i]? = some d → (fs.map (·.2))[i]? = some v → Rep K Z M H d v) → Rep K Z M H (.obj c ns ds) (.ref a)
  | loc {n : Nat} {a : Addr} : M[n]? = some a → Rep K Z M H (.loc n) (.ref a)
  | scr {ns : List Int} {a : Addr} : ((∃ o, H a = some (.frz o (.lst (ns.map V.int)))) ∨ SqL K (fun _ => none) a (ns.map V.int)) → Rep K Z M H (.scr ns) (.ref a)
  | cls {c : Str} : Rep K Z M H (.cls c) (.ref (He.ga K c))

/-- lists of values -/
def Reps (K : PySem.W.Frag) (Z : Addr → Prop) (M : List Addr) (H : Hp) (xs : List D) (vs : List V) : Prop :=
  xs.length = vs.length ∧ ∀ (i : Nat) (d : D) (v : V), xs[i]? = some d → vs[i]? = some v → Rep K Z M H d v

/-- the zone of the data that never changes -/
def zn (Z : Addr → Prop) (M : List Addr) : Addr → Prop := fun a => Z a ∧ a ∉ M

/-- from one state to a later one: the mutable objects may have turned, new ones may have come; all else stands -/
structure Evo (M : List Addr) (H : Hp) (M' : List Addr) (H' : Hp) : Prop where
  pre : ∃ t, M' = M ++ t
  new : ∀ a, a ∈ M' → a ∉ M → H a = none
  keep : ∀ a o, H a = some o → a ∉ M → H' a = some o
  fz : ∀ a o u, H a = some (.frz o u) → H' a = some (.frz o u)

theorem Evo.refl (M : List Addr) (H : Hp) : Evo M H M H := ⟨⟨[], by simp⟩, fun a h n => absurd h n, fun a o h _ => h, fun _ _ _ h => h⟩
theorem Evo.trans {M M1 M2 : List Addr} {H H1 H2 : Hp} (a : Evo M H M1 H1) (b : Evo M1 H1 M2 H2) : Evo M H M2 H2 := by
  obtain ⟨⟨t, e⟩, n1, k1, f1⟩ := a
  obtain ⟨⟨u, e'⟩, n2, k2, f2⟩ := b
  have old : ∀ a o, H a = some o → a ∉ M → a ∉ M1 := fun a o h n m => by
    have := n1 a m n
    rw [h] at this
    cases this
  refine ⟨⟨t ++ u, by rw [e', e, List.append_assoc]⟩, fun a m n => ?_, fun a o h n => k2 a o (k1 a o h n) (old a o h n), fun a o u h => f2 a o u (f1 a o u h)⟩
  by_cases m1 : a ∈ M1
  · exact n1 a m1 n
  · have h1 := n2 a m m1
    cases h : H a with
    | none => rfl
    | some o =>
      have := k1 a o h n
      rw [h1] at this
      cases this
/-- a new object that never changes -/
theorem Evo.laid {M : List Addr} {H : Hp} {p : Addr} {o : HO} (h : H p = none) : Evo M H M (upd H p o) :=
  ⟨⟨[], by simp⟩, fun a m n => absurd m n, fun a u e _ => by rw [upd_ne (ne_of_none e h)]; exact e, fun a u w e => by rw [upd_ne (ne_of_none e h)]; exact e⟩
theorem Evo.newloc {M : List Addr} {H : Hp} {p : Addr} {o : HO} (h : H p = none) : Evo M H (M ++ [p]) (upd H p o) :=
  ⟨⟨[p], rfl⟩, fun a m n => by
    rcases List.mem_append.mp m with m | m
    · exact absurd m n
    · rw [List.mem_singleton] at m; rw [m]; exact h, fun a u e _ => by rw [upd_ne (ne_of_none e h)]; exact e, fun a u w e => by rw [upd_ne (ne_of_none e h)]; exact e⟩
theorem Evo.write {M : List Addr} {H : Hp} {p : Addr} {o : HO} (m : p ∈ M) (nf : ∀ u w, H p ≠ some (.frz u w)) : Evo M H M (upd H p o) :=
  ⟨⟨[], by simp⟩, fun a m n => absurd m n, fun a u e n => by rw [upd_ne (fun z : a = p => n (by rw [z]; exact m))]; exact e, fun a u w e => by rw [upd_ne (fun z : a = p => nf u w (by rw [← z]; exact e))]; exact e⟩

section
variable {K : PySem.W.Frag} {C : List (V × D)} {pn : List (Addr × Obj)} {Z : Addr → Prop} {M M' : List Addr} {H H' : Hp}
theorem Evo.get {n : Nat} {a : Addr} (e : Evo M H M' H') (h : M[n]? = some a) : M'[n]? = some a := by
  obtain ⟨⟨t, rfl⟩, _, _, _⟩ := e
  rw [List.getElem?_append_left (List.getElem?_eq_some_iff.mp h).1]
  exact h
theorem Evo.zone {a : Addr} {o : HO} (e : Evo M H M' H') (z : zn Z M a) (h : H a = some o) : zn Z M' a ∧ H' a = some o := by
  refine ⟨⟨z.1, fun m => ?_⟩, e.keep a o h z.2⟩
  have := e.new a m z.2
  rw [h] at this
  cases this
theorem Evo.rd {a : Addr} {o : HO} (e : Evo M H M' H') (z : zn Z M a) (h : Rd H a o) : zn Z M' a ∧ Rd H' a o := by
  rcases h with h | ⟨u, h⟩
  · obtain ⟨q1, q2⟩ := e.zone z h
    exact ⟨q1, .inl q2⟩
  · obtain ⟨q1, q2⟩ := e.zone z h
    exact ⟨q1, .inr ⟨u, q2⟩⟩
/-- data that stands keeps standing -/
theorem Rep.mono (e : Evo M H M' H') {d : D} {v : V} (r : Rep K (zn Z M) M H d v) : Rep K (zn Z M') M' H' d v := by
  induction r with
  | non => exact .non
  | bl b => exact .bl b
  | int i => exact .int i
  | str x => exact .str x
  | tup t l _ ih => exact .tup (t.map fun z h => e.rd z h) l ih
  | lst z h l _ ih => exact .lst (e.zone z h).1 (e.zone z h).2 l ih
  | dic z h k l _ ih => exact .dic (e.rd z h).1 (e.rd z h).2 k l ih
  | obj z h k l _ ih => exact .obj (e.zone z h).1 (e.zone z h).2 k l ih
  | loc h => exact .loc (e.get h)
  | cls => exact .cls
  | scr s =>
    rcases s with ⟨o, c⟩ | s
    · exact .scr (.inl ⟨o, e.fz _ _ _ c⟩)
    · exact .scr (.inr s)
theorem Reps.mono (e : Evo M H M' H') {xs : List D} {vs : List V} (r : Reps K (zn Z M) M H xs vs) : Reps K (zn Z M') M' H' xs vs :=
  ⟨r.1, fun i d v h1 h2 => (r.2 i d v h1 h2).mono e⟩
theorem Reps.nil : Reps K Z M H [] [] := ⟨rfl, fun i d v h => by simp at h⟩
theorem Reps.cons {d : D} {v : V} {xs : List D} {vs : List V} (r : Rep K Z M H d v) (t : Reps K Z M H xs vs) : Reps K Z M H (d :: xs) (v :: vs) := by
  refine ⟨by simp [t.1], fun i d' v' h1 h2 => ?_⟩
  cases i with
  | zero => simp at h1 h2; subst h1; subst h2; exact r
  | succ i => exact t.2 i d' v' (by simpa using h1) (by simpa using h2)
theorem Reps.cases_cons {d : D} {xs : List D} {vs : List V} (r : Reps K Z M H (d :: xs) vs) : ∃ v ws, vs = v :: ws ∧ Rep K Z M H d v ∧ Reps K Z M H xs ws := by
  cases vs with
  | nil => have := r.1; simp at this
  | cons v ws => exact ⟨v, ws, rfl, r.2 0 d v rfl rfl, by have := r.1; simpa using this, fun i d' v' h1 h2 => r.2 (i + 1) d' v' (by simpa using h1) (by simpa using h2)⟩
theorem Reps.cases_nil {vs : List V} (r : Reps K Z M H [] vs) : vs = [] := by
  have := r.1
  exact List.length_eq_zero_iff.mp this.symm
theorem Reps.cases_nil' {xs : List D} (r : Reps K Z M H xs []) : xs = [] := List.length_eq_zero_iff.mp r.1
theorem Reps.get {xs : List D} {vs : List V} (r : Reps K Z M H xs vs) {i : Nat} {d : D} (h : xs[i]? = some d) : ∃ v, vs[i]? = some v ∧ Rep K Z M H d v := by
  have hl := (List.getElem?_eq_some_iff.mp h).1
  have hv : i < vs.length := r.1 ▸ hl
  exact ⟨vs[i], List.getElem?_eq_getElem hv, r.2 i d _ h (List.getElem?_eq_getElem hv)⟩
theorem Reps.append {xs ys : List D} {vs ws : List V} (r : Reps K Z M H xs vs) (t : Reps K Z M H ys ws) : Reps K Z M H (xs ++ ys) (vs ++ ws) := by
  refine ⟨by simp [r.1, t.1], fun i d v h1 h2 => ?_⟩
  by_cases hi : i < xs.length
  · rw [List.getElem?_append_left hi] at h1
    rw [List.getElem?_append_left (r.1 ▸ hi)] at h2
    exact r.2 i d v h1 h2
  · have hi := Nat.le_of_not_lt hi
    rw [List.getElem?_append_right hi] at h1
    rw [List.getElem?_append_right (r.1 ▸ hi)] at h2
    rw [← r.1] at h2
    exact t.2 _ d v h1 h2
theorem Reps.set {xs : List D} {vs : List V} {d : D} {v : V} (r : Reps K Z M H xs vs) (q : Rep K Z M H d v) (i : Nat) : Reps K Z M H (xs.set i d) (vs.set i v) := by
  refine ⟨by simp [r.1], fun j d' v' h1 h2 => ?_⟩
  rw [List.getElem?_set] at h1 h2
  by_cases e : i = j
  · subst e
    rw [if_pos rfl] at h1 h2
    split at h1
    · split at h2
      · cases h1; cases h2; exact q
      · cases h2
    · cases h1
  · rw [if_neg e] at h1 h2
    exact r.2 j d' v' h1 h2
theorem Reps.cut {xs : List D} {vs : List V} (r : Reps K Z M H xs vs) (a n : Nat) : Reps K Z M H ((xs.drop a).take n) ((vs.drop a).take n) := by
  refine ⟨by simp [r.1], fun i d v h1 h2 => ?_⟩
  rw [List.getElem?_take] at h1 h2
  split at h1
  · rename_i hi
    rw [if_pos hi] at h2
    rw [List.getElem?_drop] at h1 h2
    exact r.2 _ d v h1 h2
  · cases h1

/-! ### states -/
/-- a slot: not set; data; a caught exception of the class c -/
inductive Sl where
  | u | v (d : D) | x (c : Str) (ns : List Str) (ds : List D)
/-- a mutable object's content -/
def Cel (K : PySem.W.Frag) (Z : Addr → Prop) (M : List Addr) (H : Hp) (a : Addr) : D → Prop
  | .lst xs => ∃ vs, H a = some (.lst vs) ∧ Reps K Z M H xs vs
  | .dic ks ds => ∃ kvs, H a = some (.dK kvs) ∧ kvs.map (·.1) = ks ∧ Reps K Z M H ds (kvs.map (·.2))
  | .obj c ns ds => ∃ dx fs, H a = some (.ins (He.ga K c) dx fs) ∧ fs.map (·.1) = ns ∧ Reps K Z M H ds (fs.map (·.2))
  | .lck ks ds => ∃ kvs o, H a = some (.frz o (.dK kvs)) ∧ kvs.map (·.1) = ks ∧ Reps K Z M H ds (kvs.map (·.2))
  | _ => False
structure Sh (K : PySem.W.Frag) (C : List (V × D)) (Z : Addr → Prop) (M : List Addr) (h : List D) (H : Hp) : Prop where
  all : ∀ p, H p = none → Z p
  mz : ∀ a, a ∈ M → Z a
  cst : ∀ p ∈ C, p.2.pure = true ∧ Rep K (zn Z M) M H p.2 p.1
  nd : M.Nodup
  len : M.length = h.length
  cel : ∀ (i : Nat) (a : Addr) (d : D), M[i]? = some a → h[i]? = some d → Cel K (zn Z M) M H a d
/-- the exception at a, of the class c, its dict at dx, is pinned -/
def XI (K : PySem.W.Frag) (pn : List (Addr × Obj)) (a : Addr) (c : Str) (dx : Addr) : Prop := ∃ oe, (a, oe) ∈ pn ∧ Zc (.ref (He.ga K c)) (some dx) oe ∧ ∃ vs, oe.data = .fields vs
/-- a raised exception's own dict -/
def Xr (K : PySem.W.Frag) (Z : Addr → Prop) (M : List Addr) (H : Hp) (ns : List Str) (ds : List D) (dx : Addr) : Prop :=
  ∃ fs, H dx = some (.xd fs) ∧ dx ∉ M ∧ fs.map (·.1) = ns ∧ Reps K Z M H ds (fs.map (·.2))
structure SR (K : PySem.W.Frag) (C : List (V × D)) (pn : List (Addr × Obj)) (Z : Addr → Prop) (M : List Addr) (env : List Sl) (h : List D) (σ : L2.St) (H : Hp) : Prop where
  sh : Sh K C Z M h H
  slots : ∀ (i : Nat) (d : D), env[i]? = some (.v d) → ∃ v, σ[i]? = some (some v) ∧ Rep K (zn Z M) M H d v
  exc : ∀ (i : Nat) (c : Str) (ns : List Str) (ds : List D), env[i]? = some (.x c ns ds) → ∃ a dx, σ[i]? = some (some (.ref a)) ∧ XI K pn a c dx ∧ Xr K (zn Z M) M H ns ds dx
  len : env.length = σ.length
theorem Cel.there {a : Addr} {d : D} (c : Cel K Z M H a d) : ∃ o, H a = some o ∧ (∀ u w, o = .frz u w → ∃ kvs, w = .dK kvs) := by
  cases d with
  | lst xs => obtain ⟨vs, e, _⟩ := c; exact ⟨_, e, fun _ _ z => nomatch z⟩
  | dic ks ds => obtain ⟨vs, e, _⟩ := c; exact ⟨_, e, fun _ _ z => nomatch z⟩
  | obj c ns ds => obtain ⟨dx, vs, e, _⟩ := c; exact ⟨_, e, fun _ _ z => nomatch z⟩
  | lck ks ds => obtain ⟨vs, o, e, _⟩ := c; exact ⟨_, e, fun _ _ z => by cases z; exact ⟨_, rfl⟩⟩
  | _ => exact False.elim c
theorem Sh.at {h : List D} (s : Sh K C Z M h H) {a : Addr} (m : a ∈ M) : ∃ o, H a = some o ∧ (∀ u w, o = .frz u w → ∃ kvs, w = .dK kvs) := by
  obtain ⟨i, hi, rfl⟩ := List.getElem_of_mem m
  have hl : i < h.length := s.len ▸ hi
  exact Cel.there (s.cel i _ _ (List.getElem?_eq_getElem hi) (List.getElem?_eq_getElem hl))
theorem Sh.out {h : List D} (s : Sh K C Z M h H) {p : Addr} (e : H p = none) : p ∉ M := fun m => by
  obtain ⟨o, h1, _⟩ := s.at m
  rw [e] at h1; cases h1
theorem Sh.zone {h : List D} (s : Sh K C Z M h H) {p : Addr} (e : H p = none) : zn Z M p := ⟨s.all p e, s.out e⟩
/-- a cell that stands keeps standing -/
theorem Cel.mono (e : Evo M H M' H') {a : Addr} {d : D} (st : ∀ o, H a = some o → H' a = some o) (c : Cel K (zn Z M) M H a d) : Cel K (zn Z M') M' H' a d := by
  cases d with
  | lst xs => obtain ⟨vs, q, r⟩ := c; exact ⟨vs, st _ q, r.mono e⟩
  | dic ks ds => obtain ⟨vs, q, k, r⟩ := c; exact ⟨vs, st _ q, k, r.mono e⟩
  | obj c ns ds => obtain ⟨dx, vs, q, k, r⟩ := c; exact ⟨dx, vs, st _ q, k, r.mono e⟩
  | lck ks ds => obtain ⟨vs, o, q, k, r⟩ := c; exact ⟨vs, o, st _ q, k, r.mono e⟩
  | _ => exact False.elim c
theorem Sh.laid {h : List D} (s : Sh K C Z M h H) {p : Addr} {o : HO} (e : H p = none) : Sh K C Z M h (upd H p o) where
  all := fun q hq => s.all q (by
    by_cases z : q = p
    · rw [z]; exact e
    · rw [upd_ne z] at hq; exact hq)
  mz := s.mz
  cst := fun q hq => ⟨(s.cst q hq).1, (s.cst q hq).2.mono (Evo.laid e)⟩
  nd := s.nd
  len := s.len
  cel := fun i a d h1 h2 => Cel.mono (Evo.laid e) (fun u hu => by rw [upd_ne (ne_of_none hu e)]; exact hu) (s.cel i a d h1 h2)
theorem Sh.newloc {h : List D} (s : Sh K C Z M h H) {p : Addr} {o : HO} {d : D} (e : H p = none) (c : Cel K (zn Z (M ++ [p])) (M ++ [p]) (upd H p o) p d) : Sh K C Z (M ++ [p]) (h ++ [d]) (upd H p o) where
  all := fun q hq => s.all q (by
    by_cases z : q = p
    · rw [z]; exact e
    · rw [upd_ne z] at hq; exact hq)
  mz := fun a m => by
    rcases List.mem_append.mp m with m | m
    · exact s.mz a m
    · rw [List.mem_singleton] at m; rw [m]; exact s.all p e
  cst := fun q hq => ⟨(s.cst q hq).1, (s.cst q hq).2.mono (Evo.newloc e)⟩
  nd := List.nodup_append.mpr ⟨s.nd, List.nodup_cons.mpr ⟨List.not_mem_nil, List.nodup_nil⟩, fun a m b m' z => by
    rw [List.mem_singleton] at m'
    rw [z, m'] at m
    exact s.out e m⟩
  len := by simp [s.len]
  cel := fun i a d' h1 h2 => by
    by_cases hi : i < M.length
    · rw [List.getElem?_append_left hi] at h1
      rw [List.getElem?_append_left (s.len ▸ hi)] at h2
      exact Cel.mono (Evo.newloc e) (fun u hu => by rw [upd_ne (ne_of_none hu e)]; exact hu) (s.cel i a d' h1 h2)
    · have hi := Nat.le_of_not_lt hi
      rw [List.getElem?_append_right hi] at h1
      rw [List.getElem?_append_right (s.len ▸ hi)] at h2
      rw [← s.len] at h2
      cases hk : i - M.length with
      | zero => rw [hk] at h1 h2; simp at h1 h2; subst h1; subst h2; exact c
      | succ k => rw [hk] at h1; simp at h1
theorem Sh.write {h : List D} (s : Sh K C Z M h H) {n : Nat} {a : Addr} {o : HO} {d : D} (ha : M[n]? = some a) (nf : ∀ u w, H a ≠ some (.frz u w)) (c : Cel K (zn Z M) M (upd H a o) a d) : Sh K C Z M (h.set n d) (upd H a o) := by
  refine ⟨fun q hq => s.all q ?_, s.mz, fun q hq => ⟨(s.cst q hq).1, (s.cst q hq).2.mono (Evo.write (List.mem_of_getElem? ha) nf)⟩, s.nd, by simp [s.len], fun i b d' h1 h2 => ?_⟩
  · by_cases z : q = a
    · rw [z, upd_same] at hq; cases hq
    · rw [upd_ne z] at hq; exact hq
  · rw [List.getElem?_set] at h2
    have hn := (List.getElem?_eq_some_iff.mp ha)
    have hi := (List.getElem?_eq_some_iff.mp h1)
    by_cases e : n = i
    · subst e
      rw [if_pos rfl] at h2
      split at h2
      · cases h2
        rw [ha] at h1
        cases h1
        exact c
      · cases h2
    · rw [if_neg e] at h2
      have nb : b ≠ a := fun z => by
        subst z
        exact e ((List.getElem?_inj hn.1 s.nd).mp (ha.trans h1.symm))
      exact Cel.mono (Evo.write (List.mem_of_getElem? ha) nf) (fun u hu => by rw [upd_ne nb]; exact hu) (s.cel i b d' h1 h2)
theorem Sh.evw {h : List D} (s : Sh K C Z M h H) {n : Nat} {a : Addr} {o : HO} (ha : M[n]? = some a) (nf : ∀ u w, H a ≠ some (.frz u w)) : Evo M H M (upd H a o) := by
  exact Evo.write (List.mem_of_getElem? ha) nf
theorem Xr.mono {ns : List Str} {ds : List D} {dx : Addr} (e : Evo M H M' H') (x : Xr K (zn Z M) M H ns ds dx) : Xr K (zn Z M') M' H' ns ds dx := by
  obtain ⟨fs, h1, h2, h3, h4⟩ := x
  refine ⟨fs, e.keep _ _ h1 h2, fun m => ?_, h3, h4.mono e⟩
  have := e.new _ m h2
  rw [h1] at this; cases this
/-- the same slots in a later state -/
theorem SR.later {env : List Sl} {h h' : List D} {σ : L2.St} (s : SR K C pn Z M env h σ H) (e : Evo M H M' H') (q : Sh K C Z M' h' H') : SR K C pn Z M' env h' σ H' :=
  ⟨q, fun i d hd => by obtain ⟨v, h1, h2⟩ := s.slots i d hd; exact ⟨v, h1, h2.mono e⟩, fun i c ns ds hd => by obtain ⟨a, dx, h1, h2, h3⟩ := s.exc i c ns ds hd; exact ⟨a, dx, h1, h2, h3.mono e⟩, s.len⟩
theorem SR.set {env : List Sl} {h : List D} {σ : L2.St} {i : Nat} {d : D} {v : V} (s : SR K C pn Z M env h σ H) (r : Rep K (zn Z M) M H d v) : SR K C pn Z M (env.set i (.v d)) h (σ.set i (some v)) H := by
  refine ⟨s.sh, fun j d' hd => ?_, fun j c ns ds hd => ?_, by simp [s.len]⟩
  rotate_left 1
  · rw [List.getElem?_set] at hd
    by_cases e : i = j
    · subst e
      rw [if_pos rfl] at hd
      split at hd <;> cases hd
    · rw [if_neg e] at hd
      obtain ⟨a, dx, h1, h2⟩ := s.exc j c ns ds hd
      exact ⟨a, dx, by rw [List.getElem?_set_ne e]; exact h1, h2⟩
  rw [List.getElem?_set] at hd
  by_cases e : i = j
  · subst e
    rw [if_pos rfl] at hd
    split at hd
    · rename_i hi
      cases hd
      exact ⟨v, by rw [List.getElem?_set_self (s.len ▸ hi)], r⟩
    · cases hd
  · rw [if_neg e] at hd
    obtain ⟨w, h1, h2⟩ := s.slots j d' hd
    exact ⟨w, by rw [List.getElem?_set_ne e]; exact h1, h2⟩
end
end G

set_option Elab.async false
set_option linter.all false
set_option maxRecDepth 100000
set_option maxHeartbeats 4000000
/-! G1: results, readings by data, the base's rules. -/
namespace G
open PySem PySem.Spec PyProof.Rows L2

/-! ### results -/
inductive R (α : Type) where
  | ok (a : α) (h : List D)
  | exc (c : Str) (ns : List Str) (ds : List D) (h : List D)
  | bad
def R.bind {α β : Type} (r : R α) (f : α → List D → R β) : R β := match r with
  | .ok a h => f a h
  | .exc c ns ds h => .exc c ns ds h
  | .bad => .bad
abbrev Mn (α : Type) := List Sl → List D → R α
abbrev ME := Mn D
abbrev MT := Mn Bool
abbrev MA := Mn (List D)
inductive RS where
  | nx (env : List Sl) (h : List D)
  | rt (d : D) (h : List D)
  | br (env : List Sl) (h : List D)
  | ct (env : List Sl) (h : List D)
  | exc (c : Str) (ns : List Str) (ds : List D) (env : List Sl) (h : List D)
  | bad
abbrev MS := List Sl → List D → RS
@[simp] theorem R.bind_ok {α β : Type} (a : α) (h : List D) (f : α → List D → R β) : (R.ok a h).bind f = f a h := rfl
@[simp] theorem R.bind_exc {α β : Type} (c : Str) (ns : List Str) (ds h : List D) (f : α → List D → R β) : (R.exc c ns ds h).bind f = .exc c ns ds h := rfl
@[simp] theorem R.bind_bad {α β : Type} (f : α → List D → R β) : R.bind .bad f = .bad := rfl

section
variable (K : PySem.W.Frag) (C : List (V × D)) (pn : List (Addr × Obj)) (Z : Addr → Prop) (W : WX) (σ : L2.St) (env : List Sl)
/-- what is wanted of a result -/
def Got {α : Type} (M : List Addr) (H : Hp) (r : R α) (G : List Addr → Hp → α → Prop) : Prop := match r with
  | .ok a h => ∀ M' H', Evo M H M' H' → SR K C pn Z M' env h σ H' → G M' H' a
  | .exc c ns ds h => ∀ M' H' dx, Evo M H M' H' → SR K C pn Z M' env h σ H' → Xr K (zn Z M') M' H' ns ds dx → W (.ref (He.ga K c)) (some dx) σ H'
  | .bad => False
/-- what is wanted of a statement's result -/
def GotS (M : List Addr) (H : Hp) (r : RS) (D' : Ends) : Prop := match r with
  | .nx env h => ∀ M' σ' H', Evo M H M' H' → SR K C pn Z M' env h σ' H' → D'.nx σ' H'
  | .br env h => ∀ M' σ' H', Evo M H M' H' → SR K C pn Z M' env h σ' H' → D'.bk σ' H'
  | .ct env h => ∀ M' σ' H', Evo M H M' H' → SR K C pn Z M' env h σ' H' → D'.ct σ' H'
  | .rt d h => ∀ M' H' v, Evo M H M' H' → Sh K C Z M' h H' → Rep K (zn Z M') M' H' d v → D'.rt v H'
  | .exc c ns ds env h => ∀ M' σ' H' dx, Evo M H M' H' → SR K C pn Z M' env h σ' H' → Xr K (zn Z M') M' H' ns ds dx → W (.ref (He.ga K c)) (some dx) σ' H'
  | .bad => False
end
def tE (K : PySem.W.Frag) (C : List (V × D)) (pn : List (Addr × Obj)) (W : WX) (m : ME) : TE := fun σ H Q => ∃ Z M env h, SR K C pn Z M env h σ H ∧ Got K C pn Z W σ env M H (m env h) fun M' H' d => ∀ v, Rep K (zn Z M') M' H' d v → Q v H'
def tT (K : PySem.W.Frag) (C : List (V × D)) (pn : List (Addr × Obj)) (W : WX) (m : MT) : TT := fun σ H Q => ∃ Z M env h, SR K C pn Z M env h σ H ∧ Got K C pn Z W σ env M H (m env h) fun M' H' b => Q b H'
def tA (K : PySem.W.Frag) (C : List (V × D)) (pn : List (Addr × Obj)) (W : WX) (m : MA) : TA := fun σ H Q => ∃ Z M env h, SR K C pn Z M env h σ H ∧ Got K C pn Z W σ env M H (m env h) fun M' H' ds => ∀ vs, Reps K (zn Z M') M' H' ds vs → Q vs H'
def tS (K : PySem.W.Frag) (C : List (V × D)) (pn : List (Addr × Obj)) (W : WX) (m : MS) : TS := fun D' σ H => ∃ Z M env h, SR K C pn Z M env h σ H ∧ GotS K C pn Z W M H (m env h) D'

section
variable {K : PySem.W.Frag} {C : List (V × D)} {pn : List (Addr × Obj)} {Z : Addr → Prop} {W : WX} {σ : L2.St} {env : List Sl} {M M1 : List Addr} {H H1 : Hp} {h : List D}
theorem Got.later {α : Type} {r : R α} {G : List Addr → Hp → α → Prop} (e : Evo M H M1 H1) (g : Got K C pn Z W σ env M H r G) : Got K C pn Z W σ env M1 H1 r G := by
  cases r with
  | ok a h => exact fun M' H' e' s => g M' H' (e.trans e') s
  | exc c ns ds h => exact fun M' H' dx e' s x => g M' H' dx (e.trans e') s x
  | bad => exact g
theorem Got.now {α : Type} {a : α} {G : List Addr → Hp → α → Prop} (g : Got K C pn Z W σ env M H (.ok a h) G) (s : SR K C pn Z M env h σ H) : G M H a := g M H (.refl M H) s
theorem GotS.later {r : RS} {D' : Ends} (e : Evo M H M1 H1) (g : GotS K C pn Z W M H r D') : GotS K C pn Z W M1 H1 r D' := by
  cases r with
  | nx env h => exact fun M' σ' H' e' s => g M' σ' H' (e.trans e') s
  | br env h => exact fun M' σ' H' e' s => g M' σ' H' (e.trans e') s
  | ct env h => exact fun M' σ' H' e' s => g M' σ' H' (e.trans e') s
  | rt d h => exact fun M' H' v e' s r => g M' H' v (e.trans e') s r
  | exc c ns ds env h => exact fun M' σ' H' dx e' s x => g M' σ' H' dx (e.trans e') s x
  | bad => exact g
/-- the first part of a compound expression -/
theorem tE.step {β : Type} {m : ME} {f : D → List D → R β} {G : List Addr → Hp → β → Prop} {Q' : VK} (s : SR K C pn Z M env h σ H) (g : Got K C pn Z W σ env M H ((m env h).bind f) G)
    (k : ∀ M1 H1 h1 d v, Evo M H M1 H1 → SR K C pn Z M1 env h1 σ H1 → Rep K (zn Z M1) M1 H1 d v → Got K C pn Z W σ env M1 H1 (f d h1) G → Q' v H1) : tE K C pn W m σ H Q' := by
  refine ⟨Z, M, env, h, s, ?_⟩
  cases e : m env h with
  | ok d h1 =>
    rw [e] at g
    exact fun M1 H1 ev s1 v r => k M1 H1 h1 d v ev s1 r (Got.later ev g)
  | exc c ns ds h1 =>
    rw [e] at g
    exact g
  | bad =>
    rw [e] at g
    exact g
theorem tT.step {β : Type} {m : MT} {f : Bool → List D → R β} {G : List Addr → Hp → β → Prop} {Q' : Bool → Hp → Prop} (s : SR K C pn Z M env h σ H) (g : Got K C pn Z W σ env M H ((m env h).bind f) G)
    (k : ∀ M1 H1 h1 b, Evo M H M1 H1 → SR K C pn Z M1 env h1 σ H1 → Got K C pn Z W σ env M1 H1 (f b h1) G → Q' b H1) : tT K C pn W m σ H Q' := by
  refine ⟨Z, M, env, h, s, ?_⟩
  cases e : m env h with
  | ok d h1 =>
    rw [e] at g
    exact fun M1 H1 ev s1 => k M1 H1 h1 d ev s1 (Got.later ev g)
  | exc c ns ds h1 =>
    rw [e] at g
    exact g
  | bad =>
    rw [e] at g
    exact g
theorem tA.step {β : Type} {m : MA} {f : List D → List D → R β} {G : List Addr → Hp → β → Prop} {Q' : List V → Hp → Prop} (s : SR K C pn Z M env h σ H) (g : Got K C pn Z W σ env M H ((m env h).bind f) G)
    (k : ∀ M1 H1 h1 ds vs, Evo M H M1 H1 → SR K C pn Z M1 env h1 σ H1 → Reps K (zn Z M1) M1 H1 ds vs → Got K C pn Z W σ env M1 H1 (f ds h1) G → Q' vs H1) : tA K C pn W m σ H Q' := by
  refine ⟨Z, M, env, h, s, ?_⟩
  cases e : m env h with
  | ok d h1 =>
    rw [e] at g
    exact fun M1 H1 ev s1 v r => k M1 H1 h1 d v ev s1 r (Got.later ev g)
  | exc c ns ds h1 =>
    rw [e] at g
    exact g
  | bad =>
    rw [e] at g
    exact g
/-- an expression within a statement -/
def R.thenS {α : Type} (r : R α) (env : List Sl) (f : α → List D → RS) : RS := match r with
  | .ok a h => f a h
  | .exc c ns ds h => .exc c ns ds env h
  | .bad => .bad
@[simp] theorem R.thenS_ok {α : Type} (a : α) (h : List D) (env : List Sl) (f : α → List D → RS) : (R.ok a h).thenS env f = f a h := rfl
@[simp] theorem R.thenS_exc {α : Type} (c : Str) (ns : List Str) (ds h : List D) (env : List Sl) (f : α → List D → RS) : (R.exc c ns ds h).thenS env f = .exc c ns ds env h := rfl
@[simp] theorem R.thenS_bad {α : Type} (env : List Sl) (f : α → List D → RS) : R.thenS .bad env f = .bad := rfl
theorem tE.stepS {m : ME} {f : D → List D → RS} {D' : Ends} {Q' : VK} (s : SR K C pn Z M env h σ H) (g : GotS K C pn Z W M H ((m env h).thenS env f) D')
    (k : ∀ M1 H1 h1 d v, Evo M H M1 H1 → SR K C pn Z M1 env h1 σ H1 → Rep K (zn Z M1) M1 H1 d v → GotS K C pn Z W M1 H1 (f d h1) D' → Q' v H1) : tE K C pn W m σ H Q' := by
  refine ⟨Z, M, env, h, s, ?_⟩
  cases e : m env h with
  | ok d h1 =>
    rw [e] at g
    exact fun M1 H1 ev s1 v r => k M1 H1 h1 d v ev s1 r (GotS.later ev g)
  | exc c ns ds h1 =>
    rw [e] at g
    exact fun M' H' dx ev s x => g M' σ H' dx ev s x
  | bad =>
    rw [e] at g
    exact g
theorem tT.stepS {m : MT} {f : Bool → List D → RS} {D' : Ends} {Q' : Bool → Hp → Prop} (s : SR K C pn Z M env h σ H) (g : GotS K C pn Z W M H ((m env h).thenS env f) D')
    (k : ∀ M1 H1 h1 b, Evo M H M1 H1 → SR K C pn Z M1 env h1 σ H1 → GotS K C pn Z W M1 H1 (f b h1) D' → Q' b H1) : tT K C pn W m σ H Q' := by
  refine ⟨Z, M, env, h, s, ?_⟩
  cases e : m env h with
  | ok d h1 =>
    rw [e] at g
    exact fun M1 H1 ev s1 => k M1 H1 h1 d ev s1 (GotS.later ev g)
  | exc c ns ds h1 =>
    rw [e] at g
    exact fun M' H' dx ev s x => g M' σ H' dx ev s x
  | bad =>
    rw [e] at g
    exact g
theorem tA.stepS {m : MA} {f : List D → List D → RS} {D' : Ends} {Q' : List V → Hp → Prop} (s : SR K C pn Z M env h σ H) (g : GotS K C pn Z W M H ((m env h).thenS env f) D')
    (k : ∀ M1 H1 h1 ds vs, Evo M H M1 H1 → SR K C pn Z M1 env h1 σ H1 → Reps K (zn Z M1) M1 H1 ds vs → GotS K C pn Z W M1 H1 (f ds h1) D' → Q' vs H1) : tA K C pn W m σ H Q' := by
  refine ⟨Z, M, env, h, s, ?_⟩
  cases e : m env h with
  | ok d h1 =>
    rw [e] at g
    exact fun M1 H1 ev s1 v r => k M1 H1 h1 d v ev s1 r (GotS.later ev g)
  | exc c ns ds h1 =>
    rw [e] at g
    exact fun M' H' dx ev s x => g M' σ H' dx ev s x
  | bad =>
    rw [e] at g
    exact g
end

/-! ### the judgements -/
def SE (C : List (V × D)) (X : Cx) (W : WX) (e : Expr) (m : ME) : Prop := PE X e (tE X.K C X.pn W m)
def ST (C : List (V × D)) (X : Cx) (W : WX) (e : Expr) (m : MT) : Prop := PT X e (tT X.K C X.pn W m)
def SW (C : List (V × D)) (X : Cx) (W : WX) (e : Expr) (m : MT) : Prop := L2.PW X e (tT X.K C X.pn W m)
def SA (C : List (V × D)) (X : Cx) (W : WX) (es : List Expr) (m : MA) : Prop := PA X es (tA X.K C X.pn W m)
def SS (C : List (V × D)) (X : Cx) (W : WX) (st : Stmt) (m : MS) : Prop := PS X st (tS X.K C X.pn W m)
def SB (C : List (V × D)) (X : Cx) (W : WX) (st : List Stmt) (m : MS) : Prop := PSs X st (tS X.K C X.pn W m)
theorem PE.weak {X : Cx} {e : Expr} {t t' : TE} (p : PE X e t) (h : ∀ σ H Q, t' σ H Q → t σ H Q) : PE X e t' := ⟨fun pins s σ H Q I q => p.run pins s σ H Q I (h σ H Q q)⟩
theorem PT.weak {X : Cx} {e : Expr} {t t' : TT} (p : PT X e t) (h : ∀ σ H Q, t' σ H Q → t σ H Q) : PT X e t' := ⟨fun pins s σ H Q I q => p.run pins s σ H Q I (h σ H Q q)⟩
theorem PW.weak {X : Cx} {e : Expr} {t t' : TT} (p : L2.PW X e t) (h : ∀ σ H Q, t' σ H Q → t σ H Q) : L2.PW X e t' := ⟨fun wh pins s σ H Q I q => p.run wh pins s σ H Q I (h σ H Q q)⟩
theorem PA.weak {X : Cx} {es : List Expr} {t t' : TA} (p : PA X es t) (h : ∀ σ H Q, t' σ H Q → t σ H Q) : PA X es t' := ⟨fun pos pins s σ H Q I q => p.run pos pins s σ H Q I (h σ H Q q)⟩
theorem PS.weak {X : Cx} {st : Stmt} {t t' : TS} (p : PS X st t) (h : ∀ D' σ H, t' D' σ H → t D' σ H) : PS X st t' := ⟨fun pins s σ H D' I q => p.run pins s σ H D' I (h D' σ H q)⟩
theorem PSs.weak {X : Cx} {st : List Stmt} {t t' : TS} (p : PSs X st t) (h : ∀ D' σ H, t' D' σ H → t D' σ H) : PSs X st t' := ⟨fun pins s σ H D' I q => p.run pins s σ H D' I (h D' σ H q)⟩
theorem SW.pt {X : Cx} {W : WX} {e : Expr} {m : MT} (h : SW C X W e m) : ST C X W e m := L2.PW.pt h

/-! ### names and constants -/
section
variable {C : List (V × D)} {X : Cx} {W : WX} {pos : Pos}
def cC (d : D) : ME := fun _ h => .ok d h
def cVar (i : Nat) : ME := fun env h => match env[i]? with
  | some (.v d) => .ok d h
  | _ => .bad
theorem se_const {e : Expr} {v : V} {d : D} (p : PE X e (tC v)) (r : ∀ Z M H, Rep X.K Z M H d v) : SE C X W e (cC d) := PE.weak p fun σ H Q ⟨Z, M, env, h, s, g⟩ => Got.now g s v (r _ _ _)
theorem se_int {i j} : SE C X W (.Constant (.int i) j pos) (cC (.int i)) := se_const pe_int fun _ _ _ => .int i
theorem se_bl {b j} : SE C X W (.Constant (.bool b) j pos) (cC (.bl b)) := se_const pe_bl fun _ _ _ => .bl b
theorem se_non {j} : SE C X W (.Constant .none j pos) (cC .non) := se_const pe_non fun _ _ _ => .non
theorem se_str {x j} : SE C X W (.Constant (.str x) j pos) (cC (.str x)) := se_const pe_str fun _ _ _ => .str x
theorem se_var {i : Nat} {x : Str} (hN : X.N[i]? = some x) (hv : Vis X.env.scope x) (hd : (x == ("__debug__" : Str)) = false := by decide) (hcd : (x == ("__classdict__" : Str)) = false := by decide) : SE C X W (.Name x pos) (cVar i) := by
  refine PE.weak (pe_var hN hv hd hcd) fun σ H Q ⟨Z, M, env, h, s, g⟩ => ?_
  unfold cVar at g
  cases e : env[i]? with
  | none => rw [e] at g; exact False.elim g
  | some sl =>
    rw [e] at g
    cases sl with
    | v d =>
      obtain ⟨v, h1, h2⟩ := s.slots i d e
      exact ⟨v, h1, Got.now g s v h2⟩
    | u => exact False.elim g
    | x c ns ds => exact False.elim g

/-! ### operators on values -/
def c2 (f : D → D → List D → R D) (a b : ME) : ME := fun env h => (a env h).bind fun x h1 => (b env h1).bind fun y h2 => f x y h2
def c1 (f : D → List D → R D) (a : ME) : ME := fun env h => (a env h).bind f
/-- f says what the reading r asks -/
def Ok2 (C : List (V × D)) (K : PySem.W.Frag) (r : R2) (f : D → D → List D → R D) : Prop := ∀ pn Z W σ env M H h x y v w (Q : VK), SR K C pn Z M env h σ H → Rep K (zn Z M) M H x v → Rep K (zn Z M) M H y w →
  Got K C pn Z W σ env M H (f x y h) (fun M' H' d => ∀ v, Rep K (zn Z M') M' H' d v → Q v H') → r v w H Q
theorem t2_of {r : R2} {f : D → D → List D → R D} {ma mb : ME} (k : Ok2 C X.K r f) {σ : L2.St} {H : Hp} {Q : VK} (t : tE X.K C X.pn W (c2 f ma mb) σ H Q) : tOp r (tE X.K C X.pn W ma) (tE X.K C X.pn W mb) σ H Q := by
  obtain ⟨Z, M, env, h, s, g⟩ := t
  refine tE.step s g fun M1 H1 h1 x v e1 s1 r1 g1 => ?_
  refine tE.step s1 g1 fun M2 H2 h2 y w e2 s2 r2 g2 => ?_
  exact k X.pn Z W σ env M2 H2 h2 x y v w Q s2 (r1.mono e2) r2 g2
theorem se_op {op : Operator} {r : R2} {f : D → D → List D → R D} {a b : Expr} {ma mb : ME} (ho : OpR X (binaryOp op) r) (k : Ok2 C X.K r f) (ha : SE C X W a ma) (hb : SE C X W b mb) : SE C X W (.BinOp a op b pos) (c2 f ma mb) :=
  PE.weak (pe_op ho ha hb) fun σ H Q t => t2_of k t
theorem se_cmp {op : CmpOp} {r : R2} {f : D → D → List D → R D} {a b : Expr} {ma mb : ME} (ho : OpR X (compareOp op) r) (k : Ok2 C X.K r f) (ha : SE C X W a ma) (hb : SE C X W b mb) (hm : behindInMarks op b = false) : SE C X W (.Compare a [op] [b] pos) (c2 f ma mb) :=
  PE.weak (pe_cmpR ho ha hb hm) fun σ H Q t => t2_of k t
/-- a value as a test: it is a bool -/
def cB (m : ME) : MT := fun env h => (m env h).bind fun d h1 => match d with
  | .bl b => .ok b h1
  | _ => .bad
theorem tB_of {m : ME} {σ : L2.St} {H : Hp} {Q : Bool → Hp → Prop} (t : tT X.K C X.pn W (cB m) σ H Q) : tE X.K C X.pn W m σ H fun x H1 => ∃ k, x = .bl k ∧ Q k H1 := by
  obtain ⟨Z, M, env, h, s, g⟩ := t
  refine tE.step s g fun M1 H1 h1 d v e1 s1 r1 g1 => ?_
  cases d with
  | bl b =>
    cases r1
    exact ⟨b, rfl, Got.now g1 s1⟩
  | _ => exact False.elim g1
theorem st_cmp {op : CmpOp} {r : R2} {f : D → D → List D → R D} {a b : Expr} {ma mb : ME} (ho : OpR X (compareOp op) r) (k : Ok2 C X.K r f) (ha : SE C X W a ma) (hb : SE C X W b mb) (hm : behindInMarks op b = false) : ST C X W (.Compare a [op] [b] pos) (cB (c2 f ma mb)) := by
  refine PT.weak (pt_cmpR ho ha hb hm) fun σ H Q t => ?_
  obtain ⟨Z, M, env, h, s, g⟩ := tB_of t
  exact t2_of k ⟨Z, M, env, h, s, g⟩
theorem st_val {e : Expr} {m : ME} (h : SE C X W e m) (he : ∀ whole, isTrue e X.env whole = (do let v ← whole; standAt e.pos; holding [v] (truthy v)) := by intro _; rfl) : ST C X W e (cB m) :=
  PT.weak (pt_val h he) fun σ H Q t => tB_of t

/-! ### and, or, not, if .. else -/
def cAnd (a b : MT) : MT := fun env h => (a env h).bind fun x h1 => match x with
  | true => b env h1
  | false => .ok false h1
def cOr (a b : MT) : MT := fun env h => (a env h).bind fun x h1 => match x with
  | true => .ok true h1
  | false => b env h1
def cNot (a : MT) : MT := fun env h => (a env h).bind fun x h1 => .ok (!x) h1
def cTV (a : MT) : ME := fun env h => (a env h).bind fun x h1 => .ok (.bl x) h1
theorem sw_and1 {a : Expr} {m : MT} (ha : ST C X W a m) : SW C X W (.BoolOp .And [a] pos) m := pw_and1 ha
theorem sw_or1 {a : Expr} {m : MT} (ha : ST C X W a m) : SW C X W (.BoolOp .Or [a] pos) m := pw_or1 ha
theorem sw_and {a b : Expr} {rest : List Expr} {ma mb : MT} (ha : ST C X W a ma) (hb : SW C X W (.BoolOp .And (b :: rest) pos) mb) : SW C X W (.BoolOp .And (a :: b :: rest) pos) (cAnd ma mb) := by
  refine PW.weak (pw_and ha hb) fun σ H Q ⟨Z, M, env, h, s, g⟩ => ?_
  refine tT.step s g fun M1 H1 h1 b e1 s1 g1 => ?_
  cases b with
  | true =>
    rw [if_pos rfl]
    exact ⟨Z, M1, env, h1, s1, g1⟩
  | false => exact Got.now g1 s1
theorem sw_or {a b : Expr} {rest : List Expr} {ma mb : MT} (ha : ST C X W a ma) (hb : SW C X W (.BoolOp .Or (b :: rest) pos) mb) : SW C X W (.BoolOp .Or (a :: b :: rest) pos) (cOr ma mb) := by
  refine PW.weak (pw_or ha hb) fun σ H Q ⟨Z, M, env, h, s, g⟩ => ?_
  refine tT.step s g fun M1 H1 h1 b e1 s1 g1 => ?_
  cases b with
  | true => exact Got.now g1 s1
  | false => exact ⟨Z, M1, env, h1, s1, g1⟩
theorem st_not {a : Expr} {m : MT} (ha : ST C X W a m) : ST C X W (.UnaryOp .Not a pos) (cNot m) := by
  refine PT.weak (pt_not ha) fun σ H Q ⟨Z, M, env, h, s, g⟩ => ?_
  exact tT.step s g fun M1 H1 h1 b e1 s1 g1 => Got.now g1 s1
/-- bools by and, or, not as values -/
def cAndV (a b : ME) : ME := fun env h => (a env h).bind fun x h1 => match x with
  | .bl true => b env h1
  | .bl false => .ok (.bl false) h1
  | _ => .bad
def cOrV (a b : ME) : ME := fun env h => (a env h).bind fun x h1 => match x with
  | .bl true => .ok (.bl true) h1
  | .bl false => b env h1
  | _ => .bad
def cNotV (a : ME) : ME := fun env h => (a env h).bind fun x h1 => match x with
  | .bl b => .ok (.bl (!b)) h1
  | _ => .bad
theorem se_one {op} {a : Expr} {m : ME} (h : SE C X W a m) : SE C X W (.BoolOp op [a] pos) m := pe_one h
theorem se_and {a b : Expr} {rest : List Expr} {ma mb : ME} (ha : SE C X W a ma) (hb : SE C X W (.BoolOp .And (b :: rest) pos) mb) : SE C X W (.BoolOp .And (a :: b :: rest) pos) (cAndV ma mb) := by
  refine PE.weak (pe_and ha hb) fun σ H Q ⟨Z, M, env, h, s, g⟩ => ?_
  refine tE.step s g fun M1 H1 h1 d v e1 s1 r1 g1 => ?_
  cases d with
  | bl b =>
    cases r1
    cases b with
    | true => exact ⟨true, rfl, by rw [if_pos rfl]; exact ⟨Z, M1, env, h1, s1, g1⟩⟩
    | false => exact ⟨false, rfl, Got.now g1 s1 _ (.bl false)⟩
  | _ => exact False.elim g1
theorem se_or {a b : Expr} {rest : List Expr} {ma mb : ME} (ha : SE C X W a ma) (hb : SE C X W (.BoolOp .Or (b :: rest) pos) mb) : SE C X W (.BoolOp .Or (a :: b :: rest) pos) (cOrV ma mb) := by
  refine PE.weak (pe_or ha hb) fun σ H Q ⟨Z, M, env, h, s, g⟩ => ?_
  refine tE.step s g fun M1 H1 h1 d v e1 s1 r1 g1 => ?_
  cases d with
  | bl b =>
    cases r1
    cases b with
    | true => exact ⟨true, rfl, by rw [if_pos rfl]; exact Got.now g1 s1 _ (.bl true)⟩
    | false => exact ⟨false, rfl, ⟨Z, M1, env, h1, s1, g1⟩⟩
  | _ => exact False.elim g1
theorem se_not {a : Expr} {m : ME} (ha : SE C X W a m) : SE C X W (.UnaryOp .Not a pos) (cNotV m) := by
  refine PE.weak (pe_not ha) fun σ H Q ⟨Z, M, env, h, s, g⟩ => ?_
  refine tE.step s g fun M1 H1 h1 d v e1 s1 r1 g1 => ?_
  cases d with
  | bl b =>
    cases r1
    exact ⟨b, rfl, Got.now g1 s1 _ (.bl _)⟩
  | _ => exact False.elim g1
def cIf (t : MT) (a b : ME) : ME := fun env h => (t env h).bind fun x h1 => match x with
  | true => a env h1
  | false => b env h1
theorem se_ifExp {c a b : Expr} {mt : MT} {ma mb : ME} (hc : ST C X W c mt) (ha : SE C X W a ma) (hb : SE C X W b mb) : SE C X W (.IfExp c a b pos) (cIf mt ma mb) := by
  refine PE.weak (pe_ifExp hc ha hb) fun σ H Q ⟨Z, M, env, h, s, g⟩ => ?_
  refine tT.step s g fun M1 H1 h1 b e1 s1 g1 => ?_
  cases b with
  | true => rw [if_pos rfl]; exact ⟨Z, M1, env, h1, s1, g1⟩
  | false => exact ⟨Z, M1, env, h1, s1, g1⟩

/-! ### argument lists, displays -/
def aNil : MA := fun _ h => .ok [] h
def aCons (a : ME) (t : MA) : MA := fun env h => (a env h).bind fun x h1 => (t env h1).bind fun xs h2 => .ok (x :: xs) h2
theorem sa_nil : SA C X W [] aNil := PA.weak pa_nil fun σ H Q ⟨Z, M, env, h, s, g⟩ => Got.now g s [] Reps.nil
theorem sa_cons {e : Expr} {es : List Expr} {m : ME} {t : MA} (ha : SE C X W e m) (hr : SA C X W es t) (hs : starEach (e :: es) X.env = (false, eval e X.env) :: starEach es X.env := by rfl) : SA C X W (e :: es) (aCons m t) := by
  refine PA.weak (pa_cons ha hr hs) fun σ H Q ⟨Z, M, env, h, s, g⟩ => ?_
  refine tE.step s g fun M1 H1 h1 d v e1 s1 r1 g1 => ?_
  refine tA.step s1 g1 fun M2 H2 h2 ds vs e2 s2 r2 g2 => ?_
  exact Got.now g2 s2 _ (Reps.cons (r1.mono e2) r2)
def cTup (t : MA) : ME := fun env h => (t env h).bind fun xs h1 => if xs.length ≤ sizeLine then .ok (.tup xs) h1 else .bad
def cLst (t : MA) : ME := fun env h => (t env h).bind fun xs h1 => if xs.length ≤ sizeLine then .ok (.lst xs) h1 else .bad
/-- a new mutable list -/
def cLstN (t : MA) : ME := fun env h => (t env h).bind fun xs h1 => if xs.length ≤ sizeLine then .ok (.loc h1.length) (h1 ++ [.lst xs]) else .bad
theorem newTup {K : PySem.W.Frag} {C : List (V × D)} {Z : Addr → Prop} {M : List Addr} {h : List D} {H : Hp} {xs : List D} {vs : List V} {p : Addr} (s : Sh K C Z M h H) (r : Reps K (zn Z M) M H xs vs) (hp : H p = none) : Rep K (zn Z M) M (upd H p (.tup vs)) (.tup xs) (.ref p) :=
  .tup (.inl ⟨s.zone hp, .inl upd_same⟩) r.1 fun i d v h1 h2 => (r.2 i d v h1 h2).mono (Evo.laid hp)
theorem newLst {K : PySem.W.Frag} {C : List (V × D)} {Z : Addr → Prop} {M : List Addr} {h : List D} {H : Hp} {xs : List D} {vs : List V} {p : Addr} (s : Sh K C Z M h H) (r : Reps K (zn Z M) M H xs vs) (hp : H p = none) : Rep K (zn Z M) M (upd H p (.lst vs)) (.lst xs) (.ref p) :=
  .lst (s.zone hp) upd_same r.1 fun i d v h1 h2 => (r.2 i d v h1 h2).mono (Evo.laid hp)
theorem se_tup {es : List Expr} {t : MA} {x1} (ha : SA C X W es t) : SE C X W (.Tuple es x1 pos) (cTup t) := by
  refine PE.weak (pe_tup ha) fun σ H Q ⟨Z, M, env, h, s, g⟩ => ?_
  refine tA.step s g fun M1 H1 h1 ds vs e1 s1 r1 g1 => ?_
  by_cases hz : ds.length ≤ sizeLine
  · rw [if_pos hz] at g1
    exact ⟨r1.1 ▸ hz, fun p hp => g1 M1 _ (Evo.laid hp) (s1.later (Evo.laid hp) (s1.sh.laid hp)) _ (newTup s1.sh r1 hp)⟩
  · rw [if_neg hz] at g1
    exact False.elim g1
theorem se_lst {es : List Expr} {t : MA} (ha : SA C X W es t) : SE C X W (.List es pos) (cLst t) := by
  refine PE.weak (pe_lst ha) fun σ H Q ⟨Z, M, env, h, s, g⟩ => ?_
  refine tA.step s g fun M1 H1 h1 ds vs e1 s1 r1 g1 => ?_
  by_cases hz : ds.length ≤ sizeLine
  · rw [if_pos hz] at g1
    exact ⟨r1.1 ▸ hz, fun p hp => g1 M1 _ (Evo.laid hp) (s1.later (Evo.laid hp) (s1.sh.laid hp)) _ (newLst s1.sh r1 hp)⟩
  · rw [if_neg hz] at g1
    exact False.elim g1
/-- a new mutable object at p -/
theorem newLoc {K : PySem.W.Frag} {C : List (V × D)} {Z Z' : Addr → Prop} {M : List Addr} {h : List D} {H H' : Hp} {p : Addr} (s : Sh K C Z M h H) : Rep K Z' (M ++ [p]) H' (.loc h.length) (.ref p) :=
  .loc (by rw [List.getElem?_append_right (by rw [s.len]; exact Nat.le_refl _), s.len, Nat.sub_self]; rfl)
theorem se_lstN {es : List Expr} {t : MA} (ha : SA C X W es t) : SE C X W (.List es pos) (cLstN t) := by
  refine PE.weak (pe_lst ha) fun σ H Q ⟨Z, M, env, h, s, g⟩ => ?_
  refine tA.step s g fun M1 H1 h1 ds vs e1 s1 r1 g1 => ?_
  by_cases hz : ds.length ≤ sizeLine
  · rw [if_pos hz] at g1
    refine ⟨r1.1 ▸ hz, fun p hp => g1 (M1 ++ [p]) _ (Evo.newloc hp) (s1.later (Evo.newloc hp) (s1.sh.newloc hp ⟨vs, upd_same, r1.mono (Evo.newloc hp)⟩)) _ ?_⟩
    exact newLoc s1.sh
  · rw [if_neg hz] at g1
    exact False.elim g1

/-! ### statements -/
def sSeq (a b : MS) : MS := fun env h => match a env h with
  | .nx env' h' => b env' h'
  | r => r
def sNil : MS := fun env h => .nx env h
theorem sb_nil : SB C X W [] sNil := PSs.weak pss_nil fun D' σ H ⟨Z, M, env, h, s, g⟩ => g M σ H (.refl M H) s
theorem sb_one {st : Stmt} {m : MS} (h : SS C X W st m) : SB C X W [st] m := pss_one h
theorem sb_cons {st : Stmt} {rest : List Stmt} {a b : MS} (h1 : SS C X W st a) (h2 : SB C X W rest b) : SB C X W (st :: rest) (sSeq a b) := by
  refine PSs.weak (pss_cons h1 h2) fun D' σ H ⟨Z, M, env, h, s, g⟩ => ⟨Z, M, env, h, s, ?_⟩
  unfold sSeq at g
  cases e : a env h with
  | nx env' h' =>
    rw [e] at g
    exact fun M' σ' H' ev s' => ⟨Z, M', env', h', s', GotS.later ev g⟩
  | br env' h' => rw [e] at g; exact g
  | ct env' h' => rw [e] at g; exact g
  | rt d h' => rw [e] at g; exact g
  | exc c ns ds env' h' => rw [e] at g; exact g
  | bad => rw [e] at g; exact g
theorem ss_pass : SS C X W (.Pass pos) sNil := PS.weak ps_pass fun D' σ H ⟨Z, M, env, h, s, g⟩ => g M σ H (.refl M H) s
def sBreak : MS := fun env h => .br env h
def sCont : MS := fun env h => .ct env h
theorem ss_break : SS C X W (.Break pos) sBreak := PS.weak ps_break fun D' σ H ⟨Z, M, env, h, s, g⟩ => g M σ H (.refl M H) s
theorem ss_cont : SS C X W (.Continue pos) sCont := PS.weak ps_continue fun D' σ H ⟨Z, M, env, h, s, g⟩ => g M σ H (.refl M H) s
theorem ss_doc {x j pos'} : SS C X W (.Expr (.Constant (.str x) j pos) pos') sNil := PS.weak ps_doc fun D' σ H ⟨Z, M, env, h, s, g⟩ => g M σ H (.refl M H) s
def sExpr (m : ME) : MS := fun env h => (m env h).thenS env fun _ h1 => .nx env h1
theorem ss_expr {e : Expr} {m : ME} (he : SE C X W e m) (hs : swapsWith e none pos.line X.env = pure false := by rfl) : SS C X W (.Expr e pos) (sExpr m) := by
  refine PS.weak (ps_expr he hs) fun D' σ H ⟨Z, M, env, h, s, g⟩ => ?_
  exact tE.stepS s g fun M1 H1 h1 d v e1 s1 r1 g1 => g1 M1 σ H1 (.refl M1 H1) s1
def sRet (m : ME) : MS := fun env h => (m env h).thenS env fun d h1 => .rt d h1
theorem ss_ret {e : Expr} {m : ME} (he : SE C X W e m) : SS C X W (.Return (some e) pos) (sRet m) := by
  refine PS.weak (ps_ret he) fun D' σ H ⟨Z, M, env, h, s, g⟩ => ?_
  exact tE.stepS s g fun M1 H1 h1 d v e1 s1 r1 g1 => g1 M1 H1 v (.refl M1 H1) s1.sh r1
def sRetN : MS := fun env h => .rt .non h
theorem ss_retN : SS C X W (.Return none pos) sRetN := PS.weak ps_retN fun D' σ H ⟨Z, M, env, h, s, g⟩ => g M H .non (.refl M H) s.sh .non
def sIf (t : MT) (a b : MS) : MS := fun env h => (t env h).thenS env fun x h1 => match x with
  | true => a env h1
  | false => b env h1
theorem ss_if {c : Expr} {a b : List Stmt} {mt : MT} {ma mb : MS} (hc : ST C X W c mt) (ha : SB C X W a ma) (hb : SB C X W b mb) : SS C X W (.If c a b pos) (sIf mt ma mb) := by
  refine PS.weak (ps_if hc ha hb) fun D' σ H ⟨Z, M, env, h, s, g⟩ => ?_
  refine tT.stepS s g fun M1 H1 h1 b e1 s1 g1 => ?_
  cases b with
  | true => rw [if_pos rfl]; exact ⟨Z, M1, env, h1, s1, g1⟩
  | false => exact ⟨Z, M1, env, h1, s1, g1⟩
def sSet (i : Nat) (m : ME) : MS := fun env h => (m env h).thenS env fun d h1 => .nx (env.set i (.v d)) h1
theorem ss_set {i : Nat} {x : Str} {e : Expr} {m : ME} {pos' : Pos} (hN : X.N.Nodup) (hi : X.N[i]? = some x) (hx : Loc X.env.scope x) (he : SE C X W e m) (hs : swapsWith e (some (.Name x pos')) pos.line X.env = pure false := by rfl)
    (hf : X.fn x = true ∨ X.env.scope.names.lookup x = some .local := by first | exact .inl rfl | exact .inr rfl | assumption) : SS C X W (.Assign [.Name x pos'] e pos) (sSet i m) := by
  refine PS.weak (ps_set hN hi hx he hs hf) fun D' σ H ⟨Z, M, env, h, s, g⟩ => ?_
  exact tE.stepS s g fun M1 H1 h1 d v e1 s1 r1 g1 => g1 M1 _ H1 (.refl M1 H1) (s1.set r1)
end
end G

set_option Elab.async false
set_option linter.all false
set_option maxRecDepth 100000
set_option maxHeartbeats 4000000
/-! G2: defs, calls, pure calls, classes, attributes. -/
namespace G
open PySem PySem.Spec PyProof.Rows L2

abbrev FF := List D → List D → R D

section
variable {K : PySem.W.Frag} {Z Z' : Addr → Prop} {M M' : List Addr} {H : Hp}
theorem Rep.pure {d : D} {v : V} (r : Rep K Z M H d v) (hz : ∀ a, Z a → Z' a) (p : d.pure = true) : Rep K Z' M' H d v := by
  induction r with
  | non => exact .non
  | bl b => exact .bl b
  | int i => exact .int i
  | str x => exact .str x
  | tup t l _ ih => rw [D.pure] at p; exact .tup (t.map fun z h => ⟨hz _ z, h⟩) l fun i d v h1 h2 => ih i d v h1 h2 (pureL_get p h1)
  | lst z h l _ ih => rw [D.pure] at p; exact .lst (hz _ z) h l fun i d v h1 h2 => ih i d v h1 h2 (pureL_get p h1)
  | dic z h k l _ ih => rw [D.pure] at p; exact .dic (hz _ z) h k l fun i d v h1 h2 => ih i d v h1 h2 (pureL_get p h1)
  | obj z h k l _ ih => rw [D.pure] at p; exact .obj (hz _ z) h k l fun i d v h1 h2 => ih i d v h1 h2 (pureL_get p h1)
  | loc h => rw [D.pure] at p; cases p
  | scr s => exact .scr s
  | cls => exact .cls
theorem Reps.pure {xs : List D} {vs : List V} (r : Reps K Z M H xs vs) (hz : ∀ a, Z a → Z' a) (p : pureL xs = true) : Reps K Z' M' H xs vs :=
  ⟨r.1, fun i d v h1 h2 => (r.2 i d v h1 h2).pure hz (pureL_get p h1)⟩
end

theorem Rep.zone' {K : PySem.W.Frag} {Z Z' : Addr → Prop} {M : List Addr} {H : Hp} {d : D} {v : V} (r : Rep K Z M H d v) (hz : ∀ a, Z a → Z' a) : Rep K Z' M H d v := by
  induction r with
  | non => exact .non
  | bl b => exact .bl b
  | int i => exact .int i
  | str x => exact .str x
  | tup t l _ ih => exact .tup (t.map fun z h => ⟨hz _ z, h⟩) l ih
  | lst z h l _ ih => exact .lst (hz _ z) h l ih
  | dic z h k l _ ih => exact .dic (hz _ z) h k l ih
  | obj z h k l _ ih => exact .obj (hz _ z) h k l ih
  | loc h => exact .loc h
  | scr s => exact .scr s
  | cls => exact .cls

/-! ### data as it is at the end of a state -/
mutual
def res : Nat → List D → D → Option D
  | 0, _, _ => none
  | f + 1, h, d => bif d.pure then some d else resN f h d
def resN : Nat → List D → D → Option D
  | 0, _, _ => none
  | f + 1, h, .loc n => match h[n]? with
    | some c => res f h c
    | none => none
  | f + 1, h, .tup xs => (resL f h xs).map .tup
  | f + 1, h, .lst xs => (resL f h xs).map .lst
  | f + 1, h, .dic ks ds => (resL f h ds).map (.dic ks)
  | f + 1, h, .obj c ns ds => (resL f h ds).map (.obj c ns)
  | _ + 1, _, .non => none
  | _ + 1, _, .bl _ => none
  | _ + 1, _, .int _ => none
  | _ + 1, _, .str _ => none
  | _ + 1, _, .scr _ => none
  | _ + 1, _, .cls _ => none
  | _ + 1, _, .lck _ _ => none
def resL : Nat → List D → List D → Option (List D)
  | 0, _, _ => none
  | _ + 1, _, [] => some []
  | f + 1, h, d :: ds => match res f h d with
    | some d' => (resL f h ds).map (d' :: ·)
    | none => none
end
mutual
theorem res_pure : ∀ {f : Nat} {h : List D} {d d' : D}, res f h d = some d' → d'.pure = true
  | 0, h, d, d', e => by rw [res] at e; cases e
  | f + 1, h, d, d', e => by
    rw [res] at e
    cases p : d.pure with
    | true => rw [p] at e; cases e; exact p
    | false => rw [p] at e; exact resN_pure e
theorem resN_pure : ∀ {f : Nat} {h : List D} {d d' : D}, resN f h d = some d' → d'.pure = true
  | 0, h, d, d', e => by rw [resN] at e; cases e
  | f + 1, h, d, d', e => by
    cases d with
    | loc n =>
      rw [resN] at e
      cases hn : h[n]? with
      | none => rw [hn] at e; cases e
      | some c => rw [hn] at e; exact res_pure e
    | tup xs =>
      rw [resN] at e
      cases hx : resL f h xs with
      | none => rw [hx] at e; cases e
      | some ys => rw [hx] at e; cases e; rw [D.pure]; exact resL_pure hx
    | lst xs =>
      rw [resN] at e
      cases hx : resL f h xs with
      | none => rw [hx] at e; cases e
      | some ys => rw [hx] at e; cases e; rw [D.pure]; exact resL_pure hx
    | dic ks xs =>
      rw [resN] at e
      cases hx : resL f h xs with
      | none => rw [hx] at e; cases e
      | some ys => rw [hx] at e; cases e; rw [D.pure]; exact resL_pure hx
    | obj c ns xs =>
      rw [resN] at e
      cases hx : resL f h xs with
      | none => rw [hx] at e; cases e
      | some ys => rw [hx] at e; cases e; rw [D.pure]; exact resL_pure hx
    | _ => rw [resN] at e; cases e
theorem resL_pure : ∀ {f : Nat} {h ds ds' : List D}, resL f h ds = some ds' → pureL ds' = true
  | 0, h, ds, ds', e => by cases ds <;> (rw [resL] at e; cases e)
  | f + 1, h, [], ds', e => by rw [resL] at e; cases e; rfl
  | f + 1, h, d :: ds, ds', e => by
    rw [resL] at e
    cases hd : res f h d with
    | none => rw [hd] at e; cases e
    | some d' =>
      rw [hd] at e
      cases hx : resL f h ds with
      | none => rw [hx] at e; cases e
      | some ys => rw [hx] at e; cases e; rw [pureL, res_pure hd, resL_pure hx]; rfl
end
theorem res_lck {f : Nat} {h : List D} {ks : List Key} {ds : List D} {d : D} (e : res f h (.lck ks ds) = some d) : False := by
  cases f with
  | zero => rw [res] at e; cases e
  | succ f =>
    rw [res, D.pure] at e
    cases f with
    | zero => rw [cond_false, resN] at e; cases e
    | succ f => rw [cond_false, resN] at e; cases e
section
variable {K : PySem.W.Frag} {Z : Addr → Prop} {M : List Addr} {H : Hp} {h : List D}
theorem zn_nil {a : Addr} (z : Z a) : zn Z [] a := ⟨z, List.not_mem_nil⟩
theorem Cel.rep {a : Addr} {c : D} (x : Cel K (zn Z M) M H a c) (nl : ∀ ks ds, c ≠ .lck ks ds) (za : Z a) : Rep K (zn Z []) M H c (.ref a) := by
  cases c with
  | lst xs =>
    obtain ⟨vs, ha, rs⟩ := x
    exact .lst (zn_nil za) ha rs.1 fun i d v h1 h2 => (rs.2 i d v h1 h2).zone' fun a z => zn_nil z.1
  | dic ks xs =>
    obtain ⟨vs, ha, hk, rs⟩ := x
    exact .dic (zn_nil za) (.inl ha) hk (by rw [rs.1, List.length_map]) fun i d v h1 h2 => (rs.2 i d v h1 h2).zone' fun a z => zn_nil z.1
  | obj c ns xs =>
    obtain ⟨dx, vs, ha, hk, rs⟩ := x
    exact .obj (zn_nil za) ha hk (by rw [rs.1, List.length_map]) fun i d v h1 h2 => (rs.2 i d v h1 h2).zone' fun a z => zn_nil z.1
  | lck ks xs => exact absurd rfl (nl ks xs)
  | _ => exact False.elim x
mutual
theorem res_rep (s : Sh K C Z M h H) (hz : ∀ a, a ∈ M → Z a) : ∀ {f : Nat} {d d' : D} {v : V}, res f h d = some d' → Rep K (zn Z []) M H d v → Rep K (zn Z []) [] H d' v
  | 0, d, d', v, e, r => by rw [res] at e; cases e
  | f + 1, d, d', v, e, r => by
    rw [res] at e
    cases p : d.pure with
    | true => rw [p] at e; cases e; exact r.pure (fun a z => z) p
    | false => rw [p] at e; exact resN_rep s hz e r
theorem resN_rep (s : Sh K C Z M h H) (hz : ∀ a, a ∈ M → Z a) : ∀ {f : Nat} {d d' : D} {v : V}, resN f h d = some d' → Rep K (zn Z []) M H d v → Rep K (zn Z []) [] H d' v
  | 0, d, d', v, e, r => by rw [resN] at e; cases e
  | f + 1, d, d', v, e, r => by
    cases d with
    | loc n =>
      rw [resN] at e
      cases hn : h[n]? with
      | none => rw [hn] at e; cases e
      | some c =>
        rw [hn] at e
        cases r with
        | loc hm => exact res_rep s hz e (Cel.rep (s.cel n _ c hm hn) (fun ks ds z => by subst z; exact res_lck e) (hz _ (List.mem_of_getElem? hm)))
    | tup xs =>
      rw [resN] at e
      cases hx : resL f h xs with
      | none => rw [hx] at e; cases e
      | some ys =>
        rw [hx] at e; cases e
        cases r with
        | tup t l q =>
          have rp := resL_rep s hz hx ⟨l, q⟩
          exact .tup t rp.1 rp.2
    | lst xs =>
      rw [resN] at e
      cases hx : resL f h xs with
      | none => rw [hx] at e; cases e
      | some ys =>
        rw [hx] at e; cases e
        cases r with
        | lst z ha l q =>
          have rp := resL_rep s hz hx ⟨l, q⟩
          exact .lst z ha rp.1 rp.2
    | dic ks xs =>
      rw [resN] at e
      cases hx : resL f h xs with
      | none => rw [hx] at e; cases e
      | some ys =>
        rw [hx] at e; cases e
        cases r with
        | dic z ha hk l q =>
          have rp := resL_rep s hz hx ⟨by rw [l, List.length_map], q⟩
          exact .dic z ha hk (by rw [rp.1, List.length_map]) rp.2
    | obj c ns xs =>
      rw [resN] at e
      cases hx : resL f h xs with
      | none => rw [hx] at e; cases e
      | some ys =>
        rw [hx] at e; cases e
        cases r with
        | obj z ha hk l q =>
          have rp := resL_rep s hz hx ⟨by rw [l, List.length_map], q⟩
          exact .obj z ha hk (by rw [rp.1, List.length_map]) rp.2
    | _ => rw [resN] at e; cases e
theorem resL_rep (s : Sh K C Z M h H) (hz : ∀ a, a ∈ M → Z a) : ∀ {f : Nat} {ds ds' : List D} {vs : List V}, resL f h ds = some ds' → Reps K (zn Z []) M H ds vs → Reps K (zn Z []) [] H ds' vs
  | 0, ds, ds', vs, e, r => by cases ds <;> (rw [resL] at e; cases e)
  | f + 1, [], ds', vs, e, r => by
    rw [resL] at e; cases e
    rw [r.cases_nil]
    exact Reps.nil
  | f + 1, d :: ds, ds', vs, e, r => by
    rw [resL] at e
    obtain ⟨v, ws, rfl, r1, r2⟩ := r.cases_cons
    cases hd : res f h d with
    | none => rw [hd] at e; cases e
    | some d' =>
      rw [hd] at e
      cases hx : resL f h ds with
      | none => rw [hx] at e; cases e
      | some ys =>
        rw [hx] at e; cases e
        exact Reps.cons (res_rep s hz hd r1) (resL_rep s hz hx r2)
end
end
end G

set_option Elab.async false
set_option linter.all false
set_option maxRecDepth 100000
set_option maxHeartbeats 4000000
/-! G3: defs, calls, pure calls, classes. -/
namespace G
open PySem PySem.Spec PyProof.Rows L2

/-- as a pure function: the arguments' data go in, the result's data comes out, the state stands -/
def pureF (F : FF) : FF := fun ds h => match resL 60 h ds with
  | some es => (match F es [] with
    | .ok d h1 => (match res 60 h1 d with
      | some d' => bif pureL ds || d'.flat then .ok d' h else .bad
      | none => .bad)
    | .exc c ns ps h1 => (match resL 60 h1 ps with
      | some ps' => bif pureL ds || flatL ps' then .exc c ns ps' h else .bad
      | none => .bad)
    | .bad => .bad)
  | none => .bad

section
variable {K : PySem.W.Frag} {C : List (V × D)} {Z : Addr → Prop} {M : List Addr} {H H1 : Hp} {h : List D}
theorem Rep.flat {d : D} {v : V} {Z' : Addr → Prop} {M' : List Addr} (r : Rep K Z M H d v) (hz : ∀ a xs, Z a → Rd H a (.tup xs) → Z' a) (p : d.flat = true) : Rep K Z' M' H d v := by
  induction r with
  | non => exact .non
  | bl b => exact .bl b
  | int i => exact .int i
  | str x => exact .str x
  | tup t l _ ih => rw [D.flat] at p; exact .tup (t.map fun z h => ⟨hz _ _ z h, h⟩) l fun i d v h1 h2 => ih i d v h1 h2 (flatL_get p h1)
  | lst z h l _ ih => rw [D.flat] at p; cases p
  | dic z h k l _ ih => rw [D.flat] at p; cases p
  | obj z h k l _ ih => rw [D.flat] at p; cases p
  | loc h => rw [D.flat] at p; cases p
  | scr s => rw [D.flat] at p; cases p
  | cls => rw [D.flat] at p; cases p
theorem Cel.noxd {a : Addr} {d : D} {fs : List (Str × V)} (c : Cel K Z M H a d) (e : H a = some (.xd fs)) : False := by
  cases d with
  | lst xs => obtain ⟨vs, q, _⟩ := c; rw [e] at q; cases q
  | dic ks ds => obtain ⟨vs, q, _⟩ := c; rw [e] at q; cases q
  | obj c' ns ds => obtain ⟨dx, vs, q, _⟩ := c; rw [e] at q; cases q
  | lck ks ds => obtain ⟨vs, o, q, _⟩ := c; rw [e] at q; cases q
  | _ => exact False.elim c
theorem Cel.notup {a : Addr} {d : D} {xs : List V} (c : Cel K Z M H a d) (r : Rd H a (.tup xs)) : False := by
  have q : ∀ o, H a = some o → (∀ u w, o = .frz u w → ∃ kvs, w = .dK kvs) → o ≠ .tup xs → False := fun o e n t => by
    rcases r with r | ⟨u, r⟩
    · rw [e] at r; cases r; exact t rfl
    · rw [e] at r; cases r
      obtain ⟨kvs, z⟩ := n _ _ rfl
      cases z
  obtain ⟨o, e, n⟩ := Cel.there c
  refine q o e n fun z => ?_
  subst z
  cases d with
  | lst xs => obtain ⟨vs, q, _⟩ := c; rw [e] at q; cases q
  | dic ks ds => obtain ⟨vs, q, _⟩ := c; rw [e] at q; cases q
  | obj c' ns ds => obtain ⟨dx, vs, q, _⟩ := c; rw [e] at q; cases q
  | lck ks ds => obtain ⟨vs, o, q, _⟩ := c; rw [e] at q; cases q
  | _ => exact False.elim c
theorem Sh.notup {a : Addr} {xs : List V} (s : Sh K C Z M h H) (r : Rd H a (.tup xs)) : a ∉ M := fun m => by
  obtain ⟨i, hi, rfl⟩ := List.getElem_of_mem m
  have hl : i < h.length := s.len ▸ hi
  exact Cel.notup (s.cel i _ _ (List.getElem?_eq_getElem hi) (List.getElem?_eq_getElem hl)) r
/-- nothing of the mutable objects has turned -/
theorem Sh.stay (s : Sh K C Z M h H) (k : ∀ a o, H a = some o → H1 a = some o) : Sh K C Z M h H1 ∧ Evo M H M H1 := by
  have ev : Evo M H M H1 := ⟨⟨[], by simp⟩, fun a m n => absurd m n, fun a o e _ => k a o e, fun a o u e => k a _ e⟩
  refine ⟨⟨fun p hp => s.all p ?_, s.mz, fun q hq => ⟨(s.cst q hq).1, (s.cst q hq).2.mono ev⟩, s.nd, s.len, fun i a d h1 h2 => Cel.mono ev (fun o ho => k a o ho) (s.cel i a d h1 h2)⟩, ev⟩
  cases e : H p with
  | none => rfl
  | some o => rw [k p o e] at hp; cases hp
theorem Sh.start {Z : Addr → Prop} (all : ∀ p, H p = .none → Z p) (cst : ∀ p ∈ C, p.2.pure = true ∧ Rep K (zn Z []) [] H p.2 p.1) : Sh K C Z [] [] H := ⟨all, fun a m => (by cases m), cst, List.nodup_nil, rfl, fun i a d h1 => by simp at h1⟩
end

/-! ### room, with no repr on its way -/
structure RG (k : Nat) (A : Around) : Prop where
  rm : Room k A
  gd : A.guards = some []
theorem RG.mono {j k : Nat} {A : Around} (r : RG k A) (h : j ≤ k) : RG j A := ⟨r.rm.mono h, r.gd⟩
theorem RG.deeper {k : Nat} {A : Around} (r : RG (k + 1) A) (env : Env) : RG k (A.deeper env) := ⟨r.rm.deeper env, r.gd⟩
theorem RG.in1 {k : Nat} {A : Around} (r : RG (k + 1) A) : RG k A.in1 := ⟨r.rm.in1, r.gd⟩
theorem RG.make {k : Nat} {A : Around} (r : RG (k + 1) A) (C : Addr) (us : List Value) (kw : List (Str × Value)) : RG k (A.under (.builtin "type.__call__" ⟨.ref C :: us, kw⟩)) :=
  ⟨r.rm.make C us kw, by
    have := r.gd
    first | exact this | (simpa [Around.under, Code.guards, Code.isGuard, pushGuards, guardIds] using this)⟩
/-- FnOk, with no repr on its way -/
structure FnG (P : Program) (w : World) (K : PySem.W.Frag) (mg : Str → Option Value) (base : Heap) (CX : CXT) (k : Nat) (f : Addr) (fd : FuncData) (ps : List Str) (sp : Sp) : Prop where
  len : ∀ vs H Q E, sp vs H Q E → vs.length = ps.length
  run : ∀ (A : Around) (outer : List Env) (s : Shared) (H : Hp) (args : Args) (us : List Value) (vs : List V) (Q : VK) (E : XK), RG k A → Env0 P w K mg base A outer s H → BindsTo s fd args (ps.zip us) → Vals vs us → sp vs H Q E →
    codeAny (model P w) A (.call (.ref f) args) (CR CX outer P w H s Q E) s
theorem FnG.mono {P : Program} {w : World} {K : PySem.W.Frag} {mg : Str → Option Value} {base : Heap} {CX : CXT} {j k : Nat} {f : Addr} {fd : FuncData} {ps : List Str} {sp : Sp} (F : FnG P w K mg base CX j f fd ps sp) (h : j ≤ k) :
    FnG P w K mg base CX k f fd ps sp := ⟨F.len, fun A outer s H args us vs Q E hr => F.run A outer s H args us vs Q E (hr.mono h)⟩
/-- a def by its body: fn_of, with no repr on its way -/
theorem FunD.okG {P : Program} {w : World} {K : PySem.W.Frag} {mg : Str → Option Value} {base : Heap} {x qual : Str} {params : Arguments} {body : List Stmt} {scope : Scope} {dvs : List V} {kws : List (Str × V)} {f : Addr} {fd : FuncData} {CX : CXT} {N ps : List Str} {k : Nat} {sp : Sp}
    (F : FunD K x qual params body scope dvs kws f fd) (S : FnScope N ps scope) (len : ∀ vs H Q E, sp vs H Q E → vs.length = ps.length)
    (hbody : ∀ (cdv : Value) (A : Around) (outer : List Env) (s : Shared) (H : Hp) (vs : List V) (Q : VK) (E : XK), RG k (A.deeper (envOfC qual scope s.heap.objs.size f cdv)) → sp vs H Q E →
      ∃ t, PSs (cxOf CX P w K mg base N qual scope f cdv A outer s H E) body t ∧ t { nx := fun _ H' => Q .non H', rt := Q } (L2.start N vs) H) : FnG P w K mg base CX (k + 1) f fd ps sp := by
  obtain ⟨oc, od, dV, kV, doc, pm, an, cdv, ct, osl, rfl, lk, hcd, _, _⟩ := F.ex
  refine ⟨len, fun A outer s H args us vs Q E hr e0 hb r hsp => ?_⟩
  have hl := len _ _ _ _ hsp
  have KX : K.In s.heap := e0.mod.kin.keeps fun b o e => (e0.bs b o e).1
  have lim : s.heap.NoLimit := e0.mod.nolimit.keeps fun b o e => (e0.bs b o e).1
  have hkind : ∀ y ∈ ps.zip us, scope.names.lookup y.1 = some .local ∨ (scope.names.lookup y.1 = some .cell ∧ ((cellsFrom (s.heap.objs.size + 1) scope.names []).lookup y.1).isSome = true) := fun ⟨n, v⟩ hy =>
    (S.par n (List.of_mem_zip hy).1).elim .inl fun q => .inr ⟨q, PySem.W.cellsFrom_some _ _ _ (.inl q)⟩
  refine codeAny_call_function hr.rm.depth (KX _ _ lk) rfl S.co S.gen rfl (PySem.W.codeRec_of KX hcd) (hb _ _ _ _ (wpAny_newFunctionEnv_cells S.kind hkind fun env he s1 x => ?_))
  subst he
  refine ⟨lim.keeps x.toInCall.keep, codeAny_func ?_⟩
  obtain ⟨t, ht, hq⟩ := hbody cdv A outer s H vs Q E (hr.deeper _) hsp
  refine wpAny_mono (ht.run [] s1 _ H _ (inv_start S hr.rm.hd e0 hl r x) hq) (fun fl s' hs => ?_) fun e s' hs => hs
  cases fl with
  | ret u => obtain ⟨v, σ', H', J, rv, q⟩ := hs; exact ⟨v, H', J.os, J.bare, J.base, J.hok, rv, q⟩
  | next => obtain ⟨σ', H', J, q⟩ := hs; exact ⟨V.non, H', J.os, J.bare, J.base, J.hok, rfl, q⟩
  | brk => obtain ⟨_, _, _, q⟩ := hs; exact False.elim q
  | cont => obtain ⟨_, _, _, q⟩ := hs; exact False.elim q
theorem run_fnG {X : Cx} {CX : CXT} {k : Nat} {f : Addr} {fd : FuncData} {ps : List Str} {sp : Sp} {dvs : List V} {ds : List Value} {E : L2.St → XK} {pins : List (Addr × Obj)} {σ : L2.St} {H : Hp} {s : Shared} {Q : VK} {us : List Value} {vs : List V}
    {A : Around} (F : FnG X.prog X.w X.K X.mg X.base CX k f fd ps sp) (hr : RG k A) (e0 : Env0 X.prog X.w X.K X.mg X.base A X.stack s H) (hb : Binds X.K fd ps ds) (hd : Vals dvs ds) (hx : PassesAt CX X σ (E σ)) (I : Inv X pins σ H s) (r : Vals vs us) (h : sp (vs ++ dvs) H Q (E σ)) : wpAny (model X.prog X.w) A (call (.ref f) us) (EP X pins σ Q) X.xe s := by
  have r2 : Vals (vs ++ dvs) (us ++ ds) := r.append hd
  have hl : (us ++ ds).length = ps.length := by rw [← r2.length]; exact F.len _ _ _ _ h
  refine wpAny_call (codeAny_mono (F.run A X.stack s H ⟨us, []⟩ (us ++ ds) (vs ++ dvs) Q (E σ) hr e0 (hb s us I.kIn hl) r2 h) fun r s' hq => ?_)
  cases r with
  | error e => exact hx pins H s e s' I hq
  | ok fl =>
    cases fl with
    | ret u => exact I.after hq
    | next => exact False.elim hq
    | brk => exact False.elim hq
    | cont => exact False.elim hq

/-! ### what can be called -/
/-- calls of the value u are F -/
def CalA (A : Around) (C : List (V × D)) (X : Cx) (W : WX) (u : Value) (F : FF) : Prop :=
  ∀ (pins : List (Addr × Obj)) (s : Shared) (σ : L2.St) (H : Hp) (Q : VK) (Z : Addr → Prop) (M : List Addr) (env : List Sl) (h : List D) (ds : List D) (vs : List V) (us : List Value),
    Inv X pins σ H s → SR X.K C X.pn Z M env h σ H → Reps X.K (zn Z M) M H ds vs → Vals vs us → Got X.K C X.pn Z W σ env M H (F ds h) (fun M' H' d => ∀ v, Rep X.K (zn Z M') M' H' d v → Q v H') →
    wpAny (model X.prog X.w) A (call u us) (EP X pins σ Q) X.xe s
abbrev Cal (C : List (V × D)) (X : Cx) (W : WX) (u : Value) (F : FF) : Prop := CalA X.A C X W u F
abbrev Cal1 (C : List (V × D)) (X : Cx) (W : WX) (u : Value) (F : FF) : Prop := CalA X.A.in1 C X W u F

theorem cal_pure {C : List (V × D)} {X : Cx} {W : WX} {u : Value} {F : FF} (c : Cal C X W u F) : Cal C X W u (pureF F) := by
  intro pins s σ H Q Z M env h ds vs us I sr rs r g
  unfold pureF at g
  cases e1 : resL 60 h ds with
  | none => rw [e1] at g; exact False.elim g
  | some es =>
    rw [e1] at g
    dsimp only at g
    have pe := resL_pure e1
    -- the callee's zone
    have hes : ∃ Z' : Addr → Prop, (∀ p, H p = none → Z' p) ∧ (∀ p ∈ C, p.2.pure = true ∧ Rep X.K (zn Z' []) [] H p.2 p.1) ∧ Reps X.K (zn Z' []) [] H es vs ∧ ∀ H' (d' : D) v, (∀ a o, H a = some o → H' a = some o) → (pureL ds || d'.flat) = true → d'.pure = true → Rep X.K (zn Z' []) [] H' d' v → Rep X.K (zn Z M) M H' d' v := by
      cases p : pureL ds with
      | true =>
        refine ⟨zn Z M, fun p hp => sr.sh.zone hp, fun q hq => ⟨(sr.sh.cst q hq).1, (sr.sh.cst q hq).2.pure (fun a z => zn_nil z) (sr.sh.cst q hq).1⟩, ?_, fun H' d' v k hf pd r => r.pure (fun a z => z.1) pd⟩
        have ee : es = ds := by
          clear rs r g
          have : ∀ (f : Nat) (ds es : List D), pureL ds = true → resL f h ds = some es → es = ds := by
            intro f
            induction f with
            | zero => intro ds es _ e; cases ds <;> (rw [resL] at e; cases e)
            | succ f ih =>
              intro ds es p e
              cases ds with
              | nil => rw [resL] at e; cases e; rfl
              | cons d ds =>
                rw [resL] at e
                rw [pureL, Bool.and_eq_true] at p
                cases hd : res f h d with
                | none => rw [hd] at e; cases e
                | some d' =>
                  rw [hd] at e
                  have hdd : d' = d := by
                    cases f with
                    | zero => rw [res] at hd; cases hd
                    | succ f => rw [res, p.1] at hd; cases hd; rfl
                  cases hx : resL f h ds with
                  | none => rw [hx] at e; cases e
                  | some ys =>
                    rw [hx] at e; cases e
                    rw [hdd, ih _ _ p.2 hx]
          exact this _ _ _ p e1
        rw [ee]
        exact rs.pure (fun a z => zn_nil z) p
      | false =>
        refine ⟨Z, sr.sh.all, fun q hq => ⟨(sr.sh.cst q hq).1, (sr.sh.cst q hq).2.pure (fun a z => zn_nil z.1) (sr.sh.cst q hq).1⟩, resL_rep sr.sh sr.sh.mz e1 ⟨rs.1, fun i d v h1 h2 => (rs.2 i d v h1 h2).zone' fun a z => zn_nil z.1⟩, fun H' d' v k hf pd r => ?_⟩
        rw [Bool.false_or] at hf
        exact r.flat (fun a xs z rd => ⟨z.1, Sh.notup (sr.sh.stay k).1 rd⟩) hf
    obtain ⟨Z', hall, hcst, hrs, hback⟩ := hes
    have sr' : SR X.K C X.pn Z' [] (List.replicate σ.length .u) [] σ H := by
      refine ⟨Sh.start hall hcst, fun i d hd => ?_, fun i c ns ds hd => ?_, by simp⟩
      rotate_left 1
      · rw [List.getElem?_replicate] at hd
        split at hd <;> cases hd
      rw [List.getElem?_replicate] at hd
      split at hd
      · cases hd
      · cases hd
    refine c pins s σ H Q Z' [] (List.replicate σ.length .u) [] es vs us I sr' hrs r ?_
    cases e2 : F es [] with
    | bad => rw [e2] at g; exact g
    | ok d h1 =>
      rw [e2] at g
      dsimp only at g
      intro M1 H1 ev s1 v rv
      have kk : ∀ a o, H a = some o → H1 a = some o := fun a o e => ev.keep a o e List.not_mem_nil
      cases e3 : res 60 h1 d with
      | none => rw [e3] at g; exact False.elim g
      | some d' =>
        rw [e3] at g
        dsimp only at g
        cases hb : pureL ds || d'.flat with
        | false => rw [hb] at g; exact False.elim g
        | true =>
          rw [hb] at g
          obtain ⟨q1, q2⟩ := sr.sh.stay kk
          refine g M H1 q2 (sr.later q2 q1) v (hback H1 d' v kk hb (res_pure e3) ?_)
          exact res_rep s1.sh s1.sh.mz e3 (rv.zone' fun a z => zn_nil z.1)
    | exc cn ns ps h1 =>
      rw [e2] at g
      dsimp only at g
      intro M1 H1 dx ev s1 ⟨fs, hx, hm, hk, hr⟩
      have kk : ∀ a o, H a = some o → H1 a = some o := fun a o e => ev.keep a o e List.not_mem_nil
      cases e3 : resL 60 h1 ps with
      | none => rw [e3] at g; exact False.elim g
      | some ps' =>
        rw [e3] at g
        dsimp only at g
        cases hb : pureL ds || flatL ps' with
        | false => rw [hb] at g; exact False.elim g
        | true =>
          rw [hb] at g
          obtain ⟨q1, q2⟩ := sr.sh.stay kk
          refine g M H1 dx q2 (sr.later q2 q1) ⟨fs, hx, fun m => ?_, hk, ?_⟩
          · obtain ⟨o, ho, _⟩ := sr.sh.at m
            have c := sr.sh
            obtain ⟨i, hi, hd⟩ := List.getElem_of_mem m
            have hl : i < h.length := c.len ▸ hi
            have ce := q1.cel i _ _ (List.getElem?_eq_getElem hi) (List.getElem?_eq_getElem hl)
            rw [hd] at ce
            exact Cel.noxd ce hx
          have hp := resL_pure e3
          have q := resL_rep s1.sh s1.sh.mz e3 ⟨hr.1, fun i d v h1 h2 => (hr.2 i d v h1 h2).zone' fun a z => zn_nil z.1⟩
          refine ⟨q.1, fun i d v a1 a2 => hback H1 d v kk ?_ (pureL_get hp a1) (q.2 i d v a1 a2)⟩
          cases hpp : pureL ds with
          | true => rfl
          | false =>
            rw [hpp, Bool.false_or] at hb
            rw [Bool.false_or]
            exact flatL_get hb a1

/-! ### a def -/
def GotF (K : PySem.W.Frag) (C : List (V × D)) (Z : Addr → Prop) (M : List Addr) (H : Hp) (r : R D) (Q : VK) (E : XK) : Prop := match r with
  | .ok d h => ∀ M' H' v, Evo M H M' H' → Sh K C Z M' h H' → Rep K (zn Z M') M' H' d v → Q v H'
  | .exc c ns ds h => ∀ M' H' dx, Evo M H M' H' → Sh K C Z M' h H' → Xr K (zn Z M') M' H' ns ds dx → E (.ref (He.ga K c)) (some dx) H'
  | .bad => False
/-- its promise: n arguments -/
def spI (K : PySem.W.Frag) (C : List (V × D)) (n : Nat) (F : FF) : Sp := fun vs H Q E => ∃ Z M h ds, Sh K C Z M h H ∧ Reps K (zn Z M) M H ds vs ∧ ds.length = n ∧ GotF K C Z M H (F ds h) Q E
/-- the function of a body; n slots -/
def RS.toR (r : RS) : R D := match r with
  | .nx _ h => .ok .non h
  | .rt d h => .ok d h
  | .exc c ns ps _ h => .exc c ns ps h
  | .br _ _ => .bad
  | .ct _ _ => .bad
  | .bad => .bad
def runF (m : MS) (np n : Nat) : FF := fun ds h => bif ds.length == np then (m (ds.map .v ++ List.replicate (n - np) .u) h).toR else .bad
theorem runF_len {m : MS} {np n : Nat} {ds h : List D} (e : runF m np n ds h ≠ .bad) : ds.length = np := by
  unfold runF at e
  cases q : ds.length == np with
  | true => exact eq_of_beq q
  | false => rw [q] at e; exact absurd rfl e
section
variable {C : List (V × D)} {P : Program} {w : World} {K : PySem.W.Frag} {mg : Str → Option Value} {base : Heap} {x qual : Str} {params : Arguments} {body : List Stmt} {scope : Scope} {dvs : List V} {kws : List (Str × V)} {f : Addr} {fd : FuncData}
theorem fn_mk {N ps : List Str} {k : Nat} {m : MS} (F : FunD K x qual params body scope dvs kws f fd) (S : FnScope N ps scope)
    (hb : ∀ (cdv : Value) (A : Around) (outer : List Env) (s : Shared) (H : Hp) (E : XK) (W : WX), RG k (A.deeper (envOfC qual scope s.heap.objs.size f cdv)) → Takes (cxOf (L2.CX P w) P w K mg base N qual scope f cdv A outer s H E) W → SB C (cxOf (L2.CX P w) P w K mg base N qual scope f cdv A outer s H E) W body m) :
    FnG P w K mg base (L2.CX P w) (k + 1) f fd ps (spI K C ps.length (runF m ps.length N.length)) := by
  refine FunD.okG F S (fun vs H Q E h => ?_) (fun cdv A outer s H vs Q E hr h => ?_)
  · obtain ⟨Z, M, h, ds, _, rs, l, _⟩ := h
    rw [← rs.1, l]
  · obtain ⟨Z, M, h, ds, sh, rs, l, g⟩ := h
    refine ⟨_, hb cdv A outer s H E (fun cls d _ H => E cls d H) hr (takes_of rfl rfl rfl rfl), Z, M, ds.map .v ++ List.replicate (N.length - ps.length) .u, h, ⟨sh, fun i d hd => ?_, fun i c ns es hd => ?_, ?_⟩, ?_⟩
    rotate_left 1
    · by_cases hi : i < ds.length
      · rw [List.getElem?_append_left (by simpa using hi), List.getElem?_map] at hd
        cases hx : ds[i]? with
        | none => rw [hx] at hd; cases hd
        | some d' => rw [hx] at hd; cases hd
      · have hi := Nat.le_of_not_lt hi
        rw [List.getElem?_append_right (by simpa using hi), List.getElem?_replicate] at hd
        split at hd <;> cases hd
    rotate_right 1
    · by_cases hi : i < ds.length
      · rw [List.getElem?_append_left (by simpa using hi), List.getElem?_map] at hd
        cases hx : ds[i]? with
        | none => rw [hx] at hd; cases hd
        | some d' =>
          rw [hx] at hd
          cases hd
          obtain ⟨v, h1, h2⟩ := rs.get hx
          refine ⟨v, ?_, h2⟩
          unfold L2.start
          rw [List.getElem?_append_left (by rw [List.length_map, ← rs.1]; exact hi), List.getElem?_map, h1]
          rfl
      · have hi := Nat.le_of_not_lt hi
        rw [List.getElem?_append_right (by simpa using hi), List.getElem?_replicate] at hd
        split at hd
        · cases hd
        · cases hd
    · unfold L2.start
      simp [rs.1.symm, l]
    · unfold runF at g
      rw [l, beq_self_eq_true] at g
      show GotS K C [] Z _ M H (m (ds.map .v ++ List.replicate (N.length - ps.length) .u) h) _
      have g : GotF K C Z M H (m (ds.map .v ++ List.replicate (N.length - ps.length) .u) h).toR Q E := g
      cases e : m (ds.map .v ++ List.replicate (N.length - ps.length) .u) h with
      | nx env' h' => rw [e] at g; exact fun M' σ' H' ev s' => g M' H' .non ev s'.sh .non
      | rt d h' => rw [e] at g; exact fun M' H' v ev s' r => g M' H' v ev s' r
      | exc c ns ps env' h' => rw [e] at g; exact fun M' σ' H' dx ev s' xr => g M' H' dx ev s'.sh xr
      | br env' h' => rw [e] at g; exact False.elim g
      | ct env' h' => rw [e] at g; exact False.elim g
      | bad => rw [e] at g; exact False.elim g
end
/-- calls of a def, dd its defaults -/
theorem cal_fnA {A : Around} {C : List (V × D)} {X : Cx} {W : WX} {k n : Nat} {f : Addr} {fd : FuncData} {ps : List Str} {F : FF} {ds : List Value} {dvs : List V} (tk : Takes X W) (FO : FnG X.prog X.w X.K X.mg X.base (L2.CX X.prog X.w) k f fd ps (spI X.K C n F)) (hr : RG k A) (he0 : ∀ pins σ H s, Inv X pins σ H s → Env0 X.prog X.w X.K X.mg X.base A X.stack s H) (hb : Binds X.K fd ps ds) (hd : Vals dvs ds)
    (dd : List D) (hdd : ∀ Z M H, Reps X.K Z M H dd dvs) (hn : ∀ d h, F d h ≠ .bad → d.length = n) : CalA A C X W (.ref f) (fun es h => F (es ++ dd) h) := by
  intro pins s σ H Q Z M env h es vs us I sr rs r g
  have g : Got X.K C X.pn Z W σ env M H (F (es ++ dd) h) _ := g
  refine run_fnG (E := WE W) FO hr (he0 _ _ _ _ I) hb hd (passAt tk σ) I r ⟨Z, M, h, es ++ dd, sr.sh, rs.append (hdd _ _ _), hn _ h (fun z => ?_), ?_⟩
  · rw [z] at g; exact g
  · cases e : F (es ++ dd) h with
    | ok d h1 => rw [e] at g; exact fun M' H' v ev s' rv => g M' H' ev (sr.later ev s') v rv
    | exc c ns ps h1 => rw [e] at g; exact fun M' H' dx ev s' xr => g M' H' dx ev (sr.later ev s') xr
    | bad => rw [e] at g; exact g
theorem cal_fn {C : List (V × D)} {X : Cx} {W : WX} {k n : Nat} {f : Addr} {fd : FuncData} {ps : List Str} {F : FF} {ds : List Value} {dvs : List V} (tk : Takes X W) (FO : FnG X.prog X.w X.K X.mg X.base (L2.CX X.prog X.w) k f fd ps (spI X.K C n F)) (hr : RG k X.A) (hb : Binds X.K fd ps ds) (hd : Vals dvs ds)
    (dd : List D) (hdd : ∀ Z M H, Reps X.K Z M H dd dvs) (hn : ∀ d h, F d h ≠ .bad → d.length = n) : Cal C X W (.ref f) (fun es h => F (es ++ dd) h) := cal_fnA tk FO hr (fun _ _ _ _ I => I.env0) hb hd dd hdd hn
theorem cal_fn1 {C : List (V × D)} {X : Cx} {W : WX} {k n : Nat} {f : Addr} {fd : FuncData} {ps : List Str} {F : FF} {ds : List Value} {dvs : List V} (tk : Takes X W) (FO : FnG X.prog X.w X.K X.mg X.base (L2.CX X.prog X.w) k f fd ps (spI X.K C n F)) (hr : RG (k + 1) X.A) (hb : Binds X.K fd ps ds) (hd : Vals dvs ds)
    (dd : List D) (hdd : ∀ Z M H, Reps X.K Z M H dd dvs) (hn : ∀ d h, F d h ≠ .bad → d.length = n) : Cal1 C X W (.ref f) (fun es h => F (es ++ dd) h) := cal_fnA tk FO hr.in1 (fun _ _ _ _ I => I.env0.in1) hb hd dd hdd hn
end G

set_option Elab.async false
set_option linter.all false
set_option maxRecDepth 100000
set_option maxHeartbeats 4000000
/-! G4: calls by name, instances, their fields and methods. -/
namespace G
open PySem PySem.Spec PyProof.Rows L2

/-! ### fields -/
def fget : List Str → List D → Str → Option D
  | n :: ns, d :: ds, f => if n = f then some d else fget ns ds f
  | _, _, _ => none
def fput : List Str → List D → Str → D → List Str × List D
  | n :: ns, d :: ds, f, x => if n = f then (n :: ns, x :: ds) else (n :: (fput ns ds f x).1, d :: (fput ns ds f x).2)
  | _, _, f, x => ([f], [x])
section
variable {K : PySem.W.Frag} {Z : Addr → Prop} {M : List Addr} {H : Hp}
theorem fget_some {f : Str} {d : D} : ∀ {fs : List (Str × V)} {ds : List D}, Reps K Z M H ds (fs.map (·.2)) → fget (fs.map (·.1)) ds f = some d → ∃ v, fs.lookup f = some v ∧ Rep K Z M H d v
  | [], ds, r, e => by cases ds <;> cases e
  | (n, v) :: fs, [], r, e => by cases e
  | (n, v) :: fs, d' :: ds, r, e => by
    obtain ⟨v', ws, ev, r1, r2⟩ := r.cases_cons
    cases ev
    have e : (if n = f then some d' else fget (fs.map (·.1)) ds f) = some d := e
    by_cases q : n = f
    · rw [if_pos q] at e; cases e
      exact ⟨v, by rw [← q]; simp, r1⟩
    · rw [if_neg q] at e
      obtain ⟨w, h1, h2⟩ := fget_some r2 e
      refine ⟨w, ?_, h2⟩
      rw [List.lookup_cons]
      rw [show (f == n) = false from beq_eq_false_iff_ne.mpr fun z => q z.symm]
      exact h1
theorem fget_none {f : Str} : ∀ {fs : List (Str × V)} {ds : List D}, Reps K Z M H ds (fs.map (·.2)) → fget (fs.map (·.1)) ds f = none → fs.lookup f = none
  | [], ds, r, e => rfl
  | (n, v) :: fs, [], r, e => by have := r.1; simp at this
  | (n, v) :: fs, d' :: ds, r, e => by
    obtain ⟨v', ws, ev, r1, r2⟩ := r.cases_cons
    cases ev
    have e : (if n = f then some d' else fget (fs.map (·.1)) ds f) = none := e
    by_cases q : n = f
    · rw [if_pos q] at e; cases e
    · rw [if_neg q] at e
      rw [List.lookup_cons]
      rw [show (f == n) = false from beq_eq_false_iff_ne.mpr fun z => q z.symm]
      exact fget_none r2 e
theorem fput_ok {f : Str} {x : D} {y : V} (ry : Rep K Z M H x y) : ∀ {fs : List (Str × V)} {ds : List D}, Reps K Z M H ds (fs.map (·.2)) → (putF f y fs).map (·.1) = (fput (fs.map (·.1)) ds f x).1 ∧ Reps K Z M H (fput (fs.map (·.1)) ds f x).2 ((putF f y fs).map (·.2))
  | [], ds, r => by
    cases ds with
    | nil => exact ⟨rfl, Reps.cons ry Reps.nil⟩
    | cons d ds => have := r.1; simp at this
  | (n, v) :: fs, [], r => by have := r.1; simp at this
  | (n, v) :: fs, d' :: ds, r => by
    obtain ⟨v', ws, ev, r1, r2⟩ := r.cases_cons
    cases ev
    show (List.map (·.1) (if n = f then (n, y) :: fs else (n, v) :: putF f y fs)) = (if n = f then (n :: fs.map (·.1), x :: ds) else (n :: (fput (fs.map (·.1)) ds f x).1, d' :: (fput (fs.map (·.1)) ds f x).2)).1 ∧
      Reps K Z M H (if n = f then (n :: fs.map (·.1), x :: ds) else (n :: (fput (fs.map (·.1)) ds f x).1, d' :: (fput (fs.map (·.1)) ds f x).2)).2 (List.map (·.2) (if n = f then (n, y) :: fs else (n, v) :: putF f y fs))
    by_cases q : n = f
    · rw [if_pos q, if_pos q]
      exact ⟨rfl, Reps.cons ry r2⟩
    · rw [if_neg q, if_neg q]
      obtain ⟨i1, i2⟩ := fput_ok ry r2
      exact ⟨congrArg (n :: ·) i1, Reps.cons r1 i2⟩
end
/-- an instance, by its class and its fields -/
def objOf (h : List D) : D → Option (Str × List Str × List D)
  | .obj c ns ds => some (c, ns, ds)
  | .loc n => match h[n]? with
    | some (.obj c ns ds) => some (c, ns, ds)
    | _ => none
  | _ => none
section
variable {K : PySem.W.Frag} {C : List (V × D)} {Z : Addr → Prop} {M : List Addr} {H : Hp} {h : List D}
theorem objOf_rep (s : Sh K C Z M h H) {d : D} {v : V} {c : Str} {ns : List Str} {ds : List D} (e : objOf h d = some (c, ns, ds)) (r : Rep K (zn Z M) M H d v) :
    ∃ a dx fs, v = .ref a ∧ H a = some (.ins (He.ga K c) dx fs) ∧ fs.map (·.1) = ns ∧ Reps K (zn Z M) M H ds (fs.map (·.2)) := by
  cases r with
  | obj z ha hk l q =>
    cases e
    exact ⟨_, _, _, rfl, ha, hk, by rw [l, List.length_map], q⟩
  | loc hm =>
    rename_i n a
    have e : (match h[n]? with | some (.obj c ns ds) => some (c, ns, ds) | _ => none) = some (c, ns, ds) := e
    cases hn : h[n]? with
    | none => rw [hn] at e; cases e
    | some x =>
      rw [hn] at e
      cases x with
      | obj c' ns' ds' =>
        cases e
        obtain ⟨dx, fs, ha, hk, q⟩ := s.cel n a _ hm hn
        exact ⟨a, dx, fs, rfl, ha, hk, q⟩
      | _ => cases e
  | _ => cases e
end

/-! ### calls -/
def cCall (F : FF) (t : MA) : ME := fun env h => (t env h).bind fun ds h1 => F ds h1
section
variable {C : List (V × D)} {X : Cx} {W : WX} {pos : Pos}
theorem se_call {x : Str} {p : Pos} {u : Value} {e : Expr} {es : List Expr} {F : FF} {t : MA} (c : Cal C X W u F) (hg : Gl X x) (hm : X.mg x = some u) (hk : PySem.W.keepIn X.K u = true) (ha : SA C X W (e :: es) t)
    (hdb : (x == ("__debug__" : Str)) = false := by decide) (he : starEach (e :: es) X.env = (false, eval e X.env) :: starEach es X.env := by rfl) (hpl : (backTo pos (starEach es X.env)).any (·.1) = false := by rfl) :
    SE C X W (.Call (.Name x p) (e :: es) [] pos) (cCall F t) := by
  refine ⟨fun pins s σ H Q I ⟨Z, M, env, h, sr, g⟩ => ?_⟩
  refine wpAny_Call_Name_kw (ld_glob I hg hm ?_ hdb)
  refine PySem.W.callWith_K (h₀ := X.base) I.ok.mod.kin hk (thn (ha.run pos pins s σ H (fun vs H1 => ∃ Z M env h ds, SR X.K C X.pn Z M env h σ H1 ∧ Reps X.K (zn Z M) M H1 ds vs ∧ Got X.K C X.pn Z W σ env M H1 (F ds h) (fun M' H' d => ∀ v, Rep X.K (zn Z M') M' H' d v → Q v H')) I ?_) fun us s1 ⟨vs, H1, I1, r, q⟩ => ⟨I1.kIn, ?_⟩) he hpl
  · exact tA.step sr g fun M1 H1 h1 ds vs e1 s1 r1 g1 => ⟨Z, M1, env, h1, ds, s1, r1, g1⟩
  · obtain ⟨Z, M, env, h, ds, s2, r2, g2⟩ := q
    exact c pins s1 σ H1 Q Z M env h ds vs us I1 s2 r2 r g2
theorem se_call0 {x : Str} {p : Pos} {u : Value} {F : FF} (c : Cal C X W u F) (hg : Gl X x) (hm : X.mg x = some u) (hk : PySem.W.keepIn X.K u = true) (hdb : (x == ("__debug__" : Str)) = false := by decide) :
    SE C X W (.Call (.Name x p) [] [] pos) (cCall F aNil) := by
  refine ⟨fun pins s σ H Q I ⟨Z, M, env, h, sr, g⟩ => ?_⟩
  refine wpAny_Call_Name_kw (ld_glob I hg hm ?_ hdb)
  exact PySem.W.callWith_K0 I.kIn hk (c pins s σ H Q Z M env h [] [] [] I sr Reps.nil .nil g)

/-! ### methods of own classes -/
/-- o.m(..), o an instance of the class c -/
def cMeth (c m : Str) (F : FF) (o : ME) (t : MA) : ME := fun env h => (o env h).bind fun x h1 => match objOf h1 x with
  | some (c', ns, ds) => bif decide (c' = c) && (fget ns ds m).isNone then (t env h1).bind fun es h2 => F (x :: es) h2 else .bad
  | none => .bad
theorem se_meth {o e : Expr} {es : List Expr} {c m : Str} {f : Addr} {F : FF} {mo : ME} {t : MA} {apos : Pos} {pl : Sem Bool} (ho : SE C X W o mo) (cl : Cls X.K (He.ga X.K c)) (hm : Meth X.K (He.ga X.K c) m f) (cal : Cal C X W (.ref f) F) (ha : SA C X W (e :: es) t)
    (hst : starEach (e :: es) X.env = (false, eval e X.env) :: starEach es X.env := by rfl) (hpl : (backTo pos (starEach es X.env)).any (·.1) = false := by rfl)
    (ht : eval (.Call (.Attribute o m apos) (e :: es) [] pos) X.env = (do
      let ov ← eval o X.env
      standAt apos.atName
      let (f, first) ← holding [ov] (getMethod ov m pl)
      callWith pos f first (backTo pos (starEach (e :: es) X.env)) (backToKw pos (keywordEach [] X.env))) := by rfl) :
    SE C X W (.Call (.Attribute o m apos) (e :: es) [] pos) (cMeth c m F mo t) := by
  refine ⟨fun pins s σ H Q I ⟨Z, M, env, h, sr, g⟩ => ?_⟩
  refine PySem.W.methodCall_KW (pl := pl) (thn (ho.run pins s σ H (fun x H1 => ∃ M h1 d a dx fs, SR X.K C X.pn Z M env h1 σ H1 ∧ Rep X.K (zn Z M) M H1 d x ∧ x = .ref a ∧ H1 a = some (.ins (He.ga X.K c) dx fs) ∧ fs.lookup m = none ∧
    Got X.K C X.pn Z W σ env M H1 ((t env h1).bind fun es h2 => F (d :: es) h2) (fun M' H' d => ∀ v, Rep X.K (zn Z M') M' H' d v → Q v H')) I ?_) fun u s1 ⟨x, H1, I1, rx, M1, h1, d, a, dx, fs, sr1, rd, ex, ea, l, q⟩ => ?_) ht
  · refine tE.step sr g fun M1 H1 h1 d v e1 s1 r1 g1 => ?_
    cases eo : objOf h1 d with
    | none => rw [eo] at g1; exact False.elim g1
    | some t3 =>
      obtain ⟨c', ns, ds⟩ := t3
      rw [eo] at g1
      dsimp only at g1
      cases hb : decide (c' = c) && (fget ns ds m).isNone with
      | false => rw [hb] at g1; exact False.elim g1
      | true =>
        rw [hb] at g1
        obtain ⟨b1, b2⟩ := Bool.and_eq_true_iff.mp hb
        obtain rfl := of_decide_eq_true b1
        obtain ⟨a, dx, fs, ev, ha, hk, q⟩ := objOf_rep s1.sh eo r1
        subst hk
        exact ⟨M1, h1, d, a, dx, fs, s1, r1, ev, ha, fget_none q (Option.isNone_iff_eq_none.mp b2), g1⟩
  · subst ex
    obtain rfl : u = Value.ref a := rx
    refine getmeth_ok I1 ea cl hm l ?_
    refine PySem.W.callWith_K (first := [.ref a]) (h₀ := X.base) I.ok.mod.kin hm.kp (thn (ha.run pos pins s1 σ H1 (fun vs H2 => ∃ M h ds, SR X.K C X.pn Z M env h σ H2 ∧ Reps X.K (zn Z M) M H2 ds (.ref a :: vs) ∧ Got X.K C X.pn Z W σ env M H2 (F ds h) (fun M' H' d => ∀ v, Rep X.K (zn Z M') M' H' d v → Q v H')) I1 ?_) fun us s2 ⟨vs, H2, I2, r, M, h, ds, s3, r3, g3⟩ => ⟨I2.kIn, ?_⟩) hst hpl
    · exact tA.step sr1 q fun M2 H2 h2 ds vs e2 s2 r2 g2 => ⟨M2, h2, d :: ds, s2, Reps.cons (rd.mono e2) r2, g2⟩
    · exact cal pins s2 σ H2 Q Z M env h ds (.ref a :: vs) (.ref a :: us) I2 s3 r3 (.cons rfl r) g3
theorem se_meth0 {o : Expr} {c m : Str} {f : Addr} {F : FF} {mo : ME} {apos : Pos} {pl : Sem Bool} (ho : SE C X W o mo) (cl : Cls X.K (He.ga X.K c)) (hm : Meth X.K (He.ga X.K c) m f) (cal : Cal C X W (.ref f) F)
    (ht : eval (.Call (.Attribute o m apos) [] [] pos) X.env = (do
      let ov ← eval o X.env
      standAt apos.atName
      let (f, first) ← holding [ov] (getMethod ov m pl)
      callWith pos f first (backTo pos (starEach [] X.env)) (backToKw pos (keywordEach [] X.env))) := by rfl) :
    SE C X W (.Call (.Attribute o m apos) [] [] pos) (cMeth c m F mo aNil) := by
  refine ⟨fun pins s σ H Q I ⟨Z, M, env, h, sr, g⟩ => ?_⟩
  refine PySem.W.methodCall_KW (pl := pl) (thn (ho.run pins s σ H (fun x H1 => ∃ M h1 d a dx fs, SR X.K C X.pn Z M env h1 σ H1 ∧ Rep X.K (zn Z M) M H1 d x ∧ x = .ref a ∧ H1 a = some (.ins (He.ga X.K c) dx fs) ∧ fs.lookup m = none ∧
    Got X.K C X.pn Z W σ env M H1 (F [d] h1) (fun M' H' d => ∀ v, Rep X.K (zn Z M') M' H' d v → Q v H')) I ?_) fun u s1 ⟨x, H1, I1, rx, M1, h1, d, a, dx, fs, sr1, rd, ex, ea, l, q⟩ => ?_) ht
  · refine tE.step sr g fun M1 H1 h1 d v e1 s1 r1 g1 => ?_
    cases eo : objOf h1 d with
    | none => rw [eo] at g1; exact False.elim g1
    | some t3 =>
      obtain ⟨c', ns, ds⟩ := t3
      rw [eo] at g1
      dsimp only at g1
      cases hb : decide (c' = c) && (fget ns ds m).isNone with
      | false => rw [hb] at g1; exact False.elim g1
      | true =>
        rw [hb] at g1
        obtain ⟨b1, b2⟩ := Bool.and_eq_true_iff.mp hb
        obtain rfl := of_decide_eq_true b1
        obtain ⟨a, dx, fs, ev, ha, hk, q⟩ := objOf_rep s1.sh eo r1
        subst hk
        exact ⟨M1, h1, d, a, dx, fs, s1, r1, ev, ha, fget_none q (Option.isNone_iff_eq_none.mp b2), g1⟩
  · subst ex
    obtain rfl : u = Value.ref a := rx
    refine getmeth_ok I1 ea cl hm l ?_
    exact PySem.W.callWith_K0 (first := [.ref a]) I1.kIn hm.kp (cal pins s1 σ H1 Q Z M1 env h1 [d] [.ref a] [.ref a] I1 sr1 (Reps.cons rd Reps.nil) (.cons rfl .nil) q)

/-! ### fields -/
def cFld (c f : Str) (o : ME) : ME := fun env h => (o env h).bind fun x h1 => match objOf h1 x with
  | some (c', ns, ds) => bif decide (c' = c) then (match fget ns ds f with
    | some d => .ok d h1
    | none => .bad) else .bad
  | none => .bad
theorem se_fld {o : Expr} {c f : Str} {mo : ME} (ho : SE C X W o mo) (cl : Cls X.K (He.ga X.K c)) (hn : NoAttr X.K (He.ga X.K c) f) (hb : attributeBase o f X.env (eval o X.env) = eval o X.env := by rfl) : SE C X W (.Attribute o f pos) (cFld c f mo) := by
  refine PE.weak (pe_fld ho hb) fun σ H Q ⟨Z, M, env, h, s, g⟩ => ?_
  refine tE.step s g fun M1 H1 h1 d v e1 s1 r1 g1 => ?_
  cases eo : objOf h1 d with
  | none => rw [eo] at g1; exact False.elim g1
  | some t3 =>
    obtain ⟨c', ns, ds⟩ := t3
    rw [eo] at g1
    dsimp only at g1
    cases hb : decide (c' = c) with
    | false => rw [hb] at g1; exact False.elim g1
    | true =>
      rw [hb] at g1
      obtain rfl := of_decide_eq_true hb
      obtain ⟨a, dx, fs, ev, ha, hk, q⟩ := objOf_rep s1.sh eo r1
      subst hk
      cases ef : fget (fs.map (·.1)) ds f with
      | none => rw [ef] at g1; exact False.elim g1
      | some d' =>
        rw [ef] at g1
        obtain ⟨w, h1', h2'⟩ := fget_some q ef
        exact ⟨a, _, dx, fs, w, ev, ha, cl, hn, h1', Got.now g1 s1 w h2'⟩
/-- o.f = e, o a mutable instance -/
def sFldS (c f : Str) (o e : ME) : MS := fun env h => (e env h).thenS env fun y h1 => (o env h1).thenS env fun x h2 => match x with
  | .loc n => (match h2[n]? with
    | some (.obj c' ns ds) => bif decide (c' = c) && decide (ns.length < 1000) then .nx env (h2.set n (.obj c' (fput ns ds f y).1 (fput ns ds f y).2)) else .bad
    | _ => .bad)
  | _ => .bad
theorem ss_fld {o e : Expr} {c f : Str} {mo me : ME} {pos' : Pos} (ho : SE C X W o mo) (he : SE C X W e me) (cl : Cls X.K (He.ga X.K c)) (hn : NoAttr X.K (He.ga X.K c) f) (hs : swapsWith e (some (.Attribute o f pos')) pos.line X.env = pure false := by rfl) :
    SS C X W (.Assign [.Attribute o f pos'] e pos) (sFldS c f mo me) := by
  refine PS.weak (ps_fld ho he hs) fun D' σ H ⟨Z, M, env, h, s, g⟩ => ?_
  refine tE.stepS s g fun M1 H1 h1 y v e1 s1 r1 g1 => ?_
  refine tE.stepS s1 g1 fun M2 H2 h2 x u e2 s2 r2 g2 => ?_
  cases r2 with
  | loc hm =>
    rename_i n a
    dsimp only at g2
    cases hx : h2[n]? with
    | none => rw [hx] at g2; exact False.elim g2
    | some w =>
      rw [hx] at g2
      cases w with
      | obj c' ns ds =>
        dsimp only at g2
        cases hb : decide (c' = c) && decide (ns.length < 1000) with
        | false => rw [hb] at g2; exact False.elim g2
        | true =>
          rw [hb] at g2
          obtain ⟨b1, b2⟩ := Bool.and_eq_true_iff.mp hb
          obtain rfl := of_decide_eq_true b1
          have b2 := of_decide_eq_true b2
          obtain ⟨dx, fs, ha, hk, q⟩ := s2.sh.cel n a _ hm hx
          subst hk
          have ev := s2.sh.evw (o := .ins (He.ga X.K c') dx (putF f v fs)) hm (fun u w z => by rw [ha] at z; cases z)
          obtain ⟨k1, k2⟩ := fput_ok (f := f) ((r1.mono e2).mono ev) (q.mono ev)
          refine ⟨a, _, dx, fs, rfl, ha, cl, hn, by simpa using b2, g2 M2 σ _ ev (s2.later ev (s2.sh.write hm (fun u w z => by rw [ha] at z; cases z) ⟨dx, _, upd_same, k1, k2⟩))⟩
      | _ => exact False.elim g2
  | _ => exact False.elim g2

/-! ### a new instance -/
def mkF (c : Str) (Fi : FF) : FF := fun ds h => (Fi (.loc h.length :: ds) (h ++ [.obj c [] []])).bind fun d h1 => match d with
  | .non => .ok (.loc h.length) h1
  | _ => .bad
theorem cal_make {k n : Nat} {c : Str} {f : Addr} {fd : FuncData} {ps : List Str} {F : FF} {ds : List Value} {dvs : List V} (tk : Takes X W) (MK : Mk X.K (He.ga X.K c) f) (FO : FnG X.prog X.w X.K X.mg X.base (L2.CX X.prog X.w) k f fd ps (spI X.K C n F)) (hr : RG (k + 1) X.A) (hb : Binds X.K fd ps ds) (hd : Vals dvs ds)
    (dd : List D) (hdd : ∀ Z M H, Reps X.K Z M H dd dvs) (hn : ∀ d h, F d h ≠ .bad → d.length = n) : Cal C X W (.ref (He.ga X.K c)) (mkF c fun es h => F (es ++ dd) h) := by
  intro pins s σ H Q Z M env h es vs us I sr rs r g
  have hx : H (s.heap.objs.size + 1) = none := I.hok.fresh (Nat.le_succ _)
  have hdx : H s.heap.objs.size = none := I.hok.fresh (Nat.le_refl _)
  have hne : s.heap.objs.size ≠ s.heap.objs.size + 1 := Nat.ne_of_lt (Nat.lt_succ_self _)
  have I2 := Inv.made (C := He.ga X.K c) I
  have r2 : Vals (V.ref (s.heap.objs.size + 1) :: (vs ++ dvs)) (Value.ref (s.heap.objs.size + 1) :: (us ++ ds)) := .cons rfl (r.append hd)
  -- the state with the new instance
  have hx1 : upd H s.heap.objs.size (.own (s.heap.objs.size + 1)) (s.heap.objs.size + 1) = none := by rw [upd_ne hne.symm]; exact hx
  have ev1 : Evo M H M (upd H s.heap.objs.size (.own (s.heap.objs.size + 1))) := Evo.laid hdx
  have sh1 := sr.sh.laid (o := .own (s.heap.objs.size + 1)) hdx
  have ev2 := Evo.newloc (M := M) (o := .ins (He.ga X.K c) s.heap.objs.size []) hx1
  have sh2 := sh1.newloc (o := .ins (He.ga X.K c) s.heap.objs.size []) (d := .obj c [] []) hx1 ⟨s.heap.objs.size, [], upd_same, rfl, Reps.nil⟩
  have ev := ev1.trans ev2
  have g : Got X.K C X.pn Z W σ env M H ((F (.loc h.length :: es ++ dd) (h ++ [.obj c [] []])).bind fun d h1 => match d with
    | .non => .ok (.loc h.length) h1
    | _ => .bad) (fun M' H' d => ∀ v, Rep X.K (zn Z M') M' H' d v → Q v H') := g
  have rl : Reps X.K (zn Z (M ++ [s.heap.objs.size + 1])) (M ++ [s.heap.objs.size + 1]) _ (.loc h.length :: es ++ dd) (V.ref (s.heap.objs.size + 1) :: (vs ++ dvs)) :=
    Reps.cons (newLoc sh1) ((rs.mono ev).append (hdd _ _ _))
  have hq : spI X.K C n F (V.ref (s.heap.objs.size + 1) :: (vs ++ dvs)) (upd (upd H s.heap.objs.size (.own (s.heap.objs.size + 1))) (s.heap.objs.size + 1) (.ins (He.ga X.K c) s.heap.objs.size [])) (fun v H2 => v = .non ∧ Q (.ref (s.heap.objs.size + 1)) H2) (WE W σ) := by
    refine ⟨Z, _, _, _, sh2, rl, hn _ (h ++ [.obj c [] []]) (fun z => ?_), ?_⟩
    · rw [z] at g; exact g
    · cases e : F (.loc h.length :: es ++ dd) (h ++ [.obj c [] []]) with
      | bad => rw [e] at g; exact g
      | exc c' ns ps h1 =>
        rw [e] at g
        intro M' H' dx ev' s' xr
        exact g M' H' dx (ev.trans ev') (sr.later (ev.trans ev') s') xr
      | ok d h1 =>
        rw [e] at g
        intro M' H' v ev' s' rv
        cases d with
        | non =>
          cases rv
          refine ⟨rfl, g M' H' (ev.trans ev') (sr.later (ev.trans ev') s') _ ?_⟩
          cases newLoc (Z' := Z) (H' := H) sh1 (p := s.heap.objs.size + 1) with
          | loc hm => exact .loc (ev'.get hm)
        | _ => exact False.elim g
  have hl : (Value.ref (s.heap.objs.size + 1) :: us ++ ds).length = ps.length := by
    have e := r2.length
    rw [FO.len _ _ _ _ hq] at e
    exact e.symm
  refine wpAny_call (make_map (f := f) I.kIn MK.makes MK.init (beq_iff_eq.mp MK.fn) (codeAny_mono (FO.run _ X.stack _ _ ⟨Value.ref (s.heap.objs.size + 1) :: us, []⟩ (Value.ref (s.heap.objs.size + 1) :: (us ++ ds)) _ _ (WE W σ) (hr.make (He.ga X.K c) us [])
    (I2.env0.make (He.ga X.K c) us []) (hb _ (Value.ref (s.heap.objs.size + 1) :: us) I2.kIn hl) r2 hq) fun r s' hq' => ?_))
  cases r with
  | error e => exact passAt tk σ pins _ _ e s' I2 hq'
  | ok fl =>
    cases fl with
    | ret u =>
      obtain ⟨v, H', I3, rv, ev, q3⟩ := I2.after hq'
      subst ev
      exact ⟨rv, ⟨V.ref (s.heap.objs.size + 1), H', I3, rfl, q3⟩⟩
    | next => exact False.elim hq'
    | brk => exact False.elim hq'
    | cont => exact False.elim hq'
end
end G

set_option Elab.async false
set_option linter.all false
set_option maxRecDepth 100000
set_option maxHeartbeats 4000000
/-! G5: the module's constants, own exceptions: made, raised, caught, read. -/
namespace G
open PySem PySem.Spec PyProof.Rows L2

section
variable {C : List (V × D)} {X : Cx} {W : WX} {pos : Pos}
/-- a constant of the module -/
theorem se_glob {x : Str} {v : V} {u : Value} {d : D} (hg : Gl X x) (hm : X.mg x = some u) (r : RelV v u) (hc : (v, d) ∈ C) (hd : (x == ("__debug__" : Str)) = false := by decide) : SE C X W (.Name x pos) (cC d) :=
  PE.weak (pe_glob hg hm r hd) fun σ H Q ⟨Z, M, env, h, s, g⟩ => Got.now g s v (s.sh.cst _ hc).2
/-- .. an int, a text -/
theorem se_globI {x : Str} {i : Int} {u : Value} (hg : Gl X x) (hm : X.mg x = some u) (r : RelV (.int i) u) (hd : (x == ("__debug__" : Str)) = false := by decide) : SE C X W (.Name x pos) (cC (.int i)) := se_const (pe_glob hg hm r hd) fun _ _ _ => .int i
theorem se_globS {x z : Str} {u : Value} (hg : Gl X x) (hm : X.mg x = some u) (r : RelV (.str z) u) (hd : (x == ("__debug__" : Str)) = false := by decide) : SE C X W (.Name x pos) (cC (.str z)) := se_const (pe_glob hg hm r hd) fun _ _ _ => .str z
end

/-! ### the __init__ of an own exception: Base.__init__(self, 'text'); self.f = y -/
def tBaI (K : PySem.W.Frag) (ta : TA) : TE := fun σ H Q => ta σ H fun vs H1 => ∃ (a C : Addr) (ws : List V), vs = .ref a :: ws ∧ ws.length ≤ 1000 ∧ OexC K C ∧ H1 a = some (exo a C none) ∧ Q .non H1
theorem pe_baseinit {X : Cx} {B : Str} {CB : Addr} {mc : Value} {e : Expr} {es : List Expr} {ta : TA} {p1 p2 pos : Pos} {pl : Sem Bool} (hg : Gl X B) (hm : X.mg B = some (.ref CB)) (r : ClX.CRead X.K CB mc) (vV : PySem.W.findCls X.K (.ref CB) mc "__init__" = some (.val (.builtin "ValueError.__init__"))) (ha : PA X (e :: es) ta)
    (hdb : (B == ("__debug__" : Str)) = false := by decide)
    (hc : eval (.Call (.Attribute (.Name B p1) "__init__" p2) (e :: es) [] pos) X.env = (do
      let ov ← eval (.Name B p1) X.env
      standAt p2.atName
      let (f, first) ← holding [ov] (getMethod ov "__init__" pl)
      callWith pos f first (backTo pos (starEach (e :: es) X.env)) (backToKw pos (keywordEach [] X.env))) := by rfl)
    (he : starEach (e :: es) X.env = (false, eval e X.env) :: starEach es X.env := by rfl) (hpl : (backTo pos (starEach es X.env)).any (·.1) = false := by rfl) :
    PE X (.Call (.Attribute (.Name B p1) "__init__" p2) (e :: es) [] pos) (tBaI X.K ta) := by
  refine ⟨fun pins s σ H Q I h => ?_⟩
  refine PySem.W.methodCall_KW (ld_glob I hg hm ?_ hdb) hc
  refine PySem.W.method_cls I.kIn r.ga (PySem.W.cls_value I.kIn r.rd vV (by decide +kernel) ?_)
  show wpAny _ _ (callWith pos (Value.builtin "ValueError.__init__") [] (backTo pos (starEach (e :: es) X.env)) []) _ _ _
  refine PyProof.Rows.callWith_method1 (thn (ha.run pos pins _ σ H _ (I.tok _) h) fun us s1 ⟨vs, H1, I1, r1, a, C, ws, ev, hl, T, ea, q⟩ => ?_) he hpl
  subst ev
  cases r1 with
  | @cons _ u0 _ ur ra rw' =>
    obtain rfl : u0 = Value.ref a := ra
    have hlen : ur.length ≤ sizeLine := by
      rw [← Paired.length rw', sizeLine_eq]
      omega
    exact oinit_ok T I1 ea hlen fun s' J => ⟨.non, H1, J, rfl, q⟩
/-- its promise -/
def spX (K : PySem.W.Frag) (fld : Str) : Sp := fun vs H Q _ => ∃ (a C : Addr) (y : V), vs = [.ref a, y] ∧ OexC K C ∧ PySem.W.findIn K (.ref C) fld = some none ∧ H a = some (exo a C none) ∧
  ∀ dx, H dx = none → dx ≠ a → Q .non (upd (upd H dx (exd dx [(fld, y)])) a (exo a C (some dx)))
theorem fn_excInit {P : Program} {w : World} {K : PySem.W.Frag} {mg : Str → Option Value} {base : Heap} {CX : CXT} {k : Nat} {f : Addr} {fd : FuncData} {x qual fld t : Str} {params : Arguments} {body : List Stmt} {scope : Scope} {dvs : List V} {kws : List (Str × V)}
    (F : FunD K x qual params body scope dvs kws f fd) (S : FnScope ["self", fld] ["self", fld] scope)
    (hb : ∀ (cdv : Value) (A : Around) (outer : List Env) (s : Shared) (H : Hp) (E : XK), PSs (cxOf CX P w K mg base ["self", fld] qual scope f cdv A outer s H E) body (tSeq (tDrop (tBaI K (tCons (tVar 0) (tCons (tC (.str t)) tNil)))) (tOst K fld (tVar 0) (tVar 1)))) :
    FnOk P w K mg base CX (k + 1) f fd ["self", fld] (spX K fld) := by
  refine F.ok S (fun vs H Q E h => ?_) (fun cdv A outer s H vs Q E hr h => ⟨_, hb cdv A outer s H E, ?_⟩)
  · obtain ⟨a, C, y, rfl, _⟩ := h
    rfl
  · obtain ⟨a, C, y, rfl, T, hno, ea, q⟩ := h
    refine ⟨_, rfl, a, C, _, rfl, by show 1 ≤ 1000; decide, T, ea, _, rfl, _, rfl, a, C, rfl, T, hno, .inl ⟨ea, fun dx n ne => ?_⟩⟩
    exact q dx n ne

/-! ### raise C(e) -/
def sRaise (c fld : Str) (m : ME) : MS := fun env h => (m env h).thenS env fun d h1 => .exc c [fld] [d] env h1
theorem ss_raise {C : List (V × D)} {X : Cx} {W : WX} {c fld : Str} {fI : Addr} {k : Nat} {fd : FuncData} {ps : List Str} {e : Expr} {m : ME} {p pos pos' : Pos} (hc : X.calm = true) (tk : Takes X W) (T : OexC X.K (He.ga X.K c)) (hno : PySem.W.findIn X.K (.ref (He.ga X.K c)) fld = some none)
    (iC : PySem.W.findIn X.K (.ref (He.ga X.K c)) "__init__" = some (some (.ref fI))) (tI : PySem.W.typeIn X.K (.ref fI) = some (.type "function"))
    (F1 : FnOk X.prog X.w X.K X.mg X.base (L2.CX X.prog X.w) k fI fd ps (spX X.K fld)) (hr : Room (k + 1) X.A) (hb : Binds X.K fd ps []) (hg : Gl X c) (hm : X.mg c = some (.ref (He.ga X.K c))) (he : SE C X W e m)
    (hdb : (c == ("__debug__" : Str)) = false := by decide) (hs : starEach [e] X.env = (false, eval e X.env) :: starEach [] X.env := by rfl) (hpl : (backTo pos (starEach [] X.env)).any (·.1) = false := by rfl) :
    SS C X W (.Raise (some (.Call (.Name c p) [e] [] pos)) none pos') (sRaise c fld m) := by
  have hx : Passes (L2.CX X.prog X.w) X (fun _ _ _ => False) := fun pins σ H s e s' I q => by
    obtain ⟨a, B, H', cls, d, _, _, _, _, _, _, _, z⟩ := q
    exact z.elim
  refine PS.weak (ps_raise hc tk (pmk_oex T iC tI F1 hr hb .nil hx hg hm (pa_cons he pa_nil hs) hdb hs hpl)) fun D' σ H ⟨Z, M, env, h, s, g⟩ => ?_
  refine tE.stepS s g fun M1 H1 h1 d v e1 s1 r1 g1 => ?_
  refine ⟨by show 1 ≤ 1000; decide, fun a na => ?_⟩
  refine ⟨a, _, v, rfl, T, hno, upd_same, fun dx ndx ne => ?_⟩
  rw [upd_ne ne] at ndx
  refine ⟨rfl, dx, [(fld, v)], upd_same, ?_, ndx, ?_⟩
  · rw [upd_ne ne, upd_same]
  · have eH : upd (del (upd (upd (upd H1 a (exo a (He.ga X.K c) none)) dx (exd dx [(fld, v)])) a (exo a (He.ga X.K c) (some dx))) a) dx (.xd [(fld, v)]) = upd H1 dx (.xd [(fld, v)]) := by
      funext b
      by_cases hb : b = dx
      · subst hb; rw [upd_same, upd_same]
      · rw [upd_ne hb, upd_ne hb]
        by_cases ha : b = a
        · subst ha; rw [del_same]; exact na.symm
        · rw [del_ne ha, upd_ne ha, upd_ne hb, upd_ne ha]
    rw [eH]
    have ev : Evo M1 H1 M1 (upd H1 dx (.xd [(fld, v)])) := Evo.laid ndx
    exact g1 M1 σ _ dx ev (s1.later ev (s1.sh.laid ndx)) ⟨_, upd_same, s1.sh.out ndx, rfl, Reps.cons (r1.mono ev) Reps.nil⟩

/-! ### err.f of a caught exception -/
def cExc (i : Nat) (f : Str) : ME := fun env h => match env[i]? with
  | some (.x _ ns ds) => (match fget ns ds f with
    | some d => .ok d h
    | none => .bad)
  | _ => .bad
def cExcI (i : Nat) (f : Str) (xs : List Str) : ME := fun env h => match env[i]? with
  | some (.x c ns ds) => bif xs.contains c then cExc i f env h else .bad
  | _ => .bad
theorem se_exc {C : List (V × D)} {X : Cx} {W : WX} {i : Nat} {x f : Str} {p pos : Pos} (hN : X.N[i]? = some x) (hv : Vis X.env.scope x) (xs : List Str) (T : ∀ c ∈ xs, XfC X.K (He.ga X.K c) ∧ PySem.W.findIn X.K (.ref (He.ga X.K c)) f = some none)
    (hd : (x == ("__debug__" : Str)) = false := by decide) (hcd : (x == ("__classdict__" : Str)) = false := by decide) (hb : attributeBase (.Name x p) f X.env (eval (.Name x p) X.env) = eval (.Name x p) X.env := by rfl) :
    SE C X W (.Attribute (.Name x p) f pos) (cExcI i f xs) := by
  refine ⟨fun pins s σ H Q I ⟨Z, M, env, h, sr, g⟩ => ?_⟩
  unfold cExcI at g
  cases e : env[i]? with
  | none => rw [e] at g; exact False.elim g
  | some sl =>
    rw [e] at g
    cases sl with
    | u => exact False.elim g
    | v d => exact False.elim g
    | x c ns ds =>
      dsimp only at g
      cases hx : xs.contains c with
      | false => rw [hx] at g; exact False.elim g
      | true =>
        rw [hx] at g
        obtain ⟨Tx, hno⟩ := T c (List.contains_iff_mem.mp hx)
        unfold cExc at g
        rw [e] at g
        dsimp only [cond_true] at g
        cases ef : fget ns ds f with
        | none => rw [ef] at g; exact False.elim g
        | some d =>
          rw [ef] at g
          obtain ⟨a, dx, hσ, ⟨oe, hpn, hz, vs, hdat⟩, fs, hdx, hm, hk, hr⟩ := sr.exc i c ns ds e
          subst hk
          obtain ⟨v, hl, rv⟩ := fget_some hr ef
          refine attr_of hb (thn ((pe_var hN hv hd hcd).run pins s σ H (fun x H1 => x = .ref a ∧ H1 = H) I ⟨_, hσ, rfl, rfl⟩) fun u s1 ⟨x', H1, I1, rx, ex, eH⟩ => ?_)
          subst ex
          subst eH
          obtain rfl : u = Value.ref a := rx
          obtain ⟨ha, _⟩ := I1.pin (a, oe) (List.mem_append_left _ hpn)
          have hxx : ObjOk X.prog X.w H1 s1.heap dx (.xd fs) := I1.hok dx _ hdx
          obtain ⟨mA, hns, hrr⟩ := hxx
          obtain ⟨od, ho, hlk⟩ := lookIn_ns hns
          have hro := hrr f
          rw [hl] at hro
          obtain ⟨uv, euv, ruv⟩ := RelO.some_of hro
          have Iat : PySem.W.InstAt s1.heap a oe (He.ga X.K c) (some od) := by
            exact ⟨ha, hz.1, by unfold PySem.W.notCls; rw [hdat] <;> rfl, by rw [hz.2]; exact ho⟩
          exact PySem.HandSPX.exc_get I1.kIn Iat Tx.ga Tx.gg Tx.exC (PySem.W.findObj_own Tx.hdC hno rfl (by rw [hlk, euv])) (handed_of ruv) ⟨v, H1, I1.tok _, ruv, Got.now g sr v rv⟩
end G

set_option Elab.async false
set_option linter.all false
set_option maxRecDepth 100000
set_option maxHeartbeats 4000000
/-! G6: try, with several clauses, with and without a name. -/
namespace G
open PySem PySem.Spec PyProof.Rows L2

/-! ### several clauses, each with or without a name -/
abbrev TsX := Addr → Value → Option Addr → TS
def wManyG (K : PySem.W.Frag) (Wout : WX) (D : Ends) : List (Value × Option Nat × TsX) → WX
  | [] => Wout
  | (c, none, ts) :: r => fun cls d σ H => ∃ b, PySem.W.exmOne K cls c = some b ∧ (b = true → ∀ a, H a = none → ts a cls d D σ H) ∧ (b = false → wManyG K Wout D r cls d σ H)
  | (c, some i, ts) :: r => fun cls d σ H => ∃ b, PySem.W.exmOne K cls c = some b ∧
      (b = true → ∀ a, H a = none → ts a cls d { nx := fun σ' H' => D.nx (σ'.set i none) H', rt := D.rt, bk := fun σ' H' => D.bk (σ'.set i none) H', ct := fun σ' H' => D.ct (σ'.set i none) H' } (σ.set i (some (.ref a))) H) ∧ (b = false → wManyG K Wout D r cls d σ H)
inductive HdsG (X : Cx) : List ExceptHandler → List (Value × Option Nat × TsX) → Prop
  | nil : HdsG X [] []
  | cons {x : Str} {c : Value} {ts : TsX} {b₀ : Stmt} {suite : List Stmt} {np pos' : Pos} {hds : List ExceptHandler} {l : List (Value × Option Nat × TsX)} (hc : Names X x c)
      (hsu : ∀ (a : Addr) (oe : Obj) (cls : Value) (d : Option Addr) (pn : List (Addr × Obj)), Zc cls d oe → (∃ vs, oe.data = .fields vs) → PSs (X.suite a ((a, oe) :: pn)) (b₀ :: suite) (ts a cls d)) (r : HdsG X hds l) :
      HdsG X (.ExceptHandler (some (.Name x np)) none (b₀ :: suite) pos' :: hds) ((c, none, ts) :: l)
  | consN {x n : Str} {i : Nat} {c : Value} {ts : TsX} {b₀ : Stmt} {suite : List Stmt} {np pos' : Pos} {hds : List ExceptHandler} {l : List (Value × Option Nat × TsX)} (hN : X.N.Nodup) (hi : X.N[i]? = some n) (hln : X.env.kindOf n = some .local) (hc : Names X x c)
      (hsu : ∀ (a : Addr) (oe : Obj) (cls : Value) (d : Option Addr) (pn : List (Addr × Obj)), Zc cls d oe → (∃ vs, oe.data = .fields vs) → PSs (X.suite a ((a, oe) :: pn)) (b₀ :: suite) (ts a cls d)) (r : HdsG X hds l) :
      HdsG X (.ExceptHandler (some (.Name x np)) (some n) (b₀ :: suite) pos' :: hds) ((c, some i, ts) :: l)
section
variable {X : Cx} {body : List Stmt} {h₀ : ExceptHandler} {hds : List ExceptHandler} {l : List (Value × Option Nat × TsX)} {pos : Pos} {tb : WX → TS} {Wout : WX}
theorem ps_tryG (hs : X.stack = X.env :: X.outer) (hf : X.env.frame = some X.env.locals) (tk : Takes X Wout)
    (hb : ∀ (W : WX) (pn : List (Addr × Obj)) (xe : Value → Shared → Prop), Takes (X.tr (X.pn ++ pn) xe) W → PassesOwn (model X.prog X.w) X.A X.env xe → PSs (X.tr (X.pn ++ pn) xe) body (tb W))
    (hh : HdsG X (h₀ :: hds) l) : PS X (.Try body (h₀ :: hds) [] [] pos) (fun D σ H => tb (wManyG X.K Wout D l) D σ H) := by
  refine ⟨fun pins s σ H D I h => ?_⟩
  have ok := I.ok
  have hfr : X.A.frames = some (X.env :: X.outer) := by rw [ok.frames, hs]
  refine wpAny_Try_except ?_
  refine wpAny_mono ((hb (wManyG X.K Wout D l) pins (fun e s₁ => wpAny (model X.prog X.w) X.A (noteFrame e X.env) (fun _ s₂ => wpAny (model X.prog X.w) X.A (setFlight e none) (fun _ s₃ =>
    wpAny (model X.prog X.w) X.A (handleBy e X.env (h₀ :: hds)) (SP X pins D) X.xe s₃) X.xe s₂) X.xe s₁) (fun u s' xx => ?_) PassesOwn.looking).run [] s σ H D (I.toTry _) h) (fun f s1 hsp => ?_) (fun e s1 he => he)
  · obtain ⟨a, B, sI, pins', σ', H', cls, d, rfl, J', nb, up, sky, na, os, ag, w⟩ := xx
    have J : Inv X pins σ' H' sI := J'.ofTry ok
    have sky' : Sky B (X.env :: X.outer) a (Zc cls d) X.env.locals s'.heap := by rw [← hs]; exact sky
    show wpAny (model X.prog X.w) X.A (noteFrame (.ref a) X.env) _ _ _
    refine Sky.land Zc.steady hfr hf sky' fun h3 fl3 up3 => ?_
    have J3 : Inv X pins σ' H' { s' with heap := h3 } := J.landed nb fl3.1 (up.trans up3) os ag
    obtain ⟨oe3, vs3, he3, hz3, hd3⟩ := fl3.there
    have notFr : ∀ {h : Heap} {o : Obj} {vs : Array Value}, h.FunFrames B (X.env :: X.outer) → h.get? a = some o → o.data = .fields vs → a ∉ frs (X.env :: X.outer) := fun {h o vs} ff e dd hm => by
      obtain ⟨_, o', e', hnf⟩ := ff.mem hm
      rw [e] at e'; cases e'
      exact hnf _ dd
    have nfr := notFr fl3.2.2.1 he3 hd3
    have nL : a ≠ X.env.locals := fun z => nfr (List.mem_filterMap.mpr ⟨X.env, List.mem_cons_self, by rw [hf, z]⟩)
    have nF : a ∉ X.fs := fun hm => by
      obtain ⟨e, he, q⟩ := List.mem_filterMap.mp hm
      exact nfr (List.mem_filterMap.mpr ⟨e, List.mem_cons_of_mem _ he, q⟩)
    have S3 := J3.suite he3 hd3 na nL nF
    have LT : PySem.W.Looks (model X.prog X.w) h3 (typeOf (.ref a)) cls := fun A Q E s k q => wpAny_typeOf_ref (k _ _ he3) (by rw [hz3.1]; exact q)
    have testOf : ∀ {x : Str} {c : Value} {np : Pos}, Names X x c → ∀ {Q : Value → Shared → Prop} {E : Value → Shared → Prop}, Q c { s' with heap := h3 } → wpAny (model X.prog X.w) (X.A.mark (some (.ref a))) (eval (.Name x np) X.env) Q E { s' with heap := h3 } := fun {x c np} hc {Q E} q => by
      obtain ⟨hg, hdbg, hm | ⟨hm, hv, hnn⟩⟩ := hc
      · exact ld_glob (X := X.suite a ((a, oe3) :: (X.pn ++ pins))) S3 hg hm q hdbg
      · exact ld_blt (X := X.suite a ((a, oe3) :: (X.pn ++ pins))) S3 hg hm hv q hnn hdbg
    have go : ∀ {hds' : List ExceptHandler} {l' : List (Value × Option Nat × TsX)}, HdsG X hds' l' → wManyG X.K Wout D l' cls d σ' H' →
        wpAny (model X.prog X.w) X.A (handleBy (.ref a) X.env hds') (SP X pins D) X.xe { s' with heap := h3 } := by
      intro hds' l' hk
      induction hk with
      | nil =>
        intro w
        refine wpAny_handleBy_nil ?_
        obtain ⟨k1, k2, k3, oe, vs, T, oT, ts', he, hz, hd, h1, hr⟩ := id fl3
        unfold PySem.passOn
        refine wpAny_bind (wpAny_field he hd h1 ?_)
        rw [if_neg (show ¬ ((Value.ref T == Value.none) = true) from by simp)]
        have fin : wpAny (model X.prog X.w) X.A (setFlight (.ref a) X.env.frame) (fun _ s4 => wpAny (model X.prog X.w) X.A (throw (.ref a) : Sem Flow) (SP X pins D) X.xe s4) X.xe { s' with heap := h3 } := by
          rw [hf]
          refine HandSPX.setFlight_upZ fl3 fun h4 hh4 up4 => wpAny_throw (tk _ _ ?_)
          exact ⟨a, B, sI, pins, σ', H', cls, d, rfl, J, nb, (up.trans up3).trans up4, .inr (.inr (by rw [hs]; exact hh4)), na, os, ag, w⟩
        first
          | exact wpAny_bind (wpAny_pure (wpAny_bind fin))
          | exact wpAny_bind fin
      | @cons x c ts b₀ suite np pos' hds2 l2 hc hsu r ih =>
        intro w
        obtain ⟨b, hb1, hyes, hno⟩ := w
        refine wpAny_handleBy_cons (codeAny_handlers_test ?_) (by intro q; cases q)
        have LM := PySem.W.exm_one (M := model X.prog X.w) (J3.kIn) LT hb1
        refine testOf hc (LM.here ?_)
        cases b with
        | true =>
          refine codeAny_handlers_suite ?_
          refine HandSPX.lands_againZ fl3 fun h4 fl4 up4 => ?_
          have J4 : Inv X pins σ' H' { s' with heap := h4 } := J.landed nb fl4.1 ((up.trans up3).trans up4) os ag
          obtain ⟨oe4, vs4, he4, hz4, hd4⟩ := fl4.there
          have S4 := J4.suite he4 hd4 na nL nF
          refine wpAny_mono ((hsu a oe4 cls d (X.pn ++ pins) hz4 ⟨_, hd4⟩).run [] _ _ H' _ S4 (hyes rfl a na)) (fun f s6 hsp => ?_) (fun _ _ z => False.elim z)
          cases f with
          | next =>
            obtain ⟨σ6, H6, S6, q6⟩ := hsp
            exact ⟨_, _, S6.unsuite ok, q6⟩
          | brk =>
            obtain ⟨σ6, H6, S6, q6⟩ := hsp
            exact ⟨_, _, S6.unsuite ok, q6⟩
          | cont =>
            obtain ⟨σ6, H6, S6, q6⟩ := hsp
            exact ⟨_, _, S6.unsuite ok, q6⟩
          | ret u =>
            obtain ⟨v6, σ6, H6, S6, r6, q6⟩ := hsp
            exact ⟨_, _, _, S6.unsuite ok, r6, q6⟩
        | false =>
          show wpAny _ X.A (handleBy (.ref a) X.env hds2) _ _ _
          exact ih (hno rfl)
      | @consN x n i c ts b₀ suite np pos' hds2 l2 hN hi hln hc hsu r ih =>
        intro w
        have hloc : Loc X.env.scope n := .inl hln
        obtain ⟨b, hb1, hyes, hno⟩ := w
        refine wpAny_handleBy_cons (codeAny_handlers_test ?_) (by intro q; cases q)
        have LM := PySem.W.exm_one (M := model X.prog X.w) (J3.kIn) LT hb1
        refine testOf hc (LM.here ?_)
        cases b with
        | true =>
          refine codeAny_handlers_suite_as ?_
          refine HandSPX.lands_againZ fl3 fun h4 fl4 up4 => ?_
          have J4 : Inv X pins σ' H' { s' with heap := h4 } := J.landed nb fl4.1 ((up.trans up3).trans up4) os ag
          obtain ⟨oe4, vs4, he4, hz4, hd4⟩ := fl4.there
          have S4 := J4.suite he4 hd4 na nL nF
          refine store_ok (X := X.suite a ((a, oe4) :: (X.pn ++ pins))) (v := .ref a) S4 hN hi hloc rfl (fun s5 S5 => ?_) (.inr hln)
          refine wpAny_mono ((hsu a oe4 cls d (X.pn ++ pins) hz4 ⟨_, hd4⟩).run [] s5 _ H' _ S5 (hyes rfl a na)) (fun f s6 hsp => ?_) (fun _ _ z => False.elim z)
          have end_ : ∀ {σ6 : L2.St} {H6 : Hp} {Q : Shared → Prop}, Inv (X.suite a ((a, oe4) :: (X.pn ++ pins))) [] σ6 H6 s6 → (∀ s7, Inv X pins (σ6.set i none) H6 s7 → Q s7) →
              wpAny (model X.prog X.w) X.A (do bindName X.env n .none; unbindBehindTheSuite X.env n pos') (fun _ s7 => Q s7) X.xe s6 := fun {σ6 H6 Q} S6 hq => gone_ok (S6.unsuite ok) hN hi hln hq
          cases f with
          | next =>
            obtain ⟨σ6, H6, S6, q6⟩ := hsp
            exact end_ S6 fun s7 J7 => ⟨_, _, J7, q6⟩
          | brk =>
            obtain ⟨σ6, H6, S6, q6⟩ := hsp
            exact end_ S6 fun s7 J7 => ⟨_, _, J7, q6⟩
          | cont =>
            obtain ⟨σ6, H6, S6, q6⟩ := hsp
            exact end_ S6 fun s7 J7 => ⟨_, _, J7, q6⟩
          | ret u =>
            obtain ⟨v6, σ6, H6, S6, r6, q6⟩ := hsp
            exact end_ S6 fun s7 J7 => ⟨_, _, _, J7, r6, q6⟩
        | false =>
          show wpAny _ X.A (handleBy (.ref a) X.env hds2) _ _ _
          exact ih (hno rfl)
    exact go hh w
  · cases f with
    | next =>
      obtain ⟨σ', H', J', q⟩ := hsp
      exact wpAny_execs_nil ⟨σ', H', J'.ofTry ok, q⟩
    | brk =>
      obtain ⟨σ', H', J', q⟩ := hsp
      exact ⟨σ', H', J'.ofTry ok, q⟩
    | cont =>
      obtain ⟨σ', H', J', q⟩ := hsp
      exact ⟨σ', H', J'.ofTry ok, q⟩
    | ret u =>
      obtain ⟨v, σ', H', J', r, q⟩ := hsp
      exact ⟨v, σ', H', J'.ofTry ok, r, q⟩
end

/-! ### by data -/
def Sl.noX : Sl → Bool
  | .x _ _ _ => false
  | _ => true
def noX (env : List Sl) : Bool := env.all Sl.noX
abbrev Cls1 := List (Str × Bool) × Option Nat × MS
/-- an end of a suite: the exception's name goes -/
def endX (i : Option Nat) (r : RS) : RS := match r with
  | .nx env h => bif noX ((i.map fun i => env.set i .u).getD env) then .nx ((i.map fun i => env.set i .u).getD env) h else .bad
  | .br env h => bif noX ((i.map fun i => env.set i .u).getD env) then .br ((i.map fun i => env.set i .u).getD env) h else .bad
  | .ct env h => bif noX ((i.map fun i => env.set i .u).getD env) then .ct ((i.map fun i => env.set i .u).getD env) h else .bad
  | .rt d h => .rt d h
  | .exc _ _ _ _ _ => .bad
  | .bad => .bad
def hand (c : Str) (ns : List Str) (ds : List D) (env : List Sl) (h : List D) : List Cls1 → RS
  | [] => .exc c ns ds env h
  | (ms, i, m) :: r => match ms.lookup c with
    | some true => endX i (m ((i.map fun i => env.set i (.x c ns ds)).getD env) h)
    | some false => hand c ns ds env h r
    | none => .bad
def sTry (body : MS) (cl : List Cls1) : MS := fun env h => bif noX env then (match body env h with
  | .exc c ns ds env' h' => bif noX env' then hand c ns ds env' h' cl else .bad
  | .nx env' h' => bif noX env' then .nx env' h' else .bad
  | .br env' h' => bif noX env' then .br env' h' else .bad
  | .ct env' h' => bif noX env' then .ct env' h' else .bad
  | r => r) else .bad
section
variable {K : PySem.W.Frag} {C : List (V × D)} {pn pn' : List (Addr × Obj)} {Z : Addr → Prop} {M : List Addr} {H : Hp} {env : List Sl} {h : List D} {σ : L2.St}
theorem noX_get {i : Nat} {c : Str} {ns : List Str} {ds : List D} (x : noX env = true) (e : env[i]? = some (.x c ns ds)) : False := by
  have := List.all_eq_true.mp x _ (List.mem_of_getElem? e)
  cases this
theorem SR.pin (s : SR K C pn Z M env h σ H) (x : noX env = true) : SR K C pn' Z M env h σ H := ⟨s.sh, s.slots, fun i c ns ds e => (noX_get x e).elim, s.len⟩
theorem SR.setx {i : Nat} {a dx : Addr} {oe : Obj} {c : Str} {ns : List Str} {ds : List D} (s : SR K C pn Z M env h σ H) (x : noX env = true) (hz : Zc (.ref (He.ga K c)) (some dx) oe) (hd : ∃ vs, oe.data = .fields vs) (xr : Xr K (zn Z M) M H ns ds dx) :
    SR K C ((a, oe) :: pn') Z M (env.set i (.x c ns ds)) h (σ.set i (some (.ref a))) H := by
  refine ⟨s.sh, fun j d hd' => ?_, fun j c' ns' ds' hd' => ?_, by simp [s.len]⟩
  · rw [List.getElem?_set] at hd'
    by_cases e : i = j
    · subst e
      rw [if_pos rfl] at hd'
      split at hd' <;> cases hd'
    · rw [if_neg e] at hd'
      obtain ⟨v, h1, h2⟩ := s.slots j d hd'
      exact ⟨v, by rw [List.getElem?_set_ne e]; exact h1, h2⟩
  · rw [List.getElem?_set] at hd'
    by_cases e : i = j
    · subst e
      rw [if_pos rfl] at hd'
      split at hd'
      · rename_i hi
        cases hd'
        exact ⟨a, dx, by rw [List.getElem?_set_self (s.len ▸ hi)], ⟨oe, List.mem_cons_self, hz, hd⟩, xr⟩
      · cases hd'
    · rw [if_neg e] at hd'
      exact (noX_get x hd').elim
theorem SR.unset {i : Nat} (s : SR K C pn Z M env h σ H) (x : noX (env.set i .u) = true) : SR K C pn' Z M (env.set i .u) h (σ.set i none) H := by
  refine ⟨s.sh, fun j d hd' => ?_, fun j c ns ds e => (noX_get x e).elim, by simp [s.len]⟩
  rw [List.getElem?_set] at hd'
  by_cases e : i = j
  · subst e
    rw [if_pos rfl] at hd'
    split at hd' <;> cases hd'
  · rw [if_neg e] at hd'
    obtain ⟨v, h1, h2⟩ := s.slots j d hd'
    exact ⟨v, by rw [List.getElem?_set_ne e]; exact h1, h2⟩
end
section
variable {C : List (V × D)} {X : Cx} {W : WX}
/-- the clauses, by data -/
inductive HdsD (C : List (V × D)) (X : Cx) : List ExceptHandler → List Cls1 → List (Value × Option Nat × TsX) → Prop
  | nil : HdsD C X [] [] []
  | cons {x : Str} {c : Value} {ms : List (Str × Bool)} {m : MS} {b₀ : Stmt} {suite : List Stmt} {np pos' : Pos} {hds : List ExceptHandler} {cl : List Cls1} {l : List (Value × Option Nat × TsX)} (hc : Names X x c)
      (hm : ∀ q ∈ ms, PySem.W.exmOne X.K (.ref (He.ga X.K q.1)) c = some q.2)
      (hsu : ∀ (a : Addr) (pn : List (Addr × Obj)), SB C (X.suite a pn) (fun _ _ _ _ => False) (b₀ :: suite) m) (r : HdsD C X hds cl l) :
      HdsD C X (.ExceptHandler (some (.Name x np)) none (b₀ :: suite) pos' :: hds) ((ms, none, m) :: cl) ((c, none, fun a cls d D' σ H => ∀ pn oe, Zc cls d oe → (∃ vs, oe.data = .fields vs) → tS X.K C ((a, oe) :: pn) (fun _ _ _ _ => False) m D' σ H) :: l)
  | consN {x n : Str} {i : Nat} {c : Value} {ms : List (Str × Bool)} {m : MS} {b₀ : Stmt} {suite : List Stmt} {np pos' : Pos} {hds : List ExceptHandler} {cl : List Cls1} {l : List (Value × Option Nat × TsX)} (hN : X.N.Nodup) (hi : X.N[i]? = some n) (hln : X.env.kindOf n = some .local) (hc : Names X x c)
      (hm : ∀ q ∈ ms, PySem.W.exmOne X.K (.ref (He.ga X.K q.1)) c = some q.2)
      (hsu : ∀ (a : Addr) (pn : List (Addr × Obj)), SB C (X.suite a pn) (fun _ _ _ _ => False) (b₀ :: suite) m) (r : HdsD C X hds cl l) :
      HdsD C X (.ExceptHandler (some (.Name x np)) (some n) (b₀ :: suite) pos' :: hds) ((ms, some i, m) :: cl) ((c, some i, fun a cls d D' σ H => ∀ pn oe, Zc cls d oe → (∃ vs, oe.data = .fields vs) → tS X.K C ((a, oe) :: pn) (fun _ _ _ _ => False) m D' σ H) :: l)
theorem HdsD.g {hds : List ExceptHandler} {cl : List Cls1} {l : List (Value × Option Nat × TsX)} (h : HdsD C X hds cl l) : HdsG X hds l := by
  induction h with
  | nil => exact .nil
  | cons hc hm hsu r ih => exact .cons hc (fun a oe cls d pn hz hd => PSs.weak (hsu a _) fun D' σ H q => q pn oe hz hd) ih
  | consN hN hi hln hc hm hsu r ih => exact .consN hN hi hln hc (fun a oe cls d pn hz hd => PSs.weak (hsu a _) fun D' σ H q => q pn oe hz hd) ih
theorem lookup_mem' {ms : List (Str × Bool)} {c : Str} {b : Bool} : ms.lookup c = some b → (c, b) ∈ ms := by
  induction ms with
  | nil => intro h; cases h
  | cons q ms ih =>
    intro h
    rw [List.lookup_cons] at h
    cases e : c == q.1 with
    | true => rw [e] at h; cases h; rw [eq_of_beq e]; exact List.mem_cons_self
    | false => rw [e] at h; exact List.mem_cons_of_mem _ (ih h)
theorem hand_ok {hds : List ExceptHandler} {cl : List Cls1} {l : List (Value × Option Nat × TsX)} (hh : HdsD C X hds cl l) {D' : Ends} {Z : Addr → Prop} {M : List Addr} {H : Hp} {env : List Sl} {h : List D} {σ : L2.St} {pn : List (Addr × Obj)} {c : Str} {ns : List Str} {ds : List D} {dx : Addr}
    (s : SR X.K C pn Z M env h σ H) (x : noX env = true) (xr : Xr X.K (zn Z M) M H ns ds dx) (g : GotS X.K C X.pn Z W M H (hand c ns ds env h cl) D') : wManyG X.K W D' l (.ref (He.ga X.K c)) (some dx) σ H := by
  induction hh with
  | nil => exact g M σ H dx (.refl M H) (s.pin x) xr
  | @cons xn cv ms m b₀ suite np pos' hds cl l hc hm hsu r ih =>
    unfold hand at g
    cases e : ms.lookup c with
    | none => rw [e] at g; exact False.elim g
    | some b =>
      rw [e] at g
      refine ⟨b, hm _ (lookup_mem' e), fun hb a na pn' oe hz hd => ?_, fun hb => ?_⟩
      · subst hb
        refine ⟨Z, M, env, h, s.pin x, ?_⟩
        have g : GotS X.K C X.pn Z W M H (endX none (m env h)) D' := g
        cases em : m env h with
        | nx env' h' =>
          rw [em] at g
          have g : GotS X.K C X.pn Z W M H (bif noX env' then .nx env' h' else .bad) D' := g
          cases hx : noX env' with
          | false => rw [hx] at g; exact False.elim g
          | true => rw [hx] at g; exact fun M' σ' H' ev s' => g M' σ' H' ev (s'.pin hx)
        | br env' h' =>
          rw [em] at g
          have g : GotS X.K C X.pn Z W M H (bif noX env' then .br env' h' else .bad) D' := g
          cases hx : noX env' with
          | false => rw [hx] at g; exact False.elim g
          | true => rw [hx] at g; exact fun M' σ' H' ev s' => g M' σ' H' ev (s'.pin hx)
        | ct env' h' =>
          rw [em] at g
          have g : GotS X.K C X.pn Z W M H (bif noX env' then .ct env' h' else .bad) D' := g
          cases hx : noX env' with
          | false => rw [hx] at g; exact False.elim g
          | true => rw [hx] at g; exact fun M' σ' H' ev s' => g M' σ' H' ev (s'.pin hx)
        | rt d h' => rw [em] at g; exact g
        | exc c' ns' ds' env' h' => rw [em] at g; exact False.elim g
        | bad => rw [em] at g; exact False.elim g
      · subst hb
        exact ih g
  | @consN xn n i cv ms m b₀ suite np pos' hds cl l hN hi hln hc hm hsu r ih =>
    unfold hand at g
    cases e : ms.lookup c with
    | none => rw [e] at g; exact False.elim g
    | some b =>
      rw [e] at g
      refine ⟨b, hm _ (lookup_mem' e), fun hb a na pn' oe hz hd => ?_, fun hb => ?_⟩
      · subst hb
        refine ⟨Z, M, env.set i (.x c ns ds), h, s.setx x hz hd xr, ?_⟩
        have g : GotS X.K C X.pn Z W M H (endX (some i) (m (env.set i (.x c ns ds)) h)) D' := g
        cases em : m (env.set i (.x c ns ds)) h with
        | nx env' h' =>
          rw [em] at g
          have g : GotS X.K C X.pn Z W M H (bif noX (env'.set i .u) then .nx (env'.set i .u) h' else .bad) D' := g
          cases hx : noX (env'.set i .u) with
          | false => rw [hx] at g; exact False.elim g
          | true => rw [hx] at g; exact fun M' σ' H' ev s' => g M' _ H' ev (s'.unset hx)
        | br env' h' =>
          rw [em] at g
          have g : GotS X.K C X.pn Z W M H (bif noX (env'.set i .u) then .br (env'.set i .u) h' else .bad) D' := g
          cases hx : noX (env'.set i .u) with
          | false => rw [hx] at g; exact False.elim g
          | true => rw [hx] at g; exact fun M' σ' H' ev s' => g M' _ H' ev (s'.unset hx)
        | ct env' h' =>
          rw [em] at g
          have g : GotS X.K C X.pn Z W M H (bif noX (env'.set i .u) then .ct (env'.set i .u) h' else .bad) D' := g
          cases hx : noX (env'.set i .u) with
          | false => rw [hx] at g; exact False.elim g
          | true => rw [hx] at g; exact fun M' σ' H' ev s' => g M' _ H' ev (s'.unset hx)
        | rt d h' => rw [em] at g; exact g
        | exc c' ns' ds' env' h' => rw [em] at g; exact False.elim g
        | bad => rw [em] at g; exact False.elim g
      · subst hb
        exact ih g
theorem ss_try {body : List Stmt} {h₀ : ExceptHandler} {hds : List ExceptHandler} {m : MS} {cl : List Cls1} {l : List (Value × Option Nat × TsX)} {pos : Pos} (hs : X.stack = X.env :: X.outer) (hf : X.env.frame = some X.env.locals) (tk : Takes X W)
    (hb : ∀ (W' : WX) (pn : List (Addr × Obj)) (xe : Value → Shared → Prop), Takes (X.tr (X.pn ++ pn) xe) W' → PassesOwn (model X.prog X.w) X.A X.env xe → SB C (X.tr (X.pn ++ pn) xe) W' body m)
    (hh : HdsD C X (h₀ :: hds) cl l) : SS C X W (.Try body (h₀ :: hds) [] [] pos) (sTry m cl) := by
  refine PS.weak (ps_tryG (tb := fun W' D' σ H => ∀ pn, tS X.K C (X.pn ++ pn) W' m D' σ H) hs hf tk (fun W' pn xe tk' hp => PSs.weak (hb W' pn xe tk' hp) fun D' σ H q => q pn) hh.g) fun D' σ H ⟨Z, M, env, h, s, g⟩ pn => ?_
  unfold sTry at g
  cases hx : noX env with
  | false => rw [hx] at g; exact False.elim g
  | true =>
    rw [hx] at g
    refine ⟨Z, M, env, h, s.pin hx, ?_⟩
    dsimp only [cond_true] at g
    cases em : m env h with
    | nx env' h' =>
      rw [em] at g
      dsimp only at g
      cases hy : noX env' with
      | false => rw [hy] at g; exact False.elim g
      | true => rw [hy] at g; exact fun M' σ' H' ev s' => g M' σ' H' ev (s'.pin hy)
    | br env' h' =>
      rw [em] at g
      dsimp only at g
      cases hy : noX env' with
      | false => rw [hy] at g; exact False.elim g
      | true => rw [hy] at g; exact fun M' σ' H' ev s' => g M' σ' H' ev (s'.pin hy)
    | ct env' h' =>
      rw [em] at g
      dsimp only at g
      cases hy : noX env' with
      | false => rw [hy] at g; exact False.elim g
      | true => rw [hy] at g; exact fun M' σ' H' ev s' => g M' σ' H' ev (s'.pin hy)
    | rt d h' => rw [em] at g; exact g
    | bad => rw [em] at g; exact g
    | exc c ns ds env' h' =>
      rw [em] at g
      dsimp only at g
      cases hy : noX env' with
      | false => rw [hy] at g; exact False.elim g
      | true =>
        rw [hy] at g
        intro M' σ' H' dx ev s' xr
        exact hand_ok hh s' hy xr (GotS.later ev g)
end
end G

set_option Elab.async false
set_option linter.all false
set_option maxRecDepth 100000
set_option maxHeartbeats 4000000
/-! G7: targets, sources, for, list comprehensions, while. -/
namespace G
open PySem PySem.Spec PyProof.Rows L2

/-! ### targets -/
abbrev Asg := List Sl → D → Option (List Sl)
abbrev Asgs := List Sl → List D → Option (List Sl)
def tG (K : PySem.W.Frag) (C : List (V × D)) (pn : List (Addr × Obj)) (T : Asg) (ts : List Nat) : TG := fun v σ H Q => ∃ Z M env h d, SR K C pn Z M env h σ H ∧ Rep K (zn Z M) M H d v ∧ match T env d with
  | some env' => ∀ σ', SR K C pn Z M env' h σ' H → σ'.length = σ.length → (∀ j, j ∉ ts → σ'[j]? = σ[j]?) → Q σ' H
  | none => False
def tGs (K : PySem.W.Frag) (C : List (V × D)) (pn : List (Addr × Obj)) (T : Asgs) (ts : List Nat) : TGs := fun vs σ H Q => ∃ Z M env h ds, SR K C pn Z M env h σ H ∧ Reps K (zn Z M) M H ds vs ∧ match T env ds with
  | some env' => ∀ σ', SR K C pn Z M env' h σ' H → σ'.length = σ.length → (∀ j, j ∉ ts → σ'[j]? = σ[j]?) → Q σ' H
  | none => False
def SG (C : List (V × D)) (X : Cx) (tg : Expr) (T : Asg) (ts : List Nat) : Prop := PG X tg (tG X.K C X.pn T ts)
def SGs (C : List (V × D)) (X : Cx) (tgs : List Expr) (T : Asgs) (ts : List Nat) : Prop := PGs X tgs (tGs X.K C X.pn T ts)
theorem PG.weak {X : Cx} {tg : Expr} {t t' : TG} (p : PG X tg t) (h : ∀ v σ H Q, t' v σ H Q → t v σ H Q) : PG X tg t' := ⟨fun pins s σ H v u Q I r q => p.run pins s σ H v u Q I r (h v σ H Q q)⟩
theorem PGs.weak {X : Cx} {tgs : List Expr} {t t' : TGs} (p : PGs X tgs t) (h : ∀ v σ H Q, t' v σ H Q → t v σ H Q) : PGs X tgs t' := ⟨fun pins s σ H v u Q I r q => p.run pins s σ H v u Q I r (h v σ H Q q)⟩
def gN (i : Nat) : Asg := fun env d => some (env.set i (.v d))
def gsN : Asgs := fun env ds => match ds with
  | [] => some env
  | _ => none
def gsC (T : Asg) (U : Asgs) : Asgs := fun env ds => match ds with
  | d :: ds => (T env d).bind fun env' => U env' ds
  | [] => none
def gT (n : Nat) (U : Asgs) : Asg := fun env d => match d with
  | .tup ds => bif ds.length == n then U env ds else none
  | _ => none
section
variable {C : List (V × D)} {X : Cx} {pos : Pos}
theorem sg_name {i : Nat} {x : Str} (hN : X.N.Nodup) (hi : X.N[i]? = some x) (hx : Loc X.env.scope x) (hf : X.fn x = true ∨ X.env.scope.names.lookup x = some .local := by first | exact .inl rfl | exact .inr rfl | assumption) : SG C X (.Name x pos) (gN i) [i] := by
  refine PG.weak (pg_name hN hi hx hf) fun v σ H Q ⟨Z, M, env, h, d, s, r, g⟩ => ?_
  exact g _ (s.set r) (by simp) fun j hj => List.getElem?_set_ne (fun z => hj (by rw [z]; exact List.mem_singleton.mpr rfl))
theorem sgs_nil : SGs C X [] gsN [] := by
  refine PGs.weak pgs_nil fun v σ H Q ⟨Z, M, env, h, ds, s, r, g⟩ => ?_
  cases ds with
  | nil => exact ⟨r.cases_nil, g σ s rfl fun _ _ => rfl⟩
  | cons d ds => exact False.elim g
theorem sgs_cons {e : Expr} {es : List Expr} {T : Asg} {U : Asgs} {ts us : List Nat} (h1 : SG C X e T ts) (h2 : SGs C X es U us) (hs : (assignEach (e :: es) X.env).map (·.2) = assign e X.env :: (assignEach es X.env).map (·.2) := by rfl) : SGs C X (e :: es) (gsC T U) (ts ++ us) := by
  refine PGs.weak (pgs_cons h1 h2 hs) fun v σ H Q ⟨Z, M, env, h, ds, s, r, g⟩ => ?_
  cases ds with
  | nil => exact False.elim g
  | cons d ds =>
    obtain ⟨v', ws, rfl, r1, r2⟩ := r.cases_cons
    refine ⟨v', ws, rfl, Z, M, env, h, d, s, r1, ?_⟩
    have g : (match (T env d).bind fun env' => U env' ds with
      | some env' => ∀ σ', SR X.K C X.pn Z M env' h σ' H → σ'.length = σ.length → (∀ j, j ∉ ts ++ us → σ'[j]? = σ[j]?) → Q σ' H
      | none => False) := g
    cases e1 : T env d with
    | none => rw [e1] at g; exact g
    | some env1 =>
      rw [e1] at g
      intro σ1 s1 l1 k1
      refine ⟨Z, M, env1, h, ds, s1, r2, ?_⟩
      have g : (match U env1 ds with
        | some env' => ∀ σ', SR X.K C X.pn Z M env' h σ' H → σ'.length = σ.length → (∀ j, j ∉ ts ++ us → σ'[j]? = σ[j]?) → Q σ' H
        | none => False) := g
      cases e2 : U env1 ds with
      | none => rw [e2] at g; exact g
      | some env2 =>
        rw [e2] at g
        exact fun σ2 s2 l2 k2 => g σ2 s2 (l2.trans l1) fun j hj => (k2 j fun z => hj (List.mem_append_right _ z)).trans (k1 j fun z => hj (List.mem_append_left _ z))
theorem sg_tup {es : List Expr} {k n : Nat} {U : Asgs} {ts : List Nat} (hc : X.calm = true) (h : SGs C X es U ts) (hn : (assignEach es X.env).length = n := by rfl) (hst : (assignEach es X.env).findIdx? (·.1) = none := by rfl) : SG C X (.Tuple es k pos) (gT n U) ts := by
  refine PG.weak (pg_tup hc h hn hst) fun v σ H Q ⟨Z, M, env, h, d, s, r, g⟩ => ?_
  cases r with
  | @tup xs vs a t l q =>
    have g : (match (bif xs.length == n then U env xs else none) with
      | some env' => ∀ σ', SR X.K C X.pn Z M env' h σ' H → σ'.length = σ.length → (∀ j, j ∉ ts → σ'[j]? = σ[j]?) → Q σ' H
      | none => False) := g
    cases hl : xs.length == n with
    | false => rw [hl] at g; exact False.elim g
    | true =>
      rw [hl] at g
      exact ⟨a, vs, rfl, t.sq, by rw [← l]; exact eq_of_beq hl, Z, M, env, h, xs, s, ⟨l, q⟩, g⟩
  | _ => exact False.elim g
end
/-- target = value -/
def sAsg (T : Asg) (m : ME) : MS := fun env h => (m env h).thenS env fun d h1 => match T env d with
  | some env' => .nx env' h1
  | none => .bad
theorem ss_asg {C : List (V × D)} {X : Cx} {W : WX} {tg e : Expr} {T : Asg} {ts : List Nat} {m : ME} {pos : Pos} (he : SE C X W e m) (hg : SG C X tg T ts) (hs : swapsWithSole [tg] e pos.line X.env = pure false := by rfl) (hw : swappedStores [tg] e X.env = pure none := by rfl) (h1 : (assignEach [tg] X.env).map (·.2) = [assign tg X.env] := by rfl) : SS C X W (.Assign [tg] e pos) (sAsg T m) := by
  refine PS.weak (ps_asg he hg hs hw h1) fun D' σ H ⟨Z, M, env, h, s, g⟩ => ?_
  refine tE.stepS s g fun M1 H1 h1 d v e1 s1 r1 g1 => ?_
  refine ⟨Z, M1, env, h1, d, s1, r1, ?_⟩
  cases et : T env d with
  | none => rw [et] at g1; exact g1
  | some env' =>
    rw [et] at g1
    exact fun σ' s' _ _ => g1 M1 σ' H1 (.refl M1 H1) s'

/-! ### what is walked -/
/-- J gives the items; Iv stands over it -/
structure ItR (K : PySem.W.Frag) (C : List (V × D)) (J : It) (items : List D) (Iv : (Addr → Prop) → List Addr → Hp → Prop) : Prop where
  go : ∀ i Z M H, i < items.length → Iv Z M H → J.go i H
  stop : ∀ Z M H, Iv Z M H → J.stop items.length H
  yld : ∀ i Z M h H x H' d, Iv Z M H → Sh K C Z M h H → J.yld i H x H' → items[i]? = some d → Evo M H M H' ∧ Sh K C Z M h H' ∧ Rep K (zn Z M) M H' d x
  mono : ∀ Z M H M' H', Iv Z M H → Evo M H M' H' → Iv Z M' H'
  zone : ∀ (Z Z' : Addr → Prop) M H, Iv Z M H → (∀ a, Z a → H a ≠ none → Z' a) → Iv Z' M H
  poke : ∀ (Z : Addr → Prop) M H p us ys, Iv Z M H → ¬ Z p → H p = some (.lst us) → Iv Z M (upd H p (.lst ys))
/-- a list out of the zone is written -/
theorem Rep.poke {K : PySem.W.Frag} {Z : Addr → Prop} {M : List Addr} {H : Hp} {p : Addr} {us ys : List V} (nz : ¬ Z p) (hp : H p = some (.lst us)) {d : D} {v : V} (r : Rep K (zn Z M) M H d v) : Rep K (zn Z M) M (upd H p (.lst ys)) d v := by
  have ne : ∀ {a : Addr}, zn Z M a → a ≠ p := fun {a} z e => nz (e ▸ z.1)
  induction r with
  | non => exact .non
  | bl b => exact .bl b
  | int i => exact .int i
  | str x => exact .str x
  | tup t l _ ih => exact .tup (t.map fun z h => ⟨z, by rcases h with h | ⟨o, h⟩; exact .inl (by rw [upd_ne (ne z)]; exact h); exact .inr ⟨o, by rw [upd_ne (ne z)]; exact h⟩⟩) l ih
  | lst z h l _ ih => exact .lst z (by rw [upd_ne (ne z)]; exact h) l ih
  | dic z h e l _ ih => exact .dic z (by rcases h with h | ⟨o, h⟩; exact .inl (by rw [upd_ne (ne z)]; exact h); exact .inr ⟨o, by rw [upd_ne (ne z)]; exact h⟩) e l ih
  | obj z h e l _ ih => exact .obj z (by rw [upd_ne (ne z)]; exact h) e l ih
  | loc h => exact .loc h
  | scr s =>
    refine .scr ?_
    rcases s with ⟨o, s⟩ | s
    · exact .inl ⟨o, by rw [upd_ne (fun z => by rw [z, hp] at s; cases s)]; exact s⟩
    · exact .inr s
  | cls => exact .cls
theorem Reps.poke {K : PySem.W.Frag} {Z : Addr → Prop} {M : List Addr} {H : Hp} {p : Addr} {us ys : List V} (nz : ¬ Z p) (hp : H p = some (.lst us)) {ds : List D} {vs : List V} (r : Reps K (zn Z M) M H ds vs) : Reps K (zn Z M) M (upd H p (.lst ys)) ds vs := ⟨r.1, fun i d v b1 b2 => (r.2 i d v b1 b2).poke nz hp⟩
def tI (K : PySem.W.Frag) (C : List (V × D)) (pn : List (Addr × Obj)) (W : WX) (m : MA) : TI := fun σ H R => ∃ Z M env h, SR K C pn Z M env h σ H ∧ Got K C pn Z W σ env M H (m env h) fun M' H' items => ∀ J Iv, ItR K C J items Iv → Iv Z M' H' → R J H'
def SI (C : List (V × D)) (X : Cx) (W : WX) (tg iter : Expr) (m : MA) : Prop := PI X tg iter (tI X.K C X.pn W m)
theorem PI.weak {X : Cx} {tg iter : Expr} {t t' : TI} (p : PI X tg iter t) (h : ∀ σ H R, t' σ H R → t σ H R) : PI X tg iter t' := ⟨fun pins s σ H R I q => p.run pins s σ H R I (h σ H R q)⟩
section
variable {C : List (V × D)} {X : Cx} {W : WX} {tg : Expr}
/-- a list, a tuple that never changes -/
def iSeq (m : ME) : MA := fun env h => (m env h).bind fun d h1 => match d with
  | .lst xs => .ok xs h1
  | .scr ns => .ok (ns.map .int) h1
  | _ => .bad
def iTupD (m : ME) : MA := fun env h => (m env h).bind fun d h1 => match d with
  | .tup xs => .ok xs h1
  | _ => .bad
theorem zsub {Z Z' : Addr → Prop} {M : List Addr} {H : Hp} {a : Addr} {o : HO} (k : ∀ a, Z a → H a ≠ none → Z' a) (z : zn Z M a) (h : Rd H a o) : zn Z' M a := ⟨k a z.1 (by rcases h with h | ⟨u, h⟩ <;> rw [h] <;> simp), z.2⟩
theorem Rep.sub {K : PySem.W.Frag} {Z Z' : Addr → Prop} {M : List Addr} {H : Hp} {d : D} {v : V} (k : ∀ a, Z a → H a ≠ none → Z' a) (r : Rep K (zn Z M) M H d v) : Rep K (zn Z' M) M H d v := by
  induction r with
  | non => exact .non
  | bl b => exact .bl b
  | int i => exact .int i
  | str x => exact .str x
  | tup t l _ ih => exact .tup (t.map fun z h => ⟨zsub k z h, h⟩) l ih
  | lst z h l _ ih => exact .lst (zsub k z (.inl h)) h l ih
  | dic z h e l _ ih => exact .dic (zsub k z h) h e l ih
  | obj z h e l _ ih => exact .obj (zsub k z (.inl h)) h e l ih
  | loc h => exact .loc h
  | scr s => exact .scr s
  | cls => exact .cls
theorem Reps.sub {K : PySem.W.Frag} {Z Z' : Addr → Prop} {M : List Addr} {H : Hp} {ds : List D} {vs : List V} (k : ∀ a, Z a → H a ≠ none → Z' a) (r : Reps K (zn Z M) M H ds vs) : Reps K (zn Z' M) M H ds vs := ⟨r.1, fun i d v h1 h2 => (r.2 i d v h1 h2).sub k⟩
theorem itr_list {a : Addr} {xs : List D} {vs : List V} : ItR X.K C (Itl X.K a) xs (fun Z M H => zn Z M a ∧ H a = some (.lst vs) ∧ Reps X.K (zn Z M) M H xs vs) where
  go := fun i Z M H hi ⟨z, h, r⟩ => ⟨vs, vs[i]'(r.1 ▸ hi), SqL.of h, List.getElem?_eq_getElem _⟩
  stop := fun Z M H ⟨z, h, r⟩ => ⟨vs, SqL.of h, by rw [r.1]; exact Nat.le_refl _⟩
  yld := fun i Z M h H x H' d ⟨z, e, r⟩ sh ⟨eH, q⟩ hd => by
    subst eH
    exact ⟨.refl M H', sh, r.2 i d x hd (q vs (SqL.of e))⟩
  mono := fun Z M H M' H' ⟨z, h, r⟩ e => ⟨(e.zone z h).1, (e.zone z h).2, r.mono e⟩
  zone := fun Z Z' M H ⟨z, h, r⟩ k => ⟨zsub k z (.inl h), h, r.sub k⟩
  poke := fun Z M H p us ys ⟨z, h, r⟩ nz hp => ⟨z, by rw [upd_ne (fun e : a = p => nz (by rw [← e]; exact z.1))]; exact h, r.poke nz hp⟩
theorem itr_scr {a : Addr} {ns : List Int} : ItR X.K C (Itl X.K a) (ns.map .int) (fun Z M H => (∃ o, H a = some (.frz o (.lst (ns.map V.int)))) ∨ SqL X.K (fun _ => none) a (ns.map V.int)) := by
  have sq : ∀ {H : Hp}, ((∃ o, H a = some (.frz o (.lst (ns.map V.int)))) ∨ SqL X.K (fun _ => none) a (ns.map V.int)) → SqL X.K H a (ns.map V.int) := fun {H} h => by
    rcases h with ⟨o, h⟩ | h
    · exact .inl (.inr ⟨o, h⟩)
    · rcases h with h | h
      · rcases h with h | ⟨o, h⟩ <;> cases h
      · exact .inr h
  refine ⟨fun i Z M H hi s => ⟨_, (ns.map V.int)[i]'(by simpa using hi), sq s, List.getElem?_eq_getElem _⟩, fun Z M H s => ⟨_, sq s, by simp⟩, fun i Z M h H x H' d s sh ⟨eH, q⟩ hd => ?_, fun Z M H M' H' s e => ?_, fun Z Z' M H s k => s, fun Z M H p us ys s nz hp => ?_⟩
  rotate_right 1
  · rcases s with ⟨o, s⟩ | s
    · exact .inl ⟨o, by rw [upd_ne (fun z => by rw [z, hp] at s; cases s)]; exact s⟩
    · exact .inr s
  · subst eH
    have q1 := q _ (sq s)
    rw [List.getElem?_map] at q1 hd
    cases hn : ns[i]? with
    | none => rw [hn] at hd; cases hd
    | some n =>
      rw [hn] at hd q1
      cases hd; cases q1
      exact ⟨.refl M H', sh, .int n⟩
  · rcases s with ⟨o, h⟩ | h
    · exact .inl ⟨o, e.fz _ _ _ h⟩
    · exact .inr h
theorem scr_sq {K : PySem.W.Frag} {H : Hp} {a : Addr} {ns : List Int} (h : (∃ o, H a = some (.frz o (.lst (ns.map V.int)))) ∨ SqL K (fun _ => none) a (ns.map V.int)) : SqL K H a (ns.map V.int) := by
  rcases h with ⟨o, h⟩ | h
  · exact .inl (.inr ⟨o, h⟩)
  · rcases h with h | h
    · rcases h with h | ⟨o, h⟩ <;> cases h
    · exact .inr h
theorem itr_tup {a : Addr} {xs : List D} {vs : List V} : ItR X.K C (Itt X.K a) xs (fun Z M H => TupA X.K (zn Z M) H a vs ∧ Reps X.K (zn Z M) M H xs vs) where
  go := fun i Z M H hi ⟨t, r⟩ => ⟨vs, vs[i]'(r.1 ▸ hi), t.sq, List.getElem?_eq_getElem _⟩
  stop := fun Z M H ⟨t, r⟩ => ⟨vs, t.sq, by rw [r.1]; exact Nat.le_refl _⟩
  yld := fun i Z M h H x H' d ⟨t, r⟩ sh ⟨eH, q⟩ hd => by
    subst eH
    exact ⟨.refl M H', sh, r.2 i d x hd (q vs t.sq)⟩
  mono := fun Z M H M' H' ⟨t, r⟩ e => ⟨t.map fun z h => e.rd z h, r.mono e⟩
  zone := fun Z Z' M H ⟨t, r⟩ k => ⟨t.map fun z h => ⟨zsub k z h, h⟩, r.sub k⟩
  poke := fun Z M H p us ys ⟨t, r⟩ nz hp => ⟨t.map fun z h => ⟨z, by rcases h with h | ⟨o, h⟩; exact .inl (by rw [upd_ne (fun e : a = p => nz (by rw [← e]; exact z.1))]; exact h); exact .inr ⟨o, by rw [upd_ne (fun e : a = p => nz (by rw [← e]; exact z.1))]; exact h⟩⟩, r.poke nz hp⟩
theorem si_list {l : Expr} {m : ME} (hl : SE C X W l m) : SI C X W tg l (iSeq m) := by
  refine PI.weak (pi_list hl) fun σ H R ⟨Z, M, env, h, s, g⟩ => ?_
  refine tE.step s g fun M1 H1 h1 d v e1 s1 r1 g1 => ?_
  cases r1 with
  | @lst xs vs a z e l q => exact ⟨a, rfl, ⟨vs, SqL.of e⟩, Got.now g1 s1 _ _ itr_list ⟨z, e, ⟨l, q⟩⟩⟩
  | @scr ns a s => exact ⟨a, rfl, ⟨_, scr_sq s⟩, Got.now g1 s1 _ _ itr_scr s⟩
  | _ => exact False.elim g1
theorem si_tup {l : Expr} {m : ME} (hl : SE C X W l m) : SI C X W tg l (iTupD m) := by
  refine PI.weak (pi_tup hl) fun σ H R ⟨Z, M, env, h, s, g⟩ => ?_
  refine tE.step s g fun M1 H1 h1 d v e1 s1 r1 g1 => ?_
  cases r1 with
  | @tup xs vs a t l q => exact ⟨a, rfl, ⟨vs, t.sq⟩, Got.now g1 s1 _ _ itr_tup ⟨t, ⟨l, q⟩⟩⟩
  | _ => exact False.elim g1
/-- range(n) -/
def rangeD (lo : Int) (n : Nat) : List D := (List.range n).map fun (i : Nat) => D.int (lo + i)
def iRange1 (t : MA) : MA := fun env h => (t env h).bind fun ds h1 => match ds with
  | [.int j] => bif decide (-(2 ^ 62) ≤ j) && decide (j < 2 ^ 62) then .ok (rangeD 0 j.toNat) h1 else .bad
  | _ => .bad
def iRange2 (t : MA) : MA := fun env h => (t env h).bind fun ds h1 => match ds with
  | [.int i, .int j] => bif decide (-(2 ^ 62) ≤ i) && (decide (i < 2 ^ 62) && (decide (-(2 ^ 62) ≤ j) && decide (j < 2 ^ 62))) then .ok (rangeD i (j - i).toNat) h1 else .bad
  | _ => .bad
theorem itr_range {lo : Int} {n : Nat} : ItR X.K C (Itr lo n) (rangeD lo n) (fun _ _ _ => True) := by
  refine ⟨fun i Z M H hi _ => by show i < n; simpa [rangeD] using hi, fun Z M H _ => by show n ≤ _; simp [rangeD], fun i Z M h H x H' d _ sh ⟨eH, ex⟩ hd => ?_, fun _ _ _ _ _ _ _ => trivial, fun _ _ _ _ _ _ => trivial, fun _ _ _ _ _ _ _ _ _ => trivial⟩
  subst eH
  subst ex
  unfold rangeD at hd
  rw [List.getElem?_map] at hd
  cases hr : (List.range n)[i]? with
  | none => rw [hr] at hd; cases hd
  | some j =>
    rw [hr] at hd
    obtain ⟨_, ej⟩ := List.getElem?_eq_some_iff.mp hr
    rw [List.getElem_range] at ej
    subst ej
    cases hd
    exact ⟨.refl M H', sh, .int _⟩
theorem si_range1 {a : Expr} {t : MA} {p pos : Pos} (hg : Gl X "range") (hm : X.mg "range" = none) (ha : SA C X W [a] t) (hs : starEach [a] X.env = [(false, eval a X.env)] := by rfl) : SI C X W tg (.Call (.Name "range" p) [a] [] pos) (iRange1 t) := by
  refine PI.weak (pi_range1 hg hm ha hs) fun σ H R ⟨Z, M, env, h, s, g⟩ => ?_
  refine tA.step s g fun M1 H1 h1 ds vs e1 s1 r1 g1 => ?_
  cases ds with
  | nil => exact False.elim g1
  | cons d ds =>
    obtain ⟨v, ws, rfl, q1, q2⟩ := r1.cases_cons
    cases ds with
    | cons d' ds => cases d <;> exact False.elim g1
    | nil =>
      obtain rfl := q2.cases_nil
      cases q1 with
      | int j =>
        dsimp only at g1
        cases hb : decide (-(2 ^ 62) ≤ j) && decide (j < 2 ^ 62) with
        | false => rw [hb] at g1; exact False.elim g1
        | true =>
          rw [hb] at g1
          obtain ⟨b1, b2⟩ := Bool.and_eq_true_iff.mp hb
          exact ⟨j, rfl, of_decide_eq_true b1, of_decide_eq_true b2, Got.now g1 s1 _ _ itr_range trivial⟩
      | _ => exact False.elim g1
theorem si_range2 {a b : Expr} {t : MA} {p pos : Pos} (hg : Gl X "range") (hm : X.mg "range" = none) (ha : SA C X W [a, b] t) (hs : starEach [a, b] X.env = [(false, eval a X.env), (false, eval b X.env)] := by rfl) (hs2 : starEach [b] X.env = [(false, eval b X.env)] := by rfl) : SI C X W tg (.Call (.Name "range" p) [a, b] [] pos) (iRange2 t) := by
  refine PI.weak (pi_range2 hg hm ha hs hs2) fun σ H R ⟨Z, M, env, h, s, g⟩ => ?_
  refine tA.step s g fun M1 H1 h1 ds vs e1 s1 r1 g1 => ?_
  match ds, g1, r1 with
  | [], g1, _ => exact False.elim g1
  | [d], g1, _ => cases d <;> exact False.elim g1
  | d :: d2 :: d3 :: ds, g1, _ => cases d <;> (try exact False.elim g1); cases d2 <;> exact False.elim g1
  | [d, d2], g1, r1 =>
    obtain ⟨v, ws, rfl, q1, q2⟩ := r1.cases_cons
    obtain ⟨v2, ws2, rfl, q3, q4⟩ := q2.cases_cons
    obtain rfl := q4.cases_nil
    cases q1 with
    | int i =>
      cases q3 with
      | int j =>
        dsimp only at g1
        cases hb : decide (-(2 ^ 62) ≤ i) && (decide (i < 2 ^ 62) && (decide (-(2 ^ 62) ≤ j) && decide (j < 2 ^ 62))) with
        | false => rw [hb] at g1; exact False.elim g1
        | true =>
          rw [hb] at g1
          obtain ⟨b1, b2⟩ := Bool.and_eq_true_iff.mp hb
          obtain ⟨b2, b3⟩ := Bool.and_eq_true_iff.mp b2
          obtain ⟨b3, b4⟩ := Bool.and_eq_true_iff.mp b3
          exact ⟨i, j, rfl, ⟨of_decide_eq_true b1, of_decide_eq_true b2, of_decide_eq_true b3, of_decide_eq_true b4⟩, Got.now g1 s1 _ _ itr_range trivial⟩
      | _ => exact False.elim g1
    | _ => exact False.elim g1
/-- a text, sign by sign -/
def iText (m : ME) : MA := fun env h => (m env h).bind fun d h1 => match d with
  | .str x => .ok (x.cps.toList.map fun c => .str ⟨#[c]⟩) h1
  | _ => .bad
theorem itr_text {z : Str} : ItR X.K C (Its z) (z.cps.toList.map fun c => .str ⟨#[c]⟩) (fun _ _ _ => True) := by
  refine ⟨fun i Z M H hi _ => by show i < z.cps.size; simpa using hi, fun Z M H _ => by show z.cps.size ≤ _; simp, fun i Z M h H x H' d _ sh ⟨eH, c, hc, ex⟩ hd => ?_, fun _ _ _ _ _ _ _ => trivial, fun _ _ _ _ _ _ => trivial, fun _ _ _ _ _ _ _ _ _ => trivial⟩
  subst eH
  subst ex
  rw [List.getElem?_map, Array.getElem?_toList, hc] at hd
  cases hd
  exact ⟨.refl M H', sh, .str _⟩
theorem si_text {e : Expr} {m : ME} (he : SE C X W e m) : SI C X W tg e (iText m) := by
  refine PI.weak (pi_str he) fun σ H R ⟨Z, M, env, h, s, g⟩ => ?_
  refine tE.step s g fun M1 H1 h1 d v e1 s1 r1 g1 => ?_
  cases r1 with
  | str x => exact ⟨x, rfl, Got.now g1 s1 _ _ itr_text trivial⟩
  | _ => exact False.elim g1
end

/-! ### for -/
def forGo (T : Asg) (m : MS) : List D → MS
  | [], env, h => .nx env h
  | x :: xs, env, h => match T env x with
    | some env1 => (match m env1 h with
      | .nx env2 h2 => forGo T m xs env2 h2
      | .ct env2 h2 => forGo T m xs env2 h2
      | .br env2 h2 => .nx env2 h2
      | r => r)
    | none => .bad
def sFor (src : MA) (T : Asg) (m : MS) : MS := fun env h => (src env h).thenS env fun items h1 => forGo T m items env h1
theorem ss_for {C : List (V × D)} {X : Cx} {W : WX} {tg iter : Expr} {body : List Stmt} {src : MA} {T : Asg} {ts : List Nat} {m : MS} {pos : Pos} (hp : PassesOwn (model X.prog X.w) X.A X.env X.xe) (hc : X.calm = true) (hi : SI C X W tg iter src) (hg : SG C X tg T ts) (hb : SB C X W body m)
    (hs : ∀ x, foldedSetIterable iter X.env x = pure x := by intro _; rfl) : SS C X W (.For tg iter body [] pos) (sFor src T m) := by
  refine PS.weak (ps_for hp hc hi hg hb hs) fun D' σ H ⟨Z, M, env, h, s, g⟩ => ⟨Z, M, env, h, s, ?_⟩
  unfold sFor at g
  cases e : src env h with
  | bad => rw [e] at g; exact g
  | exc c ns ds h1 => rw [e] at g; exact fun M' H' dx ev s' x => g M' σ H' dx ev s' x
  | ok items h1 =>
    rw [e] at g
    have g : GotS X.K C X.pn Z W M H (forGo T m items env h1) D' := g
    intro M1 H1 ev s1 J Iv it iv
    have g := GotS.later ev g
    refine ⟨fun i k σ H => k = items.length - i ∧ i ≤ items.length ∧ ∃ M env h, SR X.K C X.pn Z M env h σ H ∧ Iv Z M H ∧ GotS X.K C X.pn Z W M H (forGo T m (items.drop i) env h) D', ⟨_, rfl, Nat.zero_le _, M1, env, h1, s1, iv, g⟩, ?_⟩
    rintro i k σ2 H2 ⟨rfl, hle, M2, env2, h2, s2, iv2, g2⟩
    by_cases hlt : i < items.length
    · refine .inr ⟨it.go i Z M2 H2 hlt iv2, fun σ' H' => i + 1 ≤ items.length ∧ ∃ M env h, SR X.K C X.pn Z M env h σ' H' ∧ Iv Z M H' ∧ GotS X.K C X.pn Z W M H' (forGo T m (items.drop (i + 1)) env h) D', fun σ' H' q => ⟨items.length - (i + 1), by omega, rfl, q.1, q.2⟩, fun x H' hy => ?_⟩
      obtain ⟨ev3, sh3, r3⟩ := it.yld i Z M2 h2 H2 x H' _ iv2 s2.sh hy (List.getElem?_eq_getElem hlt)
      have iv3 := it.mono Z M2 H2 M2 H' iv2 ev3
      refine ⟨Z, M2, env2, h2, items[i], s2.later ev3 sh3, r3, ?_⟩
      rw [List.drop_eq_getElem_cons hlt] at g2
      have g2 : GotS X.K C X.pn Z W M2 H' (match T env2 items[i] with
        | some env1 => (match m env1 h2 with
          | .nx env2 h2 => forGo T m (items.drop (i + 1)) env2 h2
          | .ct env2 h2 => forGo T m (items.drop (i + 1)) env2 h2
          | .br env2 h2 => .nx env2 h2
          | r => r)
        | none => .bad) D' := GotS.later ev3 g2
      cases et : T env2 items[i] with
      | none => rw [et] at g2; exact g2
      | some env3 =>
        rw [et] at g2
        intro σ3 s3 l3 k3
        refine ⟨Z, M2, env3, h2, s3, ?_⟩
        dsimp only at g2
        cases em : m env3 h2 with
        | nx env4 h4 => rw [em] at g2; exact fun M4 σ4 H4 ev4 s4 => ⟨hlt, M4, env4, h4, s4, it.mono _ _ _ _ _ iv3 ev4, GotS.later ev4 g2⟩
        | ct env4 h4 => rw [em] at g2; exact fun M4 σ4 H4 ev4 s4 => ⟨hlt, M4, env4, h4, s4, it.mono _ _ _ _ _ iv3 ev4, GotS.later ev4 g2⟩
        | br env4 h4 => rw [em] at g2; exact g2
        | rt d h4 => rw [em] at g2; exact g2
        | exc c ns ds env4 h4 => rw [em] at g2; exact g2
        | bad => rw [em] at g2; exact g2
    · have ei : i = items.length := Nat.le_antisymm hle (Nat.le_of_not_lt hlt)
      subst ei
      rw [List.drop_length] at g2
      exact .inl ⟨it.stop Z M2 H2 iv2, g2 M2 σ2 H2 (.refl M2 H2) s2⟩

/-! ### list comprehensions, one clause -/
def R.noexc {α : Type} (r : R α) : R α := match r with
  | .exc _ _ _ _ => .bad
  | r => r
def wipeE (env : List Sl) : List Nat → List Sl
  | [] => env
  | v :: vs => (wipeE env vs).set v .u
def lcGo (T : Asg) (tt : MT) (te : ME) (env : List Sl) : List D → List D → List D → R (List D)
  | [], acc, h => .ok acc h
  | x :: xs, acc, h => match T env x with
    | some env1 => (tt env1 h).noexc.bind fun b h1 => match b with
      | true => (te env1 h1).noexc.bind fun d h2 => bif decide (acc.length < sizeLine) then lcGo T tt te env xs (acc ++ [d]) h2 else .bad
      | false => lcGo T tt te env xs acc h1
    | none => .bad
def aLc (src : MA) (T : Asg) (tt : MT) (te : ME) (vs : List Nat) : MA := fun env h => (src env h).bind fun items h1 => bif noX env then lcGo T tt te (wipeE env vs) items [] h1 else .bad
def cLc (src : MA) (T : Asg) (tt : MT) (te : ME) (vs : List Nat) : ME := fun env h => (aLc src T tt te vs env h).bind fun ds h1 => .ok (.lst ds) h1
def cLcN (src : MA) (T : Asg) (tt : MT) (te : ME) (vs : List Nat) : ME := fun env h => (aLc src T tt te vs env h).bind fun ds h1 => .ok (.loc h1.length) (h1 ++ [.lst ds])
def mYes : MT := fun _ h => .ok true h
def STs (C : List (V × D)) (X : Cx) (W : WX) (ifs : List Expr) (m : MT) : Prop := PTs X ifs (tT X.K C X.pn W m)
theorem PTs.weak {X : Cx} {ifs : List Expr} {t t' : TT} (p : PTs X ifs t) (h : ∀ σ H Q, t' σ H Q → t σ H Q) : PTs X ifs t' := ⟨fun pins s σ H Q I q => p.run pins s σ H Q I (h σ H Q q)⟩
theorem sts_nil {C : List (V × D)} {X : Cx} {W : WX} : STs C X W [] mYes := PTs.weak pts_nil fun σ H Q ⟨Z, M, env, h, s, g⟩ => Got.now g s
theorem sts_one {C : List (V × D)} {X : Cx} {W : WX} {c : Expr} {m : MT} (h : ST C X W c m) : STs C X W [c] m := pts_one h
section
variable {K : PySem.W.Frag} {C : List (V × D)} {pn pn' : List (Addr × Obj)} {Z Z' : Addr → Prop} {M : List Addr} {H : Hp} {env : List Sl} {h : List D} {σ : L2.St}
theorem wipe_eq {σ σ' : L2.St} (l : σ'.length = σ.length) {vs ts : List Nat} (k : ∀ j, j ∉ ts → σ'[j]? = (wipe σ vs)[j]?) (sub : ∀ j ∈ ts, j ∈ vs) : wipe σ' vs = wipe σ vs := by
  have self : ∀ (σ : L2.St) (vs : List Nat) (j : Nat), j ∈ vs → (wipe σ vs)[j]? = if j < σ.length then some none else none := by
    intro σ vs
    induction vs with
    | nil => intro j hj; cases hj
    | cons v vs ih =>
      intro j hj
      show ((wipe σ vs).set v none)[j]? = _
      by_cases e : v = j
      · subst e
        rw [List.getElem?_set, if_pos rfl, wipe_length]
      · rw [List.getElem?_set_ne e]
        rcases List.mem_cons.mp hj with z | z
        · exact absurd z.symm e
        · exact ih j z
  apply List.ext_getElem?
  intro j
  by_cases hj : j ∈ vs
  · rw [self σ' vs j hj, self σ vs j hj, l]
  · rw [wipe_out hj]
    exact k j fun z => hj (sub j z)
theorem wipeE_length (env : List Sl) : ∀ vs : List Nat, (wipeE env vs).length = env.length
  | [] => rfl
  | v :: vs => by unfold wipeE; rw [List.length_set, wipeE_length env vs]
theorem SR.unslot {i : Nat} (s : SR K C pn Z M env h σ H) : SR K C pn Z M (env.set i .u) h (σ.set i none) H := by
  refine ⟨s.sh, fun j d hd' => ?_, fun j c ns ds hd' => ?_, by simp [s.len]⟩
  · rw [List.getElem?_set] at hd'
    by_cases e : i = j
    · subst e
      rw [if_pos rfl] at hd'
      split at hd' <;> cases hd'
    · rw [if_neg e] at hd'
      obtain ⟨v, h1, h2⟩ := s.slots j d hd'
      exact ⟨v, by rw [List.getElem?_set_ne e]; exact h1, h2⟩
  · rw [List.getElem?_set] at hd'
    by_cases e : i = j
    · subst e
      rw [if_pos rfl] at hd'
      split at hd' <;> cases hd'
    · rw [if_neg e] at hd'
      obtain ⟨a, dx, h1, h2⟩ := s.exc j c ns ds hd'
      exact ⟨a, dx, by rw [List.getElem?_set_ne e]; exact h1, h2⟩
theorem SR.wiped (s : SR K C pn Z M env h σ H) : ∀ vs : List Nat, SR K C pn Z M (wipeE env vs) h (wipe σ vs) H
  | [] => s
  | v :: vs => (SR.wiped s vs).unslot
theorem Sh.sub (s : Sh K C Z M h H) (k : ∀ a, Z a → H a ≠ none → Z' a) (all : ∀ p, H p = none → Z' p) : Sh K C Z' M h H := by
  refine ⟨all, fun a m => ?_, fun p hp => ⟨(s.cst p hp).1, (s.cst p hp).2.sub k⟩, s.nd, s.len, fun i a d h1 h2 => ?_⟩
  · obtain ⟨o, ho, _⟩ := s.at m
    exact k a (s.mz a m) (by rw [ho]; simp)
  · have c := s.cel i a d h1 h2
    cases d with
    | lst xs => obtain ⟨vs, q, r⟩ := c; exact ⟨vs, q, r.sub k⟩
    | dic ks ds => obtain ⟨vs, q, e, r⟩ := c; exact ⟨vs, q, e, r.sub k⟩
    | obj c' ns ds => obtain ⟨dx, vs, q, e, r⟩ := c; exact ⟨dx, vs, q, e, r.sub k⟩
    | lck ks ds => obtain ⟨vs, olk, q, e, r⟩ := c; exact ⟨vs, olk, q, e, r.sub k⟩
    | _ => exact False.elim c
theorem SR.sub (s : SR K C pn Z M env h σ H) (k : ∀ a, Z a → H a ≠ none → Z' a) (all : ∀ p, H p = none → Z' p) : SR K C pn Z' M env h σ H :=
  ⟨s.sh.sub k all, fun i d hd => by obtain ⟨v, h1, h2⟩ := s.slots i d hd; exact ⟨v, h1, h2.sub k⟩, fun i c ns ds hd => by
    obtain ⟨a, dx, h1, h2, fs, h3, h4, h5, h6⟩ := s.exc i c ns ds hd
    exact ⟨a, dx, h1, h2, fs, h3, h4, h5, h6.sub k⟩, s.len⟩
end
/-- the new list becomes a mutable object -/
theorem lcN_fin {C : List (V × D)} {X : Cx} {W : WX} {Q : VK} {σ : L2.St} {H H' : Hp} {Z : Addr → Prop} {M M' : List Addr} {env : List Sl} {h h' ds : List D} {us : List V} {p : Addr} (s : SR X.K C X.pn Z M env h σ H) (ev : Evo M H M' H') (hp0 : H p = none) (zp : Z p) (so : SR X.K C X.pn (fun a => Z a ∧ a ≠ p) M' env h' σ H')
    (hp : H' p = some (.lst us)) (rs : Reps X.K (zn (fun a => Z a ∧ a ≠ p) M') M' H' ds us) (g : Got X.K C X.pn Z W σ env M H (.ok (.loc h'.length) (h' ++ [.lst ds])) fun M' H' d => ∀ v, Rep X.K (zn Z M') M' H' d v → Q v H') : Q (.ref p) H' := by
  have np : p ∉ M' := fun m => (so.sh.mz p m).2 rfl
  have cv : ∀ {d : D} {v : V}, Rep X.K (zn (fun a => Z a ∧ a ≠ p) M') M' H' d v → Rep X.K (zn Z (M' ++ [p])) (M' ++ [p]) H' d v := fun {d v} r => by
    have zz : ∀ {a : Addr}, zn (fun a => Z a ∧ a ≠ p) M' a → zn Z (M' ++ [p]) a := fun {a} z => ⟨z.1.1, fun m => by
      rcases List.mem_append.mp m with m | m
      · exact z.2 m
      · rw [List.mem_singleton] at m; exact z.1.2 m⟩
    induction r with
    | non => exact .non
    | bl b => exact .bl b
    | int i => exact .int i
    | str x => exact .str x
    | tup t l _ ih => exact .tup (t.map fun z h => ⟨zz z, h⟩) l ih
    | lst z h l _ ih => exact .lst (zz z) h l ih
    | dic z h e l _ ih => exact .dic (zz z) h e l ih
    | obj z h e l _ ih => exact .obj (zz z) h e l ih
    | loc h => exact .loc (by rw [List.getElem?_append_left (List.getElem?_eq_some_iff.mp h).1]; exact h)
    | scr s => exact .scr s
    | cls => exact .cls
  have cvs : ∀ {ds : List D} {vs : List V}, Reps X.K (zn (fun a => Z a ∧ a ≠ p) M') M' H' ds vs → Reps X.K (zn Z (M' ++ [p])) (M' ++ [p]) H' ds vs := fun {ds vs} r => ⟨r.1, fun i d v a b => cv (r.2 i d v a b)⟩
  refine g (M' ++ [p]) H' ?_ ?_ _ (newLoc so.sh)
  · obtain ⟨⟨t, et⟩, n, k, f⟩ := ev
    refine ⟨⟨t ++ [p], by rw [et, List.append_assoc]⟩, fun a m nm => ?_, k, f⟩
    rcases List.mem_append.mp m with m | m
    · exact n a m nm
    · rw [List.mem_singleton] at m; rw [m]; exact hp0
  · refine ⟨⟨fun q hq => (so.sh.all q hq).1, fun a m => ?_, fun q hq => ⟨(so.sh.cst q hq).1, cv (so.sh.cst q hq).2⟩, ?_, by simp [so.sh.len], fun i a d a1 a2 => ?_⟩, fun i d hd => ?_, fun i c ns es hd => ?_, so.len⟩
    · rcases List.mem_append.mp m with m | m
      · exact (so.sh.mz a m).1
      · rw [List.mem_singleton] at m; rw [m]; exact zp
    · exact List.nodup_append.mpr ⟨so.sh.nd, List.nodup_cons.mpr ⟨List.not_mem_nil, List.nodup_nil⟩, fun a m b m' z => by
        rw [List.mem_singleton] at m'
        rw [z, m'] at m
        exact np m⟩
    · by_cases hi : i < M'.length
      · rw [List.getElem?_append_left hi] at a1
        rw [List.getElem?_append_left (so.sh.len ▸ hi)] at a2
        have c := so.sh.cel i a d a1 a2
        cases d with
        | lst xs => obtain ⟨vs, q, r⟩ := c; exact ⟨vs, q, cvs r⟩
        | dic ks ds => obtain ⟨vs, q, e, r⟩ := c; exact ⟨vs, q, e, cvs r⟩
        | obj c' ns ds => obtain ⟨dx, vs, q, e, r⟩ := c; exact ⟨dx, vs, q, e, cvs r⟩
        | lck ks ds => obtain ⟨vs, olk, q, e, r⟩ := c; exact ⟨vs, olk, q, e, cvs r⟩
        | _ => exact False.elim c
      · have hi := Nat.le_of_not_lt hi
        rw [List.getElem?_append_right hi] at a1
        rw [List.getElem?_append_right (so.sh.len ▸ hi)] at a2
        rw [← so.sh.len] at a2
        cases hk : i - M'.length with
        | zero => rw [hk] at a1 a2; simp at a1 a2; subst a1; subst a2; exact ⟨us, hp, cvs rs⟩
        | succ k => rw [hk] at a1; simp at a1
    · obtain ⟨v, b1, b2⟩ := so.slots i d hd
      exact ⟨v, b1, cv b2⟩
    · obtain ⟨a, dx, b1, b2, fs, b3, b4, b5, b6⟩ := so.exc i c ns es hd
      refine ⟨a, dx, b1, b2, fs, b3, fun m => ?_, b5, cvs b6⟩
      rcases List.mem_append.mp m with m | m
      · exact b4 m
      · rw [List.mem_singleton] at m; rw [m, hp] at b3; cases b3
/-- the walk of a comprehension -/
theorem lc_ok {C : List (V × D)} {X : Cx} {W : WX} {src : MA} {T : Asg} {ts vs : List Nat} {tt : MT} {te : ME} {K : PySem.W.Frag} (sub : ∀ j ∈ ts, j ∈ vs) {Q : VK} {σ : L2.St} {H : Hp} {Z : Addr → Prop} {M : List Addr} {env : List Sl} {h : List D} {α : Type} {f : List D → List D → R α} {G : List Addr → Hp → α → Prop}
    (s : SR X.K C X.pn Z M env h σ H) (g : Got X.K C X.pn Z W σ env M H ((aLc src T tt te vs env h).bind f) G)
    (fin : ∀ M' H' h' ds us p, Evo M H M' H' → H p = none → Z p → SR X.K C X.pn (fun a => Z a ∧ a ≠ p) M' env h' σ H' → H' p = some (.lst us) → Reps X.K (zn (fun a => Z a ∧ a ≠ p) M') M' H' ds us → Got X.K C X.pn Z W σ env M H (f ds h') G → Q (.ref p) H') :
    tLc (tI X.K C X.pn W src) (tG X.K C [] T ts) (tT X.K C [] (fun _ _ _ _ => False) tt) (tE X.K C [] (fun _ _ _ _ => False) te) vs σ H Q := by
  refine ⟨Z, M, env, h, s, ?_⟩
  unfold aLc at g
  cases e : src env h with
  | bad => rw [e] at g; exact g
  | exc c ns ds h1 => rw [e] at g; exact g
  | ok items h1 =>
    rw [e] at g
    dsimp only [R.bind_ok] at g
    cases hx : noX env with
    | false => rw [hx] at g; exact False.elim g
    | true =>
      rw [hx] at g
      have g : Got X.K C X.pn Z W σ env M H ((lcGo T tt te (wipeE env vs) items [] h1).bind f) G := g
      intro M1 H1 ev s1 J Iv it iv p hp
      have zp := s1.sh.all p hp
      have np := s1.sh.out hp
      -- the zone without the new list
      have k0 : ∀ a, Z a → H1 a ≠ none → (Z a ∧ a ≠ p) := fun a z n => ⟨z, fun e => n (e ▸ hp)⟩
      have inv0 : ∀ {H' : Hp} {us : List V}, True := fun {_ _} => trivial
      refine ⟨fun i k H' => k = items.length - i ∧ i ≤ items.length ∧ ∃ M' h' acc us, Evo M1 H1 M' H' ∧ Sh X.K C (fun a => Z a ∧ a ≠ p) M' h' H' ∧ Iv (fun a => Z a ∧ a ≠ p) M' H' ∧ H' p = some (.lst us) ∧ Reps X.K (zn (fun a => Z a ∧ a ≠ p) M') M' H' acc us ∧
        SR X.K C [] (fun a => Z a ∧ a ≠ p) M' (wipeE env vs) h' (wipe σ vs) H' ∧ SR X.K C X.pn (fun a => Z a ∧ a ≠ p) M' env h' σ H' ∧ Got X.K C X.pn Z W σ env M H ((lcGo T tt te (wipeE env vs) (items.drop i) acc h').bind f) G, ?_, ?_⟩
      · have all' : ∀ q, upd H1 p (.lst []) q = none → (Z q ∧ q ≠ p) := fun q hq => by
          have hqp : q ≠ p := fun z => by rw [z, upd_same] at hq; cases hq
          rw [upd_ne hqp] at hq
          exact ⟨s1.sh.all q hq, hqp⟩
        have k1 : ∀ a, (Z a ∧ a ≠ p) ∨ (Z a ∧ H1 a ≠ none) → (Z a ∧ a ≠ p) := fun a q => q.elim (fun x => x) fun x => k0 a x.1 x.2
        -- first narrow the zone at H1, then lay
        have ev1 : Evo M1 H1 M1 (upd H1 p (.lst [])) := Evo.laid hp
        have cellsNarrow : SR X.K C X.pn (fun a => Z a ∧ a ≠ p) M1 env h1 σ (upd H1 p (.lst [])) := by
          have sl := s1.later ev1 (s1.sh.laid (o := .lst []) hp)
          -- Rep's of sl come from H1 by mono, so none of them stands at p; do it by hand
          have rr : ∀ {d : D} {v : V}, Rep X.K (zn Z M1) M1 H1 d v → Rep X.K (zn (fun a => Z a ∧ a ≠ p) M1) M1 (upd H1 p (.lst [])) d v := fun {d v} r => (r.sub k0).mono ev1
          refine ⟨⟨all', fun a m => ⟨s1.sh.mz a m, fun z => np (z ▸ m)⟩, fun q hq => ⟨(s1.sh.cst q hq).1, rr (s1.sh.cst q hq).2⟩, s1.sh.nd, s1.sh.len, fun i a d a1 a2 => ?_⟩, fun i d hd => ?_, fun i c ns ds hd => (noX_get hx hd).elim, s1.len⟩
          · have c := s1.sh.cel i a d a1 a2
            have na : a ≠ p := fun z => np (z ▸ List.mem_of_getElem? a1)
            cases d with
            | lst xs => obtain ⟨us, q, r⟩ := c; exact ⟨us, by rw [upd_ne na]; exact q, r.1, fun i d v b1 b2 => rr (r.2 i d v b1 b2)⟩
            | dic ks ds => obtain ⟨us, q, e, r⟩ := c; exact ⟨us, by rw [upd_ne na]; exact q, e, r.1, fun i d v b1 b2 => rr (r.2 i d v b1 b2)⟩
            | obj c' ns ds => obtain ⟨dx, us, q, e, r⟩ := c; exact ⟨dx, us, by rw [upd_ne na]; exact q, e, r.1, fun i d v b1 b2 => rr (r.2 i d v b1 b2)⟩
            | lck ks ds => obtain ⟨us, olk, q, e, r⟩ := c; exact ⟨us, olk, by rw [upd_ne na]; exact q, e, r.1, fun i d v b1 b2 => rr (r.2 i d v b1 b2)⟩
            | _ => exact False.elim c
          · obtain ⟨v, b1, b2⟩ := s1.slots i d hd
            exact ⟨v, b1, rr b2⟩
        refine ⟨_, rfl, Nat.zero_le _, M1, h1, [], [], ev1, cellsNarrow.sh, it.mono _ _ _ _ _ (it.zone Z _ M1 H1 iv k0) ev1, upd_same, Reps.nil, (cellsNarrow.pin hx).wiped vs, cellsNarrow, g⟩
      · rintro i k H2 ⟨rfl, hle, M2, h2, acc, us, ev2, sh2, iv2, hp2, ra2, sw2, so2, g2⟩
        by_cases hlt : i < items.length
        · refine .inr ⟨it.go i _ M2 H2 hlt iv2, fun H' => i + 1 ≤ items.length ∧ ∃ M' h' acc us, Evo M1 H1 M' H' ∧ Sh X.K C (fun a => Z a ∧ a ≠ p) M' h' H' ∧ Iv (fun a => Z a ∧ a ≠ p) M' H' ∧ H' p = some (.lst us) ∧ Reps X.K (zn (fun a => Z a ∧ a ≠ p) M') M' H' acc us ∧
            SR X.K C [] (fun a => Z a ∧ a ≠ p) M' (wipeE env vs) h' (wipe σ vs) H' ∧ SR X.K C X.pn (fun a => Z a ∧ a ≠ p) M' env h' σ H' ∧ Got X.K C X.pn Z W σ env M H ((lcGo T tt te (wipeE env vs) (items.drop (i + 1)) acc h').bind f) G, fun H' q => ⟨items.length - (i + 1), by omega, rfl, q.1, q.2⟩, fun x H3 hy => ?_⟩
          obtain ⟨ev3, sh3, r3⟩ := it.yld i _ M2 h2 H2 x H3 _ iv2 sh2 hy (List.getElem?_eq_getElem hlt)
          have iv3 := it.mono _ M2 H2 M2 H3 iv2 ev3
          have sw3 := sw2.later ev3 sh3
          refine ⟨_, M2, wipeE env vs, h2, items[i], sw3, r3, ?_⟩
          rw [List.drop_eq_getElem_cons hlt] at g2
          unfold lcGo at g2
          cases et : T (wipeE env vs) items[i] with
          | none => rw [et] at g2; exact g2
          | some env3 =>
            rw [et] at g2
            dsimp only at g2
            intro σ3 s3 l3 k3
            refine ⟨wipe_eq (by rw [l3, wipe_length]) k3 sub, ?_⟩
            refine ⟨_, M2, env3, h2, s3, ?_⟩
            cases eb : tt env3 h2 with
            | bad => rw [eb] at g2; exact g2
            | exc c ns ds h4 => rw [eb] at g2; exact False.elim g2
            | ok b h4 =>
              rw [eb] at g2
              intro M4 H4 ev4 s4
              have np4 : p ∉ M4 := fun m => by
                have q := ev4.new p m (fun m2 => by
                  obtain ⟨z, zz⟩ := sh2.mz p m2
                  exact zz rfl)
                have hp3 := ev3.keep p _ hp2 (fun m2 => (sh2.mz p m2).2 rfl)
                rw [hp3] at q; cases q
              have e24 := ev3.trans ev4
              have hp4 : H4 p = some (.lst us) := e24.keep p _ hp2 (fun m2 => (sh2.mz p m2).2 rfl)
              cases b with
              | false =>
                show _ ∧ _
                exact ⟨hlt, M4, h4, acc, us, ev2.trans e24, s4.sh, it.mono _ _ _ _ _ iv3 ev4, hp4, ra2.mono e24, sw2.later e24 s4.sh, so2.later e24 s4.sh, g2⟩
              | true =>
                show tE X.K C [] (fun _ _ _ _ => False) te σ3 H4 _
                refine ⟨_, M4, env3, h4, s4, ?_⟩
                have g2 : Got X.K C X.pn Z W σ env M H (((te env3 h4).noexc.bind fun d h2 => bif decide (acc.length < sizeLine) then lcGo T tt te (wipeE env vs) (items.drop (i + 1)) (acc ++ [d]) h2 else .bad).bind f) G := g2
                cases ed : te env3 h4 with
                | bad => rw [ed] at g2; exact g2
                | exc c ns ds h5 => rw [ed] at g2; exact False.elim g2
                | ok d h5 =>
                  rw [ed] at g2
                  intro M5 H5 ev5 s5 y ry
                  have g2 : Got X.K C X.pn Z W σ env M H ((bif decide (acc.length < sizeLine) then lcGo T tt te (wipeE env vs) (items.drop (i + 1)) (acc ++ [d]) h5 else .bad).bind f) G := g2
                  cases hl : decide (acc.length < sizeLine) with
                  | false => rw [hl] at g2; exact False.elim g2
                  | true =>
                    rw [hl] at g2
                    have e25 := e24.trans ev5
                    have hp5 : H5 p = some (.lst us) := ev5.keep p _ hp4 np4
                    have np5 : p ∉ M5 := fun m => by
                      have q := ev5.new p m np4
                      rw [hp4] at q; cases q
                    refine ⟨us, hp5, by rw [← ra2.1]; exact of_decide_eq_true hl, hlt, M5, h5, acc ++ [d], us ++ [y], ?_⟩
                    -- the write at p
                    have nz : ¬ (fun a => Z a ∧ a ≠ p) p := fun z => z.2 rfl
                    have stay : ∀ {d : D} {v : V}, Rep X.K (zn (fun a => Z a ∧ a ≠ p) M5) M5 H5 d v → Rep X.K (zn (fun a => Z a ∧ a ≠ p) M5) M5 (upd H5 p (.lst (us ++ [y]))) d v := fun {d v} r => r.poke nz hp5
                    have stays : ∀ {ds : List D} {vs : List V}, Reps X.K (zn (fun a => Z a ∧ a ≠ p) M5) M5 H5 ds vs → Reps X.K (zn (fun a => Z a ∧ a ≠ p) M5) M5 (upd H5 p (.lst (us ++ [y]))) ds vs := fun {ds vs} r => ⟨r.1, fun i d v b1 b2 => stay (r.2 i d v b1 b2)⟩
                    have sh6 : Sh X.K C (fun a => Z a ∧ a ≠ p) M5 h5 (upd H5 p (.lst (us ++ [y]))) := by
                      refine ⟨fun q hq => s5.sh.all q ?_, s5.sh.mz, fun q hq => ⟨(s5.sh.cst q hq).1, stay (s5.sh.cst q hq).2⟩, s5.sh.nd, s5.sh.len, fun i a d a1 a2 => ?_⟩
                      · by_cases z : q = p
                        · rw [z, upd_same] at hq; cases hq
                        · rw [upd_ne z] at hq; exact hq
                      · have c := s5.sh.cel i a d a1 a2
                        have na : a ≠ p := fun z => np5 (z ▸ List.mem_of_getElem? a1)
                        cases d with
                        | lst xs => obtain ⟨vs, q, r⟩ := c; exact ⟨vs, by rw [upd_ne na]; exact q, stays r⟩
                        | dic ks ds => obtain ⟨vs, q, e, r⟩ := c; exact ⟨vs, by rw [upd_ne na]; exact q, e, stays r⟩
                        | obj c' ns ds => obtain ⟨dx, vs, q, e, r⟩ := c; exact ⟨dx, vs, by rw [upd_ne na]; exact q, e, stays r⟩
                        | lck ks ds => obtain ⟨vs, olk, q, e, r⟩ := c; exact ⟨vs, olk, by rw [upd_ne na]; exact q, e, stays r⟩
                        | _ => exact False.elim c
                    have iv5 := it.mono _ _ _ _ _ iv3 (ev4.trans ev5)
                    have e15 : Evo M1 H1 M5 (upd H5 p (.lst (us ++ [y]))) := by
                      have q := ev2.trans e25
                      exact ⟨q.pre, q.new, fun a o ha n => by rw [upd_ne (ne_of_none ha hp)]; exact q.keep a o ha n, fun a o u ha => by rw [upd_ne (ne_of_none ha hp)]; exact q.fz a o u ha⟩
                    have wrote : ∀ {pn : List (Addr × Obj)} {env' : List Sl} {σ' : L2.St} {h' : List D}, noX env' = true → SR X.K C pn (fun a => Z a ∧ a ≠ p) M5 env' h5 σ' H5 → SR X.K C pn (fun a => Z a ∧ a ≠ p) M5 env' h5 σ' (upd H5 p (.lst (us ++ [y]))) := fun {pn env' σ' h'} nx s => ⟨sh6, fun i d hd => by obtain ⟨v, b1, b2⟩ := s.slots i d hd; exact ⟨v, b1, stay b2⟩, fun i c ns ds hd => (noX_get nx hd).elim, s.len⟩
                    have nw : noX (wipeE env vs) = true := by
                      clear g2 g it iv iv2 iv3 iv5 sw2 sw3 so2
                      have : ∀ vs : List Nat, noX (wipeE env vs) = true := fun vs => by
                        induction vs with
                        | nil => exact hx
                        | cons v vs ih =>
                          unfold wipeE noX
                          rw [List.all_eq_true]
                          intro x hx'
                          rcases List.mem_or_eq_of_mem_set hx' with q | q
                          · exact List.all_eq_true.mp ih x q
                          · subst q; rfl
                      exact this vs
                    have ivW : Iv (fun a => Z a ∧ a ≠ p) M5 (upd H5 p (.lst (us ++ [y]))) := it.poke _ _ _ _ _ _ iv5 nz hp5
                    exact ⟨e15, sh6, ivW, upd_same, (stays ((ra2.mono e25).append (Reps.cons ry Reps.nil))), wrote (h' := h5) nw (sw2.later e25 s5.sh), wrote (h' := h5) hx (so2.later e25 s5.sh), g2⟩
        · have ei : i = items.length := Nat.le_antisymm hle (Nat.le_of_not_lt hlt)
          subst ei
          rw [List.drop_length] at g2
          have hp0 : H p = none := by
            cases e0 : H p with
            | none => rfl
            | some o =>
              by_cases m : p ∈ M
              · exact absurd (by obtain ⟨⟨t, et⟩, _, _, _⟩ := ev; rw [et]; exact List.mem_append_left _ m) np
              · have := ev.keep p o e0 m
                rw [hp] at this; cases this
          exact .inl ⟨it.stop _ M2 H2 iv2, fin M2 H2 h2 acc us p (ev.trans ev2) hp0 zp so2 hp2 ra2 g2⟩
theorem se_lc {C : List (V × D)} {X : Cx} {W : WX} {elt tg iter : Expr} {ifs : List Expr} {scope : Scope} {own : List (Str × Nat)} {pos : Pos} {src : MA} {T : Asg} {ts : List Nat} {tt : MT} {te : ME} (hc : X.calm = true) (hN : X.N.Nodup) (hi : SI C X W tg iter src) (ok : BlkOk X.N X.env.scope scope own)
    (hg : ∀ (s : Shared) (H : Hp) (Ca : Addr) (cl : List (Str × Addr)) (fp : List Addr), SG C (X.blk s H scope (compEnvC scope cl Ca X.env) fp) tg T ts)
    (ht : ∀ (s : Shared) (H : Hp) (Ca : Addr) (cl : List (Str × Addr)) (fp : List Addr), STs C (X.blk s H scope (compEnvC scope cl Ca X.env) fp) (fun _ _ _ _ => False) ifs tt)
    (he : ∀ (s : Shared) (H : Hp) (Ca : Addr) (cl : List (Str × Addr)) (fp : List Addr), SE C (X.blk s H scope (compEnvC scope cl Ca X.env) fp) (fun _ _ _ _ => False) elt te)
    (sub : ∀ j ∈ ts, j ∈ own.map (·.2)) (hs : ∀ x, foldedSetIterable iter X.env x = pure x := by intro _; rfl) : SE C X W (.ListComp elt [⟨tg, iter, ifs, 0⟩] scope pos) (cLc src T tt te (own.map (·.2))) := by
  refine PE.weak (pe_lc (g := tG X.K C [] T ts) (tt := tT X.K C [] (fun _ _ _ _ => False) tt) (te := tE X.K C [] (fun _ _ _ _ => False) te) hc hN hi ok hg ht he hs) fun σ H Q ⟨Z, M, env, h, s, g⟩ => ?_
  refine lc_ok (K := X.K) sub s g fun M' H' h' ds us p ev hp0 zp so hp rs g' => ?_
  have np : p ∉ M' := fun m => (so.sh.mz p m).2 rfl
  have back : ∀ a, (Z a ∧ a ≠ p) → H' a ≠ none → Z a := fun a z _ => z.1
  refine g' M' H' ev (so.sub back fun q hq => (so.sh.all q hq).1) _ ?_
  have r := rs.sub back
  exact .lst ⟨zp, np⟩ hp r.1 r.2
theorem se_lcN {C : List (V × D)} {X : Cx} {W : WX} {elt tg iter : Expr} {ifs : List Expr} {scope : Scope} {own : List (Str × Nat)} {pos : Pos} {src : MA} {T : Asg} {ts : List Nat} {tt : MT} {te : ME} (hc : X.calm = true) (hN : X.N.Nodup) (hi : SI C X W tg iter src) (ok : BlkOk X.N X.env.scope scope own)
    (hg : ∀ (s : Shared) (H : Hp) (Ca : Addr) (cl : List (Str × Addr)) (fp : List Addr), SG C (X.blk s H scope (compEnvC scope cl Ca X.env) fp) tg T ts)
    (ht : ∀ (s : Shared) (H : Hp) (Ca : Addr) (cl : List (Str × Addr)) (fp : List Addr), STs C (X.blk s H scope (compEnvC scope cl Ca X.env) fp) (fun _ _ _ _ => False) ifs tt)
    (he : ∀ (s : Shared) (H : Hp) (Ca : Addr) (cl : List (Str × Addr)) (fp : List Addr), SE C (X.blk s H scope (compEnvC scope cl Ca X.env) fp) (fun _ _ _ _ => False) elt te)
    (sub : ∀ j ∈ ts, j ∈ own.map (·.2)) (hs : ∀ x, foldedSetIterable iter X.env x = pure x := by intro _; rfl) : SE C X W (.ListComp elt [⟨tg, iter, ifs, 0⟩] scope pos) (cLcN src T tt te (own.map (·.2))) := by
  refine PE.weak (pe_lc (g := tG X.K C [] T ts) (tt := tT X.K C [] (fun _ _ _ _ => False) tt) (te := tE X.K C [] (fun _ _ _ _ => False) te) hc hN hi ok hg ht he hs) fun σ H Q ⟨Z, M, env, h, s, g⟩ => ?_
  exact lc_ok (K := X.K) sub s g fun M' H' h' ds us p ev hp0 zp so hp rs g' => lcN_fin s ev hp0 zp so hp rs g'
end G

set_option Elab.async false
set_option linter.all false
set_option maxRecDepth 100000
set_option maxHeartbeats 4000000
/-! G8: operators, subscripts, built-in functions, by data. -/
namespace G
open PySem PySem.Spec PyProof.Rows L2

section
variable {K : PySem.W.Frag} {C : List (V × D)} {pn : List (Addr × Obj)} {Z : Addr → Prop} {W : WX} {σ : L2.St} {env : List Sl} {M : List Addr} {H : Hp} {h : List D} {Q : VK} {d : D} {v : V}
/-- a new object that never changes -/
theorem Got.laid {p : Addr} {o : HO} (g : Got K C pn Z W σ env M H (.ok d h) (fun M' H' d => ∀ v, Rep K (zn Z M') M' H' d v → Q v H')) (s : SR K C pn Z M env h σ H) (hp : H p = none) (r : Rep K (zn Z M) M (upd H p o) d v) : Q v (upd H p o) :=
  g M _ (Evo.laid hp) (s.later (Evo.laid hp) (s.sh.laid hp)) v r
/-- a write of a mutable object -/
theorem Got.wrote {n : Nat} {a : Addr} {o : HO} {c : D} {α : Type} {x : α} {G : List Addr → Hp → α → Prop} (g : Got K C pn Z W σ env M H (.ok x (h.set n c)) G) (s : SR K C pn Z M env h σ H) (hm : M[n]? = some a) (nf : ∀ u w, H a ≠ some (.frz u w)) (cl : Cel K (zn Z M) M (upd H a o) a c) : G M (upd H a o) x :=
  g M _ (s.sh.evw hm nf) (s.later (s.sh.evw hm nf) (s.sh.write hm nf cl))

/-! ### a list, a tuple, a dict, as it is in the state -/
def lstOf (h : List D) : D → Option (List D)
  | .lst xs => some xs
  | .scr ns => some (ns.map .int)
  | .loc n => match h[n]? with
    | some (.lst xs) => some xs
    | _ => none
  | _ => none
def tupOf : D → Option (List D)
  | .tup xs => some xs
  | _ => none
def dicOf (h : List D) : D → Option (List Key × List D)
  | .dic ks ds => some (ks, ds)
  | .loc n => match h[n]? with
    | some (.dic ks ds) => some (ks, ds)
    | some (.lck ks ds) => some (ks, ds)
    | _ => none
  | _ => none
theorem sqT_of {a : Addr} {vs : List V} (r : Rd H a (.tup vs)) : SqT K H a vs := by
  rcases r with r | ⟨o, r⟩
  · exact .inl (.inl r)
  · exact .inl (.inr ⟨o, r⟩)
theorem lstOf_rep (s : Sh K C Z M h H) {xs : List D} (e : lstOf h d = some xs) (r : Rep K (zn Z M) M H d v) : ∃ a vs, v = .ref a ∧ SqL K H a vs ∧ Reps K (zn Z M) M H xs vs := by
  cases r with
  | lst z ha l q => cases e; exact ⟨_, _, rfl, .inl (.inl ha), l, q⟩
  | scr c =>
    cases e
    refine ⟨_, _, rfl, scr_sq c, by simp, fun i d v h1 h2 => ?_⟩
    rw [List.getElem?_map] at h1 h2
    rename_i ns a
    cases hn : ns[i]? with
    | none => rw [hn] at h1; cases h1
    | some k => rw [hn] at h1 h2; cases h1; cases h2; exact .int k
  | loc hm =>
    rename_i n a
    unfold lstOf at e
    dsimp only at e
    cases hx : h[n]? with
    | none => rw [hx] at e; cases e
    | some c =>
      rw [hx] at e
      cases c with
      | lst ys =>
        cases e
        obtain ⟨vs, q, rs⟩ := s.cel n a _ hm hx
        exact ⟨a, vs, rfl, .inl (.inl q), rs⟩
      | _ => cases e
  | _ => cases e
theorem tupOf_rep {xs : List D} (e : tupOf d = some xs) (r : Rep K Z M H d v) : ∃ a vs, v = .ref a ∧ SqT K H a vs ∧ Reps K Z M H xs vs := by
  cases r with
  | tup t l q => cases e; exact ⟨_, _, rfl, t.sq, l, q⟩
  | _ => cases e
theorem dicOf_rep (s : Sh K C Z M h H) {ks : List Key} {ds : List D} (e : dicOf h d = some (ks, ds)) (r : Rep K (zn Z M) M H d v) : ∃ a kvs, v = .ref a ∧ Rd H a (.dK kvs) ∧ kvs.map (·.1) = ks ∧ Reps K (zn Z M) M H ds (kvs.map (·.2)) := by
  cases r with
  | dic z ha k l q => cases e; exact ⟨_, _, rfl, ha, k, by rw [l, List.length_map], q⟩
  | loc hm =>
    rename_i n a
    unfold dicOf at e
    dsimp only at e
    cases hx : h[n]? with
    | none => rw [hx] at e; cases e
    | some c =>
      rw [hx] at e
      cases c with
      | dic ks' ds' =>
        cases e
        obtain ⟨kvs, q, k, rs⟩ := s.cel n a _ hm hx
        exact ⟨a, kvs, rfl, .inl q, k, rs⟩
      | lck ks' ds' =>
        cases e
        obtain ⟨kvs, o, q, k, rs⟩ := s.cel n a _ hm hx
        exact ⟨a, kvs, rfl, .inr ⟨o, q⟩, k, rs⟩
      | _ => cases e
  | _ => cases e
end

/-! ### ints -/
def oI (c : Int → Int → Bool) (g : Int → Int → D) : D → D → List D → R D := fun x y h => match x, y with
  | .int i, .int j => bif c i j then .ok (g i j) h else .bad
  | _, _ => .bad
section
variable {C : List (V × D)} {K : PySem.W.Frag}
theorem ok2_I {C' : Int → Int → Prop} {gv : Int → Int → V} {c : Int → Int → Bool} {g : Int → Int → D} (hc : ∀ i j, c i j = true → C' i j) (hg : ∀ i j Z M H, Rep K Z M H (g i j) (gv i j)) : Ok2 C K (rI C' gv) (oI c g) := by
  intro pn Z W σ env M H h x y v w Q s rx ry g'
  cases rx with
  | int i =>
    cases ry with
    | int j =>
      have g' : Got K C pn Z W σ env M H (bif c i j then .ok (g i j) h else .bad) _ := g'
      cases hb : c i j with
      | false => rw [hb] at g'; exact False.elim g'
      | true => rw [hb] at g'; exact ⟨i, j, rfl, rfl, hc i j hb, Got.now g' s _ (hg _ _ _ _ _)⟩
    | _ => exact False.elim g'
  | _ => exact False.elim g'
theorem ok2_I0 {gv : Int → Int → V} {g : Int → Int → D} (hg : ∀ i j Z M H, Rep K Z M H (g i j) (gv i j)) : Ok2 C K (rI0 gv) (oI (fun _ _ => true) g) := by
  intro pn Z W σ env M H h x y v w Q s rx ry g'
  obtain ⟨i, j, e1, e2, _, q⟩ := ok2_I (C := C) (C' := fun _ _ => True) (fun _ _ _ => trivial) hg pn Z W σ env M H h x y v w Q s rx ry g'
  exact ⟨i, j, e1, e2, q⟩
def oAdd := oI (fun _ _ => true) fun i j => .int (i + j)
def oSub := oI (fun _ _ => true) fun i j => .int (i - j)
def cMul (i j : Int) : Bool := (decide (-(2 ^ 64) < i) && decide (i < 2 ^ 64)) || (decide (-(2 ^ 64) < j) && decide (j < 2 ^ 64))
def oMul := oI cMul fun i j => .int (i * j)
def cDiv (i j : Int) : Bool := decide (0 < j) && decide (j < 1073741824)
def oDiv := oI cDiv fun i j => .int (i / j)
def oMod := oI (fun _ j => decide (0 < j)) fun i j => .int (i % j)
def cPow (i j : Int) : Bool := decide (0 ≤ j) && (decide (j ≤ 1000000) && decide (i.natAbs < 2 ^ 64))
def oPow := oI cPow fun i j => .int (i ^ j.toNat)
def oLt := oI (fun _ _ => true) fun i j => .bl (decide (i < j))
def oLe := oI (fun _ _ => true) fun i j => .bl (decide (i ≤ j))
def oGt := oI (fun _ _ => true) fun i j => .bl (decide (j < i))
def oGe := oI (fun _ _ => true) fun i j => .bl (decide (j ≤ i))
theorem k_add : Ok2 C K (rI0 fun i j => .int (i + j)) oAdd := ok2_I0 fun i j _ _ _ => .int _
theorem k_sub : Ok2 C K (rI0 fun i j => .int (i - j)) oSub := ok2_I0 fun i j _ _ _ => .int _
theorem k_mul : Ok2 C K (rI CMul fun i j => .int (i * j)) oMul := ok2_I (fun i j h => by
  simp only [cMul, Bool.or_eq_true, Bool.and_eq_true, decide_eq_true_eq] at h
  exact h) fun i j _ _ _ => .int _
theorem k_div : Ok2 C K (rI CDiv fun i j => .int (i / j)) oDiv := ok2_I (fun i j h => by
  simp only [cDiv, Bool.and_eq_true, decide_eq_true_eq] at h
  exact h) fun i j _ _ _ => .int _
theorem k_mod : Ok2 C K (rI (fun _ j => 0 < j) fun i j => .int (i % j)) oMod := ok2_I (fun i j h => of_decide_eq_true h) fun i j _ _ _ => .int _
theorem k_pow : Ok2 C K (rI CPow fun i j => .int (i ^ j.toNat)) oPow := ok2_I (fun i j h => by
  simp only [cPow, Bool.and_eq_true, decide_eq_true_eq] at h
  exact h) fun i j _ _ _ => .int _
theorem k_lt : Ok2 C K (rI0 fun i j => .bl (decide (i < j))) oLt := ok2_I0 fun i j _ _ _ => .bl _
theorem k_le : Ok2 C K (rI0 fun i j => .bl (decide (i ≤ j))) oLe := ok2_I0 fun i j _ _ _ => .bl _
theorem k_gt : Ok2 C K (rI0 fun i j => .bl (decide (j < i))) oGt := ok2_I0 fun i j _ _ _ => .bl _
theorem k_ge : Ok2 C K (rI0 fun i j => .bl (decide (j ≤ i))) oGe := ok2_I0 fun i j _ _ _ => .bl _
/-! ### texts, is None -/
def oCatS : D → D → List D → R D := fun x y h => match x, y with
  | .str a, .str b => bif decide (a.length + b.length ≤ sizeLine) then .ok (.str (a ++ b)) h else .bad
  | _, _ => .bad
def inS (i j : Str) : Bool := !(Builtin.Str.occurrences j i 0 j.length 1).isEmpty
def oInS (neg : Bool) : D → D → List D → R D := fun x y h => match x, y with
  | .str a, .str b => .ok (.bl (if neg then !inS a b else inS a b)) h
  | _, _ => .bad
theorem k_inS : Ok2 C K (fun x y H Q => ∃ i j, x = .str i ∧ y = .str j ∧ Q (.bl (!(Builtin.Str.occurrences j i 0 j.length 1).isEmpty)) H) (oInS false) := by
  intro pn Z W σ env M H h x y v w Q s rx ry g
  cases rx with
  | str a =>
    cases ry with
    | str b => exact ⟨a, b, rfl, rfl, Got.now g s _ (.bl _)⟩
    | _ => exact False.elim g
  | _ => exact False.elim g
theorem k_notInS : Ok2 C K (fun x y H Q => ∃ i j, x = .str i ∧ y = .str j ∧ Q (.bl (!(!(Builtin.Str.occurrences j i 0 j.length 1).isEmpty))) H) (oInS true) := by
  intro pn Z W σ env M H h x y v w Q s rx ry g
  cases rx with
  | str a =>
    cases ry with
    | str b => exact ⟨a, b, rfl, rfl, Got.now g s _ (.bl _)⟩
    | _ => exact False.elim g
  | _ => exact False.elim g
def D.isNon : D → Bool
  | .non => true
  | _ => false
theorem isNon_rep {Z : Addr → Prop} {M : List Addr} {H : Hp} {d : D} {v : V} (r : Rep K Z M H d v) : decide (v = .non) = d.isNon := by
  cases r with
  | non => rfl
  | _ => exact decide_eq_false (fun z => nomatch z)
def oIsN (neg : Bool) : D → D → List D → R D := fun x y h => match y with
  | .non => .ok (.bl (if neg then !x.isNon else x.isNon)) h
  | _ => .bad
theorem k_isN : Ok2 C K (fun x y H Q => y = .non ∧ Q (.bl (decide (x = .non))) H) (oIsN false) := by
  intro pn Z W σ env M H h x y v w Q s rx ry g
  cases ry with
  | non =>
    refine ⟨rfl, ?_⟩
    rw [isNon_rep rx]
    exact Got.now g s _ (.bl _)
  | _ => exact False.elim g
theorem k_notN : Ok2 C K (fun x y H Q => y = .non ∧ Q (.bl (!decide (x = .non))) H) (oIsN true) := by
  intro pn Z W σ env M H h x y v w Q s rx ry g
  cases ry with
  | non =>
    refine ⟨rfl, ?_⟩
    rw [isNon_rep rx]
    exact Got.now g s _ (.bl _)
  | _ => exact False.elim g

/-! ### == of data -/
mutual
def toPy : Nat → List D → D → Option PyData
  | 0, _, _ => none
  | _ + 1, _, .non => some .none
  | _ + 1, _, .bl b => some (.bool b)
  | _ + 1, _, .int i => some (.int i)
  | _ + 1, _, .str x => some (.str x)
  | f + 1, h, .tup xs => (toPyL f h xs).map .tuple
  | f + 1, h, .lst xs => (toPyL f h xs).map .list
  | _ + 1, _, .scr ns => some (.list (ns.map .int))
  | f + 1, h, .loc n => match h[n]? with
    | some (.lst xs) => (toPyL f h xs).map .list
    | _ => none
  | _ + 1, _, .dic _ _ => none
  | _ + 1, _, .obj _ _ _ => none
  | _ + 1, _, .cls _ => none
  | _ + 1, _, .lck _ _ => none
def toPyL : Nat → List D → List D → Option (List PyData)
  | 0, _, _ => none
  | _ + 1, _, [] => some []
  | f + 1, h, d :: ds => match toPy f h d with
    | some p => (toPyL f h ds).map (p :: ·)
    | none => none
end
section
variable {Z : Addr → Prop} {M : List Addr} {H : Hp} {h : List D}
theorem dpAll_ints : ∀ ns : List Int, DpAll K H (ns.map V.int) (ns.map PyData.int)
  | [] => .nil
  | n :: ns => .cons (.int n) (dpAll_ints ns)
mutual
theorem toPy_dp (s : Sh K C Z M h H) : ∀ {f : Nat} {d : D} {v : V} {p : PyData}, toPy f h d = some p → Rep K (zn Z M) M H d v → Dp K H v p
  | 0, d, v, p, e, r => by rw [toPy] at e; cases e
  | f + 1, d, v, p, e, r => by
    cases r with
    | non => rw [toPy] at e; cases e; exact .non
    | bl b => rw [toPy] at e; cases e; exact .bl b
    | int i => rw [toPy] at e; cases e; exact .int i
    | str x => rw [toPy] at e; cases e; exact .str x
    | @tup xs vs a t l q =>
      rw [toPy] at e
      cases hx : toPyL f h xs with
      | none => rw [hx] at e; cases e
      | some ps => rw [hx] at e; cases e; exact .tup t.sq (toPyL_dp s hx ⟨l, q⟩)
    | @lst xs vs a z ha l q =>
      rw [toPy] at e
      cases hx : toPyL f h xs with
      | none => rw [hx] at e; cases e
      | some ps => rw [hx] at e; cases e; exact .lst (.inl (.inl ha)) (toPyL_dp s hx ⟨l, q⟩)
    | scr c => rw [toPy] at e; cases e; exact .lst (scr_sq c) (dpAll_ints _)
    | @loc n a hm =>
      rw [toPy] at e
      cases hn : h[n]? with
      | none => rw [hn] at e; cases e
      | some c =>
        rw [hn] at e
        cases c with
        | lst xs =>
          dsimp only at e
          obtain ⟨vs, q, rs⟩ := s.cel n a _ hm hn
          cases hx : toPyL f h xs with
          | none => rw [hx] at e; cases e
          | some ps => rw [hx] at e; cases e; exact .lst (.inl (.inl q)) (toPyL_dp s hx rs)
        | _ => cases e
    | dic z ha k l q => rw [toPy] at e; cases e
    | obj z ha k l q => rw [toPy] at e; cases e
    | cls => rw [toPy] at e; cases e
theorem toPyL_dp (s : Sh K C Z M h H) : ∀ {f : Nat} {ds : List D} {vs : List V} {ps : List PyData}, toPyL f h ds = some ps → Reps K (zn Z M) M H ds vs → DpAll K H vs ps
  | 0, ds, vs, ps, e, r => by cases ds <;> (rw [toPyL] at e; cases e)
  | f + 1, [], vs, ps, e, r => by
    rw [toPyL] at e; cases e
    rw [r.cases_nil]
    exact .nil
  | f + 1, d :: ds, vs, ps, e, r => by
    rw [toPyL] at e
    obtain ⟨v, ws, rfl, r1, r2⟩ := r.cases_cons
    cases hd : toPy f h d with
    | none => rw [hd] at e; cases e
    | some p =>
      rw [hd] at e
      cases hx : toPyL f h ds with
      | none => rw [hx] at e; cases e
      | some qs => rw [hx] at e; cases e; exact .cons (toPy_dp s hd r1) (toPyL_dp s hx r2)
end
end
/-- the fuel of toPy -/
abbrev pyF : Nat := 4000
def oEqD (neg : Bool) (x y : D) (h : List D) : R D := match toPy pyF h x, toPy pyF h y with
  | some p, some q => bif SeqAt.shaped p && SeqAt.shaped q then .ok (.bl (if neg then !PyData.eqv p q else PyData.eqv p q)) h else .bad
  | _, _ => .bad
def oEq (neg : Bool) : D → D → List D → R D := fun x y h => match x, y with
  | .str a, .str b => .ok (.bl (if neg then !decide (a = b) else decide (a = b))) h
  | .int a, .int b => .ok (.bl (if neg then !decide (a = b) else decide (a = b))) h
  | .bl a, .bl b => .ok (.bl (if neg then !decide (a = b) else decide (a = b))) h
  | x, y => oEqD neg x y h
abbrev rEqA (K : PySem.W.Frag) : R2 := fun x y H Q => rEq x y H Q ∨ rEqD K x y H Q
abbrev rNeA (K : PySem.W.Frag) : R2 := fun x y H Q => rNe x y H Q ∨ rNeD K x y H Q
theorem op_eqA {X : Cx} (hu : X.A.units + 64 < cLine) : OpR X (compareOp .Eq) (rEqA X.K) := op_eq.or (op_eqD hu)
theorem op_neA {X : Cx} (hu : X.A.units + 64 < cLine) : OpR X (compareOp .NotEq) (rNeA X.K) := op_ne.or (op_neD hu)
theorem k_eqD {pn : List (Addr × Obj)} {Z : Addr → Prop} {W : WX} {σ : L2.St} {env : List Sl} {M : List Addr} {H : Hp} {h : List D} {x y : D} {v w : V} {Q : VK} (neg : Bool) (s : SR K C pn Z M env h σ H) (rx : Rep K (zn Z M) M H x v) (ry : Rep K (zn Z M) M H y w)
    (g : Got K C pn Z W σ env M H (oEqD neg x y h) (fun M' H' d => ∀ v, Rep K (zn Z M') M' H' d v → Q v H')) : ∃ d e, Dp K H v d ∧ Dp K H w e ∧ SeqAt.shaped d = true ∧ SeqAt.shaped e = true ∧ Q (.bl (if neg then !PyData.eqv d e else PyData.eqv d e)) H := by
  unfold oEqD at g
  cases e1 : toPy pyF h x with
  | none => rw [e1] at g; exact False.elim g
  | some p =>
    cases e2 : toPy pyF h y with
    | none => rw [e1, e2] at g; exact False.elim g
    | some q =>
      rw [e1, e2] at g
      dsimp only at g
      cases hb : SeqAt.shaped p && SeqAt.shaped q with
      | false => rw [hb] at g; exact False.elim g
      | true =>
        rw [hb] at g
        obtain ⟨b1, b2⟩ := Bool.and_eq_true_iff.mp hb
        exact ⟨p, q, toPy_dp s.sh e1 rx, toPy_dp s.sh e2 ry, b1, b2, Got.now g s _ (.bl _)⟩
theorem k_eq : Ok2 C K (rEqA K) (oEq false) := by
  intro pn Z W σ env M H h x y v w Q s rx ry g
  have rest : Got K C pn Z W σ env M H (oEqD false x y h) (fun M' H' d => ∀ v, Rep K (zn Z M') M' H' d v → Q v H') → rEqA K v w H Q := fun g => .inr (k_eqD false s rx ry g)
  cases x with
  | str a =>
    cases y with
    | str b => cases rx; cases ry; exact .inl ⟨rfl, Got.now g s _ (by rw [show decide (V.str a = V.str b) = decide (a = b) from by simp]; exact .bl _)⟩
    | _ => exact rest g
  | int a =>
    cases y with
    | int b => cases rx; cases ry; exact .inl ⟨rfl, Got.now g s _ (by rw [show decide (V.int a = V.int b) = decide (a = b) from by simp]; exact .bl _)⟩
    | _ => exact rest g
  | bl a =>
    cases y with
    | bl b => cases rx; cases ry; exact .inl ⟨rfl, Got.now g s _ (by rw [show decide (V.bl a = V.bl b) = decide (a = b) from by simp]; exact .bl _)⟩
    | _ => exact rest g
  | _ => exact rest g
theorem k_ne : Ok2 C K (rNeA K) (oEq true) := by
  intro pn Z W σ env M H h x y v w Q s rx ry g
  have rest : Got K C pn Z W σ env M H (oEqD true x y h) (fun M' H' d => ∀ v, Rep K (zn Z M') M' H' d v → Q v H') → rNeA K v w H Q := fun g => .inr (k_eqD true s rx ry g)
  cases x with
  | str a =>
    cases y with
    | str b => cases rx; cases ry; exact .inl ⟨rfl, Got.now g s _ (by rw [show decide (V.str a = V.str b) = decide (a = b) from by simp]; exact .bl _)⟩
    | _ => exact rest g
  | int a =>
    cases y with
    | int b => cases rx; cases ry; exact .inl ⟨rfl, Got.now g s _ (by rw [show decide (V.int a = V.int b) = decide (a = b) from by simp]; exact .bl _)⟩
    | _ => exact rest g
  | bl a =>
    cases y with
    | bl b => cases rx; cases ry; exact .inl ⟨rfl, Got.now g s _ (by rw [show decide (V.bl a = V.bl b) = decide (a = b) from by simp]; exact .bl _)⟩
    | _ => exact rest g
  | _ => exact rest g
end
end G

set_option Elab.async false
set_option linter.all false
set_option maxRecDepth 100000
set_option maxHeartbeats 4000000
/-! G9: +, in, subscripts, slices, len, of any data; calls of built-in functions; isinstance; repr. -/
namespace G
open PySem PySem.Spec PyProof.Rows L2

section
variable {K : PySem.W.Frag} {C : List (V × D)} {pn : List (Addr × Obj)} {Z : Addr → Prop} {W : WX} {σ : L2.St} {env : List Sl} {M : List Addr} {H : Hp} {h : List D} {Q : VK} {d : D} {v : V}
/-! ### a list that is no constant -/
def lstH (h : List D) : D → Option (List D)
  | .lst xs => some xs
  | .loc n => match h[n]? with
    | some (.lst xs) => some xs
    | _ => none
  | _ => none
theorem lstH_rep (s : Sh K C Z M h H) {xs : List D} (e : lstH h d = some xs) (r : Rep K (zn Z M) M H d v) : ∃ a vs, v = .ref a ∧ H a = some (.lst vs) ∧ Reps K (zn Z M) M H xs vs := by
  cases r with
  | lst z ha l q => cases e; exact ⟨_, _, rfl, ha, l, q⟩
  | loc hm =>
    rename_i n a
    unfold lstH at e
    dsimp only at e
    cases hx : h[n]? with
    | none => rw [hx] at e; cases e
    | some c =>
      rw [hx] at e
      cases c with
      | lst ys =>
        cases e
        obtain ⟨vs, q, rs⟩ := s.cel n a _ hm hx
        exact ⟨a, vs, rfl, q, rs⟩
      | _ => cases e
  | _ => cases e
/-! ### tables -/
def kget : List Key → List D → Key → Option D
  | k :: ks, d :: ds, j => bif decide (k = j) then some d else kget ks ds j
  | _, _, _ => none
def krep (ks : List Key) (ds : List D) (j : Key) (x : D) : List D := List.zipWith (fun k d => if k = j then x else d) ks ds
def kput (ks : List Key) (ds : List D) (j : Key) (x : D) : List Key × List D := if (ks.any fun k => decide (k = j)) = true then (ks, krep ks ds j x) else (ks ++ [j], ds ++ [x])
theorem kget_some {k : Key} : ∀ {kvs : List (Key × V)} {ds : List D}, Reps K Z M H ds (kvs.map (·.2)) → kget (kvs.map (·.1)) ds k = some d → ∃ v, valV kvs k = some v ∧ Rep K Z M H d v
  | [], ds, r, e => by rw [Reps.cases_nil' r] at e; cases e
  | p :: kvs, ds, r, e => by
    cases ds with
    | nil => have := r.1; simp at this
    | cons x ds =>
      obtain ⟨v, ws, e2, q1, q2⟩ := r.cases_cons
      rw [List.map_cons] at e2
      cases e2
      rw [List.map_cons] at e
      unfold kget at e
      by_cases hk : p.1 = k
      · rw [decide_eq_true hk, cond_true] at e
        cases e
        exact ⟨p.2, valV_pos hk, q1⟩
      · rw [decide_eq_false hk, cond_false] at e
        obtain ⟨v, h1, h2⟩ := kget_some q2 e
        exact ⟨v, by rw [valV_neg hk]; exact h1, h2⟩
theorem kget_none {k : Key} : ∀ {kvs : List (Key × V)} {ds : List D}, Reps K Z M H ds (kvs.map (·.2)) → kget (kvs.map (·.1)) ds k = none → valV kvs k = none
  | [], ds, r, e => valV_nil
  | p :: kvs, ds, r, e => by
    cases ds with
    | nil => have := r.1; simp at this
    | cons x ds =>
      obtain ⟨v, ws, e2, q1, q2⟩ := r.cases_cons
      rw [List.map_cons] at e2
      cases e2
      rw [List.map_cons] at e
      unfold kget at e
      by_cases hk : p.1 = k
      · rw [decide_eq_true hk, cond_true] at e; cases e
      · rw [decide_eq_false hk, cond_false] at e
        rw [valV_neg hk]
        exact kget_none q2 e
theorem krep_ok {k : Key} {x : D} {y : V} (ry : Rep K Z M H x y) : ∀ {kvs : List (Key × V)} {ds : List D}, Reps K Z M H ds (kvs.map (·.2)) → Reps K Z M H (krep (kvs.map (·.1)) ds k x) ((kvs.map fun kv => if kv.1 = k then (kv.1, y) else kv).map (·.2))
  | [], ds, r => by rw [Reps.cases_nil' r]; exact Reps.nil
  | p :: kvs, ds, r => by
    cases ds with
    | nil => have := r.1; simp at this
    | cons z ds =>
      obtain ⟨v, ws, e2, q1, q2⟩ := r.cases_cons
      rw [List.map_cons] at e2
      cases e2
      have ih := krep_ok (k := k) ry q2
      unfold krep at ih ⊢
      rw [List.map_cons, List.zipWith_cons_cons, List.map_cons, List.map_cons]
      refine Reps.cons ?_ ih
      by_cases hk : p.1 = k
      · rw [if_pos hk, if_pos hk]; exact ry
      · rw [if_neg hk, if_neg hk]; exact q1
theorem kput_ok {k : Key} {x : D} {y : V} (ry : Rep K Z M H x y) {kvs : List (Key × V)} {ds : List D} (r : Reps K Z M H ds (kvs.map (·.2))) : (putK kvs k y).map (·.1) = (kput (kvs.map (·.1)) ds k x).1 ∧ Reps K Z M H (kput (kvs.map (·.1)) ds k x).2 ((putK kvs k y).map (·.2)) := by
  unfold kput putK
  have e : ((kvs.map (·.1)).any fun j => decide (j = k)) = kvs.any fun kv => decide (kv.1 = k) := by rw [List.any_map]; rfl
  rw [e]
  by_cases ha : (kvs.any fun kv => decide (kv.1 = k)) = true
  · rw [if_pos ha, if_pos ha]
    refine ⟨?_, krep_ok ry r⟩
    rw [List.map_map]
    refine List.map_congr_left fun p _ => ?_
    show (if p.1 = k then (p.1, y) else p).1 = p.1
    split <;> rfl
  · rw [if_neg ha, if_neg ha]
    refine ⟨by rw [List.map_append]; rfl, ?_⟩
    rw [List.map_append]
    exact r.append (Reps.cons ry Reps.nil)
def keyOf : D → Option Key
  | .int i => some (.inl i)
  | .str x => some (.inr x)
  | _ => none
theorem keyOf_rep {k : Key} (e : keyOf d = some k) (r : Rep K Z M H d v) : v = kV k := by
  cases r with
  | int i => cases e; rfl
  | str x => cases e; rfl
  | _ => cases e
/-! ### flat data -/
def D.fl : D → Bool
  | .non | .bl _ | .int _ | .str _ => true
  | _ => false
def toV : D → V
  | .bl b => .bl b
  | .int i => .int i
  | .str x => .str x
  | _ => .non
theorem fl_rep (f : d.fl = true) (r : Rep K Z M H d v) : v = toV d ∧ flatV v = true := by
  cases r with
  | non => exact ⟨rfl, rfl⟩
  | bl b => exact ⟨rfl, rfl⟩
  | int i => exact ⟨rfl, rfl⟩
  | str x => exact ⟨rfl, rfl⟩
  | _ => cases f
theorem fl_reps : ∀ {ds : List D} {vs : List V}, ds.all D.fl = true → Reps K Z M H ds vs → vs = ds.map toV ∧ vs.all flatV = true
  | [], vs, f, r => by rw [r.cases_nil]; exact ⟨rfl, rfl⟩
  | d :: ds, vs, f, r => by
    obtain ⟨v, ws, rfl, q1, q2⟩ := r.cases_cons
    rw [List.all_cons, Bool.and_eq_true] at f
    obtain ⟨h1, h2⟩ := fl_rep f.1 q1
    obtain ⟨h3, h4⟩ := fl_reps f.2 q2
    exact ⟨by rw [h1, h3, List.map_cons], by rw [List.all_cons, h2, h4]; rfl⟩
theorem atI_rep {xs : List D} {vs : List V} {i : Int} (r : Reps K Z M H xs vs) (e : atI xs i = some d) : ∃ v, atI vs i = some v ∧ Rep K Z M H d v := by
  unfold atI at e ⊢
  rw [← r.1]
  cases hx : ixN xs.length i with
  | none => rw [hx] at e; cases e
  | some j =>
    rw [hx] at e
    exact r.get e
end

/-! ### + -/
def oPlus : D → D → List D → R D := fun x y h => match x, y with
  | .int i, .int j => .ok (.int (i + j)) h
  | .str a, .str b => bif decide (a.length + b.length ≤ sizeLine) then .ok (.str (a ++ b)) h else .bad
  | .tup xs, .tup ys => bif decide (xs.length + ys.length ≤ sizeLine) then .ok (.tup (xs ++ ys)) h else .bad
  | x, y => match lstH h x, lstH h y with
    | some xs, some ys => bif decide (xs.length + ys.length ≤ sizeLine) then .ok (.lst (xs ++ ys)) h else .bad
    | _, _ => .bad
abbrev rPlus (K : PySem.W.Frag) : R2 := fun x y H Q => rI0 (fun i j => .int (i + j)) x y H Q ∨ (∃ i j, x = .str i ∧ y = .str j ∧ i.length + j.length ≤ sizeLine ∧ Q (.str (i ++ j)) H) ∨ rCatA K x y H Q ∨ rCat x y H Q
theorem op_plus {X : Cx} : OpR X (binaryOp .Add) (rPlus X.K) := op_add.or (op_add_str.or (op_catA.or op_cat))
section
variable {K : PySem.W.Frag} {C : List (V × D)}
theorem k_plusL {pn : List (Addr × Obj)} {Z : Addr → Prop} {W : WX} {σ : L2.St} {env : List Sl} {M : List Addr} {H : Hp} {h : List D} {x y : D} {v w : V} {Q : VK} (s : SR K C pn Z M env h σ H) (rx : Rep K (zn Z M) M H x v) (ry : Rep K (zn Z M) M H y w)
    (g : Got K C pn Z W σ env M H (match lstH h x, lstH h y with
    | some xs, some ys => bif decide (xs.length + ys.length ≤ sizeLine) then .ok (.lst (xs ++ ys)) h else .bad
    | _, _ => .bad) (fun M' H' d => ∀ v, Rep K (zn Z M') M' H' d v → Q v H')) : rCat v w H Q := by
  cases e1 : lstH h x with
  | none => rw [e1] at g; exact False.elim g
  | some xs =>
    cases e2 : lstH h y with
    | none => rw [e1, e2] at g; exact False.elim g
    | some ys =>
      rw [e1, e2] at g
      have g : Got K C pn Z W σ env M H (bif decide (xs.length + ys.length ≤ sizeLine) then R.ok (D.lst (xs ++ ys)) h else .bad) _ := g
      cases hb : decide (xs.length + ys.length ≤ sizeLine) with
      | false => rw [hb] at g; exact False.elim g
      | true =>
        rw [hb] at g
        obtain ⟨a, vs, rfl, ha, r1⟩ := lstH_rep s.sh e1 rx
        obtain ⟨b, ws, rfl, hb', r2⟩ := lstH_rep s.sh e2 ry
        exact ⟨a, b, vs, ws, rfl, rfl, ha, hb', by rw [← r1.1, ← r2.1]; exact of_decide_eq_true hb, fun p hp => Got.laid g s hp (newLst s.sh (r1.append r2) hp)⟩
theorem k_plus : Ok2 C K (rPlus K) oPlus := by
  intro pn Z W σ env M H h x y v w Q s rx ry g
  cases x with
  | int i =>
    cases y with
    | int j => cases rx; cases ry; exact .inl ⟨i, j, rfl, rfl, Got.now g s _ (.int _)⟩
    | _ => exact .inr (.inr (.inr (k_plusL s rx ry g)))
  | str a =>
    cases y with
    | str b =>
      cases rx; cases ry
      have g : Got K C pn Z W σ env M H (bif decide (a.length + b.length ≤ sizeLine) then R.ok (D.str (a ++ b)) h else .bad) _ := g
      cases hb : decide (a.length + b.length ≤ sizeLine) with
      | false => rw [hb] at g; exact False.elim g
      | true => rw [hb] at g; exact .inr (.inl ⟨a, b, rfl, rfl, of_decide_eq_true hb, Got.now g s _ (.str _)⟩)
    | _ => exact .inr (.inr (.inr (k_plusL s rx ry g)))
  | tup xs =>
    cases y with
    | tup ys =>
      have g : Got K C pn Z W σ env M H (bif decide (xs.length + ys.length ≤ sizeLine) then R.ok (D.tup (xs ++ ys)) h else .bad) _ := g
      cases hb : decide (xs.length + ys.length ≤ sizeLine) with
      | false => rw [hb] at g; exact False.elim g
      | true =>
        rw [hb] at g
        obtain ⟨a, vs, rfl, ha, r1⟩ := tupOf_rep (d := .tup xs) rfl rx
        obtain ⟨b, ws, rfl, hb', r2⟩ := tupOf_rep (d := .tup ys) rfl ry
        refine .inr (.inr (.inl ⟨a, b, vs, ws, rfl, rfl, ha, hb', by rw [← r1.1, ← r2.1]; exact of_decide_eq_true hb, fun e => ?_, fun _ e => ?_, fun _ _ p hp => Got.laid g s hp (newTup s.sh (r1.append r2) hp)⟩))
        · subst e
          obtain rfl := Reps.cases_nil' r1
          exact Got.now g s _ (by rw [List.nil_append]; exact ry)
        · subst e
          obtain rfl := Reps.cases_nil' r2
          exact Got.now g s _ (by rw [List.append_nil]; exact rx)
    | _ => exact .inr (.inr (.inr (k_plusL s rx ry g)))
  | _ => exact .inr (.inr (.inr (k_plusL s rx ry g)))
end

/-! ### in -/
def seqOf (h : List D) (d : D) : Option (List D) := match lstOf h d with
  | some xs => some xs
  | none => tupOf d
theorem seqOf_rep {K : PySem.W.Frag} {C : List (V × D)} {Z : Addr → Prop} {M : List Addr} {H : Hp} {h : List D} {d : D} {v : V} (s : Sh K C Z M h H) {xs : List D} (e : seqOf h d = some xs) (r : Rep K (zn Z M) M H d v) : ∃ a vs, v = .ref a ∧ (SqL K H a vs ∨ SqT K H a vs) ∧ Reps K (zn Z M) M H xs vs := by
  unfold seqOf at e
  cases hx : lstOf h d with
  | some ys =>
    rw [hx] at e; cases e
    obtain ⟨a, vs, h1, h2, h3⟩ := lstOf_rep s hx r
    exact ⟨a, vs, h1, .inl h2, h3⟩
  | none =>
    rw [hx] at e
    obtain ⟨a, vs, h1, h2, h3⟩ := tupOf_rep e r
    exact ⟨a, vs, h1, .inr h2, h3⟩
def inD (x : D) (xs : List D) : Bool := inV (toV x) (xs.map toV)
def oIn (neg : Bool) : D → D → List D → R D := fun x y h => match y with
  | .str b => (match x with
    | .str a => .ok (.bl (if neg then !inS a b else inS a b)) h
    | _ => .bad)
  | y => match dicOf h y with
    | some (ks, ds) => (match keyOf x with
      | some k => .ok (.bl (if neg then !(kget ks ds k).isSome else (kget ks ds k).isSome)) h
      | none => .bad)
    | none => match seqOf h y with
      | some xs => bif x.fl && xs.all D.fl then .ok (.bl (if neg then !inD x xs else inD x xs)) h else .bad
      | none => .bad
def rDin (neg : Bool) : R2 := fun x y H Q => ∃ a o, y = .ref a ∧ DGet H a x o ∧ Q (.bl (if neg then !o.isSome else o.isSome)) H
theorem op_din {X : Cx} (hu : X.A.units + 1 < cLine) : OpR X (compareOp .In) (rDin false) := by
  intro pins s σ H x y v u Q I rx ry h
  obtain ⟨a, o, rfl, g, q⟩ := h
  cases ry
  exact d_in hu I g rx fun s3 I3 => ⟨.bl o.isSome, H, I3, rfl, q⟩
theorem op_dnotin {X : Cx} (hu : X.A.units + 1 < cLine) : OpR X (compareOp .NotIn) (rDin true) := by
  intro pins s σ H x y v u Q I rx ry h
  obtain ⟨a, o, rfl, g, q⟩ := h
  cases ry
  exact d_notIn hu I g rx fun s3 I3 => ⟨.bl (!o.isSome), H, I3, rfl, q⟩
abbrev rInA (K : PySem.W.Frag) (neg : Bool) : R2 := fun x y H Q => (∃ i j, x = .str i ∧ y = .str j ∧ Q (.bl (if neg then !inS i j else inS i j)) H) ∨ rDin neg x y H Q ∨ rIn K neg x y H Q
theorem op_inA {X : Cx} (hu : X.A.units + 1 < cLine) : OpR X (compareOp .In) (rInA X.K false) := OpR.or op_in_str ((op_din hu).or op_in_seq)
theorem op_notinA {X : Cx} (hu : X.A.units + 1 < cLine) : OpR X (compareOp .NotIn) (rInA X.K true) := OpR.or op_notin_str ((op_dnotin hu).or op_notIn_seq)
section
variable {K : PySem.W.Frag} {C : List (V × D)}
theorem dget_rep {Z : Addr → Prop} {M : List Addr} {H : Hp} {kvs : List (Key × V)} {ds : List D} {a : Addr} {k : Key} (hr : Rd H a (.dK kvs)) : DGet H a (kV k) (valV kvs k) := .inl ⟨kvs, k, hr, rfl, rfl⟩
theorem kget_isSome {Z : Addr → Prop} {M : List Addr} {H : Hp} {kvs : List (Key × V)} {ds : List D} {k : Key} (r : Reps K Z M H ds (kvs.map (·.2))) : (valV kvs k).isSome = (kget (kvs.map (·.1)) ds k).isSome := by
  cases e : kget (kvs.map (·.1)) ds k with
  | none => rw [kget_none r e]; rfl
  | some d =>
    obtain ⟨v, h1, _⟩ := kget_some r e
    rw [h1]; rfl
theorem k_in (neg : Bool) : Ok2 C K (rInA K neg) (oIn neg) := by
  intro pn Z W σ env M H h x y v w Q s rx ry g
  have rest : Got K C pn Z W σ env M H (match dicOf h y with
    | some (ks, ds) => (match keyOf x with
      | some k => .ok (.bl (if neg then !(kget ks ds k).isSome else (kget ks ds k).isSome)) h
      | none => .bad)
    | none => match seqOf h y with
      | some xs => bif x.fl && xs.all D.fl then .ok (.bl (if neg then !inD x xs else inD x xs)) h else .bad
      | none => .bad) (fun M' H' d => ∀ v, Rep K (zn Z M') M' H' d v → Q v H') → rInA K neg v w H Q := fun g => by
    cases e1 : dicOf h y with
    | some p =>
      obtain ⟨ks, ds⟩ := p
      rw [e1] at g
      dsimp only at g
      obtain ⟨a, kvs, rfl, hr, rfl, rs⟩ := dicOf_rep s.sh e1 ry
      cases e2 : keyOf x with
      | none => rw [e2] at g; exact False.elim g
      | some k =>
        rw [e2] at g
        obtain rfl := keyOf_rep e2 rx
        refine .inr (.inl ⟨a, _, rfl, .inl ⟨kvs, k, hr, rfl, rfl⟩, ?_⟩)
        rw [kget_isSome rs]
        exact Got.now g s _ (.bl _)
    | none =>
      rw [e1] at g
      dsimp only at g
      cases e2 : seqOf h y with
      | none => rw [e2] at g; exact False.elim g
      | some xs =>
        rw [e2] at g
        dsimp only at g
        obtain ⟨a, vs, rfl, hr, rs⟩ := seqOf_rep s.sh e2 ry
        cases hb : x.fl && xs.all D.fl with
        | false => rw [hb] at g; exact False.elim g
        | true =>
          rw [hb] at g
          obtain ⟨b1, b2⟩ := Bool.and_eq_true_iff.mp hb
          obtain ⟨e3, f1⟩ := fl_rep b1 rx
          obtain ⟨e4, f2⟩ := fl_reps b2 rs
          refine .inr (.inr ⟨a, vs, rfl, hr, f1, f2, ?_⟩)
          rw [e3, e4]
          exact Got.now g s _ (.bl _)
  cases y with
  | str b =>
    cases x with
    | str a => cases rx; cases ry; exact .inl ⟨a, b, rfl, rfl, Got.now g s _ (.bl _)⟩
    | _ => exact False.elim g
  | _ => exact rest g
end
end G

set_option Elab.async false
set_option linter.all false
set_option maxRecDepth 100000
set_option maxHeartbeats 4000000
/-! G10: subscripts, slices, stores, built-in functions, isinstance, repr. -/
namespace G
open PySem PySem.Spec PyProof.Rows L2

/-! ### subscripts -/
def oIx : D → D → List D → R D := fun x y h => match dicOf h x with
  | some (ks, ds) => (match keyOf y with
    | some k => (match kget ks ds k with
      | some d => .ok d h
      | none => .bad)
    | none => .bad)
  | none => match y with
    | .int i => (match x with
      | .str z => bif decide (z.length ≤ sizeLine) then (match atI z.cps.toList i with
        | some c => .ok (.str ⟨#[c]⟩) h
        | none => .bad) else .bad
      | x => match seqOf h x with
        | some xs => (match atI xs i with
          | some d => .ok d h
          | none => .bad)
        | none => .bad)
    | _ => .bad
def rIxD : R2 := fun x y H Q => ∃ a v, x = .ref a ∧ DGet H a y (some v) ∧ Q v H
theorem ix_dict {X : Cx} (hu : X.A.units + 1 < cLine) : IxR X rIxD := by
  intro value slice pins s σ H x y v u Q I rx ry h hs
  obtain ⟨a, z, rfl, g, q⟩ := h
  cases rx
  exact tail_any (dict_typeIs I g) PySem.F.slot_dict_getitem.lookup (d_getItem hu I g ry fun w' s3 I3 rw' => ⟨z, H, I3, rw', q⟩) hs
abbrev rIxA (K : PySem.W.Frag) : R2 := fun x y H Q => rIxD x y H Q ∨ rIx K x y H Q
theorem ix_any {X : Cx} (hu : X.A.units + 1 < cLine) : IxR X (rIxA X.K) := (ix_dict hu).or ix_seq
section
variable {K : PySem.W.Frag} {C : List (V × D)}
theorem k_ix : Ok2 C K (rIxA K) oIx := by
  intro pn Z W σ env M H h x y v w Q s rx ry g
  unfold oIx at g
  cases e1 : dicOf h x with
  | some p =>
    obtain ⟨ks, ds⟩ := p
    rw [e1] at g
    dsimp only at g
    obtain ⟨a, kvs, rfl, hr, rfl, rs⟩ := dicOf_rep s.sh e1 rx
    cases e2 : keyOf y with
    | none => rw [e2] at g; exact False.elim g
    | some k =>
      rw [e2] at g
      dsimp only at g
      obtain rfl := keyOf_rep e2 ry
      cases e3 : kget (kvs.map (·.1)) ds k with
      | none => rw [e3] at g; exact False.elim g
      | some d =>
        rw [e3] at g
        obtain ⟨z, h1, h2⟩ := kget_some rs e3
        exact .inl ⟨a, z, rfl, .inl ⟨kvs, k, hr, rfl, h1.symm⟩, Got.now g s _ h2⟩
  | none =>
    rw [e1] at g
    dsimp only at g
    cases y with
    | int i =>
      cases ry
      have sq : Got K C pn Z W σ env M H (match seqOf h x with
        | some xs => (match atI xs i with
          | some d => R.ok d h
          | none => .bad)
        | none => .bad) (fun M' H' d => ∀ v, Rep K (zn Z M') M' H' d v → Q v H') → rIxA K v (.int i) H Q := fun g => by
        cases e2 : seqOf h x with
        | none => rw [e2] at g; exact False.elim g
        | some xs =>
          rw [e2] at g
          dsimp only at g
          obtain ⟨a, vs, rfl, hr, rs⟩ := seqOf_rep s.sh e2 rx
          cases e3 : atI xs i with
          | none => rw [e3] at g; exact False.elim g
          | some d =>
            rw [e3] at g
            obtain ⟨z, h1, h2⟩ := atI_rep rs e3
            rcases hr with hr | hr
            · exact .inr (.inl ⟨a, vs, i, z, rfl, rfl, hr, h1, Got.now g s _ h2⟩)
            · exact .inr (.inr (.inl ⟨a, vs, i, z, rfl, rfl, hr, h1, Got.now g s _ h2⟩))
      cases x with
      | str z =>
        cases rx
        dsimp only at g
        cases hb : decide (z.length ≤ sizeLine) with
        | false => rw [hb] at g; exact False.elim g
        | true =>
          rw [hb] at g
          dsimp only [cond_true] at g
          cases e3 : atI z.cps.toList i with
          | none => rw [e3] at g; exact False.elim g
          | some c =>
            rw [e3] at g
            exact .inr (.inr (.inr ⟨z, i, c, rfl, rfl, of_decide_eq_true hb, e3, Got.now g s _ (.str _)⟩))
      | _ => exact sq g
    | _ => exact False.elim g
end
section
variable {C : List (V × D)} {X : Cx} {W : WX} {pos : Pos}
theorem se_ix {a b : Expr} {ma mb : ME} (hu : X.A.units + 1 < cLine) (ha : SE C X W a ma) (hb : SE C X W b mb) (hs : PlainIx b := by intro _ _; rfl) : SE C X W (.Subscript a b pos) (c2 oIx ma mb) :=
  PE.weak (pe_ix (ix_any hu) ha hb hs) fun σ H Q t => t2_of k_ix t
/-! ### slices -/
abbrev MO := Mn (Option Int)
def tO (K : PySem.W.Frag) (C : List (V × D)) (pn : List (Addr × Obj)) (W : WX) (m : MO) : TO := fun σ H Q => ∃ Z M env h, SR K C pn Z M env h σ H ∧ Got K C pn Z W σ env M H (m env h) fun M' H' o => Q o H'
def SO (C : List (V × D)) (X : Cx) (W : WX) (e : Option Expr) (m : MO) : Prop := PO X e (tO X.K C X.pn W m)
def oNone : MO := fun _ h => .ok none h
def oSome (m : ME) : MO := fun env h => (m env h).bind fun d h1 => match d with
  | .int i => .ok (some i) h1
  | _ => .bad
theorem so_none : SO C X W none oNone := ⟨fun pins s σ H Q I ⟨Z, M, env, h, sr, g⟩ => po_none.run pins s σ H Q I (Got.now g sr)⟩
theorem so_some {e : Expr} {m : ME} (he : SE C X W e m) : SO C X W (some e) (oSome m) := by
  refine ⟨fun pins s σ H Q I ⟨Z, M, env, h, sr, g⟩ => (po_some he).run pins s σ H Q I ?_⟩
  refine tE.step sr g fun M1 H1 h1 d v e1 s1 r1 g1 => ?_
  cases r1 with
  | int i => exact ⟨i, rfl, Got.now g1 s1⟩
  | _ => exact False.elim g1
def cutD (xs : List D) (lo hi : Option Int) : List D := (xs.drop (HT.sIx xs.length 0 lo)).take (HT.sIx xs.length xs.length hi - HT.sIx xs.length 0 lo)
def oSl (x : D) (lo hi : Option Int) (h : List D) : R D := match lstOf h x with
  | some xs => .ok (.lst (cutD xs lo hi)) h
  | none => match tupOf x with
    | some xs => .ok (.tup (cutD xs lo hi)) h
    | none => .bad
def cSl (m : ME) (lo hi : MO) : ME := fun env h => (m env h).bind fun x h1 => (lo env h1).bind fun l h2 => (hi env h2).bind fun u h3 => oSl x l u h3
theorem tO.step {K : PySem.W.Frag} {pn : List (Addr × Obj)} {Z : Addr → Prop} {σ : L2.St} {env : List Sl} {M : List Addr} {H : Hp} {h : List D} {β : Type} {m : MO} {f : Option Int → List D → R β} {G : List Addr → Hp → β → Prop} {Q' : Option Int → Hp → Prop} (s : SR K C pn Z M env h σ H) (g : Got K C pn Z W σ env M H ((m env h).bind f) G)
    (k : ∀ M1 H1 h1 b, Evo M H M1 H1 → SR K C pn Z M1 env h1 σ H1 → Got K C pn Z W σ env M1 H1 (f b h1) G → Q' b H1) : tO K C pn W m σ H Q' := by
  refine ⟨Z, M, env, h, s, ?_⟩
  cases e : m env h with
  | bad => rw [e] at g; exact g
  | exc c ns ds h1 => rw [e] at g; exact g
  | ok b h1 =>
    rw [e] at g
    exact fun M1 H1 e1 s1 => k M1 H1 h1 b e1 s1 (Got.later e1 g)
theorem se_slice {a : Expr} {lo hi : Option Expr} {p2 : Pos} {m : ME} {ml mh : MO} (ha : SE C X W a m) (hl : SO C X W lo ml) (hh : SO C X W hi mh) : SE C X W (.Subscript a (.Slice lo hi none p2) pos) (cSl m ml mh) := by
  refine PE.weak (pe_slice (sl_list.or sl_tupA) ha hl hh) fun σ H Q ⟨Z, M, env, h, s, g⟩ => ?_
  refine tE.step s g fun M1 H1 h1 x v e1 s1 r1 g1 => ?_
  refine tO.step s1 g1 fun M2 H2 h2 l e2 s2 g2 => ?_
  refine tO.step s2 g2 fun M3 H3 h3 u e3 s3 g3 => ?_
  have r3 := (r1.mono e2).mono e3
  unfold oSl at g3
  cases hx : lstOf h3 x with
  | some xs =>
    rw [hx] at g3
    obtain ⟨a, vs, rfl, hq, rs⟩ := lstOf_rep s3.sh hx r3
    refine .inl ⟨a, vs, rfl, hq, fun p hp => Got.laid g3 s3 hp (newLst s3.sh ?_ hp)⟩
    unfold cutD cutV
    rw [← rs.1]
    exact rs.cut _ _
  | none =>
    rw [hx] at g3
    dsimp only at g3
    cases ht : tupOf x with
    | none => rw [ht] at g3; exact False.elim g3
    | some xs =>
      rw [ht] at g3
      obtain ⟨a, vs, rfl, hq, rs⟩ := tupOf_rep ht r3
      refine .inr ⟨a, vs, rfl, hq, fun ⟨w1, w2⟩ => ?_, fun _ p hp => Got.laid g3 s3 hp (newTup s3.sh ?_ hp)⟩
      · refine Got.now g3 s3 _ ?_
        have e : cutD xs l u = xs := by
          unfold cutD
          rw [rs.1, w1, w2, List.drop_zero, Nat.sub_zero, ← rs.1, List.take_length]
        rw [e]
        cases x with
        | tup ys => cases ht; exact r3
        | _ => cases ht
      · unfold cutD cutV
        rw [← rs.1]
        exact rs.cut _ _

/-! ### calls of built-in functions -/
def OkC (C : List (V × D)) (K : PySem.W.Frag) (r : List V → Hp → VK → Prop) (f : FF) : Prop := ∀ pn Z W σ env M H h ds vs (Q : VK), SR K C pn Z M env h σ H → Reps K (zn Z M) M H ds vs →
  Got K C pn Z W σ env M H (f ds h) (fun M' H' d => ∀ v, Rep K (zn Z M') M' H' d v → Q v H') → r vs H Q
theorem tC_of {r : List V → Hp → VK → Prop} {f : FF} {t : MA} (k : OkC C X.K r f) {σ : L2.St} {H : Hp} {Q : VK} (q : tE X.K C X.pn W (cCall f t) σ H Q) : tCB r (tA X.K C X.pn W t) σ H Q := by
  obtain ⟨Z, M, env, h, s, g⟩ := q
  exact tA.step s g fun M1 H1 h1 ds vs e1 s1 r1 g1 => k X.pn Z W σ env M1 H1 h1 ds vs Q s1 r1 g1
theorem se_callB {x : Str} {id : String} {r : List V → Hp → VK → Prop} {f : FF} {p : Pos} {e : Expr} {es : List Expr} {t : MA} (hc : CallR X (.builtin id) r) (k : OkC C X.K r f) (hg : Gl X x) (hm : X.mg x = none) (hv : bootBuiltins x = some (.builtin id)) (ha : SA C X W (e :: es) t) (hn : x ≠ "__name__" := by decide) (hdb : (x == ("__debug__" : Str)) = false := by decide)
    (he : starEach (e :: es) X.env = (false, eval e X.env) :: starEach es X.env := by rfl) (hpl : (backTo pos (starEach es X.env)).any (·.1) = false := by rfl) : SE C X W (.Call (.Name x p) (e :: es) [] pos) (cCall f t) :=
  PE.weak (pe_callB hc hg hm hv ha hn hdb he hpl) fun σ H Q q => tC_of k q
theorem se_callTy {x : Str} {T : String} {r : List V → Hp → VK → Prop} {f : FF} {p : Pos} {e : Expr} {es : List Expr} {t : MA} (hc : CallR X (.type T) r) (k : OkC C X.K r f) (hg : Gl X x) (hm : X.mg x = none) (hv : bootBuiltins x = some (.type T)) (ha : SA C X W (e :: es) t) (hn : x ≠ "__name__" := by decide) (hdb : (x == ("__debug__" : Str)) = false := by decide)
    (he : starEach (e :: es) X.env = (false, eval e X.env) :: starEach es X.env := by rfl) (hpl : (backTo pos (starEach es X.env)).any (·.1) = false := by rfl) : SE C X W (.Call (.Name x p) (e :: es) [] pos) (cCall f t) :=
  PE.weak (pe_callTy hc hg hm hv ha hn hdb he hpl) fun σ H Q q => tC_of k q
end
section
variable {K : PySem.W.Frag} {C : List (V × D)}
theorem okc1 {r : List V → Hp → VK → Prop} {f : D → List D → R D} (k : ∀ pn Z W σ env M H h d v (Q : VK), SR K C pn Z M env h σ H → Rep K (zn Z M) M H d v → Got K C pn Z W σ env M H (f d h) (fun M' H' d => ∀ v, Rep K (zn Z M') M' H' d v → Q v H') → r [v] H Q) :
    OkC C K r (fun ds h => match ds with
      | [d] => f d h
      | _ => .bad) := by
  intro pn Z W σ env M H h ds vs Q s rs g
  match ds, rs, g with
  | [], _, g => exact False.elim g
  | _ :: _ :: _, _, g => exact False.elim g
  | [d], rs, g =>
    obtain ⟨v, ws, rfl, q1, q2⟩ := rs.cases_cons
    obtain rfl := q2.cases_nil
    exact k pn Z W σ env M H h d v Q s q1 g
theorem okc2 {r : List V → Hp → VK → Prop} {f : D → D → List D → R D} (k : ∀ pn Z W σ env M H h d e v w (Q : VK), SR K C pn Z M env h σ H → Rep K (zn Z M) M H d v → Rep K (zn Z M) M H e w → Got K C pn Z W σ env M H (f d e h) (fun M' H' d => ∀ v, Rep K (zn Z M') M' H' d v → Q v H') → r [v, w] H Q) :
    OkC C K r (fun ds h => match ds with
      | [d, e] => f d e h
      | _ => .bad) := by
  intro pn Z W σ env M H h ds vs Q s rs g
  match ds, rs, g with
  | [], _, g => exact False.elim g
  | [_], _, g => exact False.elim g
  | _ :: _ :: _ :: _, _, g => exact False.elim g
  | [d, e], rs, g =>
    obtain ⟨v, ws, rfl, q1, q2⟩ := rs.cases_cons
    obtain ⟨w, zs, rfl, q3, q4⟩ := q2.cases_cons
    obtain rfl := q4.cases_nil
    exact k pn Z W σ env M H h d e v w Q s q1 q3 g
abbrev f1 (f : D → List D → R D) : FF := fun ds h => match ds with
  | [d] => f d h
  | _ => .bad
abbrev f2 (f : D → D → List D → R D) : FF := fun ds h => match ds with
  | [d, e] => f d e h
  | _ => .bad
/-- len -/
def lenD : D → List D → R D := fun d h => match d with
  | .str z => bif decide (z.length ≤ sizeLine) then .ok (.int z.length) h else .bad
  | d => match dicOf h d with
    | some (ks, _) => .ok (.int ks.length) h
    | none => match seqOf h d with
      | some xs => .ok (.int xs.length) h
      | none => .bad
def rLenD : List V → Hp → VK → Prop := fun xs H Q => ∃ a kvs, xs = [V.ref a] ∧ Rd H a (.dK kvs) ∧ Q (.int kvs.length) H
theorem call_lenR {X : Cx} : CallR X (.builtin "len") rLenD := by
  intro pins s σ H xs us Q I r h
  obtain ⟨a, kvs, rfl, ha, q⟩ := h
  obtain ⟨u, rfl, ru⟩ := vals1 r
  cases ru
  exact d_len I ha fun t s' I' => ⟨.int kvs.length, H, I', ⟨t, rfl⟩, q⟩
abbrev rLenA (K : PySem.W.Frag) : List V → Hp → VK → Prop := fun xs H Q => (∃ z, xs = [.str z] ∧ z.length ≤ sizeLine ∧ Q (.int z.length) H) ∨ rLenD xs H Q ∨ (∃ p ys, xs = [.ref p] ∧ (SqL K H p ys ∨ SqT K H p ys) ∧ Q (.int ys.length) H)
theorem call_lenA {X : Cx} : CallR X (.builtin "len") (rLenA X.K) := call_len_str.or (call_lenR.or call_len_seq)
theorem kc_len : OkC C K (rLenA K) (f1 lenD) := okc1 fun pn Z W σ env M H h d v Q s r g => by
  have rest : Got K C pn Z W σ env M H (match dicOf h d with
    | some (ks, _) => R.ok (D.int ks.length) h
    | none => match seqOf h d with
      | some xs => .ok (.int xs.length) h
      | none => .bad) (fun M' H' d => ∀ v, Rep K (zn Z M') M' H' d v → Q v H') → rLenA K [v] H Q := fun g => by
    cases e1 : dicOf h d with
    | some p =>
      obtain ⟨ks, ds⟩ := p
      rw [e1] at g
      obtain ⟨a, kvs, rfl, hr, rfl, rs⟩ := dicOf_rep s.sh e1 r
      refine .inr (.inl ⟨a, kvs, rfl, hr, ?_⟩)
      have := Got.now g s _ (.int _)
      rw [List.length_map] at this
      exact this
    | none =>
      rw [e1] at g
      dsimp only at g
      cases e2 : seqOf h d with
      | none => rw [e2] at g; exact False.elim g
      | some xs =>
        rw [e2] at g
        obtain ⟨a, vs, rfl, hr, rs⟩ := seqOf_rep s.sh e2 r
        refine .inr (.inr ⟨a, vs, rfl, hr, ?_⟩)
        rw [← rs.1]
        exact Got.now g s _ (.int _)
  cases d with
  | str z =>
    cases r
    unfold lenD at g
    dsimp only at g
    cases hb : decide (z.length ≤ sizeLine) with
    | false => rw [hb] at g; exact False.elim g
    | true => rw [hb] at g; exact .inl ⟨z, rfl, of_decide_eq_true hb, Got.now g s _ (.int _)⟩
  | _ => exact rest g
/-- abs, int, str of a text, min, max -/
def absD : D → List D → R D := fun d h => match d with
  | .int i => .ok (.int (if i < 0 then -i else i)) h
  | _ => .bad
theorem kc_abs : OkC C K (fun xs H Q => ∃ i, xs = [.int i] ∧ Q (.int (if i < 0 then -i else i)) H) (f1 absD) := okc1 fun pn Z W σ env M H h d v Q s r g => by
  cases r with
  | int i => exact ⟨i, rfl, Got.now g s _ (.int _)⟩
  | _ => exact False.elim g
def intD : D → List D → R D := fun d h => match d with
  | .int i => .ok (.int i) h
  | .bl k => .ok (.int (if k then 1 else 0)) h
  | _ => .bad
theorem kc_int : OkC C K (fun xs H Q => (∃ i, xs = [.int i] ∧ Q (.int i) H) ∨ ∃ k, xs = [.bl k] ∧ Q (.int (if k then 1 else 0)) H) (f1 intD) := okc1 fun pn Z W σ env M H h d v Q s r g => by
  cases r with
  | int i => exact .inl ⟨i, rfl, Got.now g s _ (.int _)⟩
  | bl k => exact .inr ⟨k, rfl, Got.now g s _ (.int _)⟩
  | _ => exact False.elim g
def strD : D → List D → R D := fun d h => match d with
  | .str x => .ok (.str x) h
  | .int i => bif decide (i.natAbs.log2 < 1920) then .ok (.str (toString i)) h else .bad
  | _ => .bad
theorem kc_str : OkC C K (fun xs H Q => (∃ a, xs = [.str a] ∧ Q (.str a) H) ∨ ∃ i, xs = [.int i] ∧ i.natAbs.log2 < 1920 ∧ Q (.str (toString i)) H) (f1 strD) := okc1 fun pn Z W σ env M H h d v Q s r g => by
  cases r with
  | str x => exact .inl ⟨x, rfl, Got.now g s _ (.str _)⟩
  | int i =>
    unfold strD at g
    dsimp only at g
    cases hb : decide (i.natAbs.log2 < 1920) with
    | false => rw [hb] at g; exact False.elim g
    | true => rw [hb] at g; exact .inr ⟨i, rfl, of_decide_eq_true hb, Got.now g s _ (.str _)⟩
  | _ => exact False.elim g
theorem call_strA {X : Cx} : CallR X (.type "str") (fun xs H Q => (∃ a, xs = [.str a] ∧ Q (.str a) H) ∨ ∃ i, xs = [.int i] ∧ i.natAbs.log2 < 1920 ∧ Q (.str (toString i)) H) := CallR.or SkE.call_str_str call_str_int
def maxD : D → D → List D → R D := fun x y h => match x, y with
  | .int i, .int j => .ok (.int (if j > i then j else i)) h
  | _, _ => .bad
theorem kc_max : OkC C K (fun xs H Q => ∃ i j, xs = [.int i, .int j] ∧ Q (.int (if j > i then j else i)) H) (f2 maxD) := okc2 fun pn Z W σ env M H h d e v w Q s r q g => by
  cases r with
  | int i =>
    cases q with
    | int j => exact ⟨i, j, rfl, Got.now g s _ (.int _)⟩
    | _ => exact False.elim g
  | _ => exact False.elim g
def minD : D → D → List D → R D := fun x y h => match x, y with
  | .int i, .int j => .ok (.int (if j < i then j else i)) h
  | _, _ => .bad
theorem kc_min : OkC C K (fun xs H Q => ∃ i j, xs = [.int i, .int j] ∧ Q (.int (if j < i then j else i)) H) (f2 minD) := okc2 fun pn Z W σ env M H h d e v w Q s r q g => by
  cases r with
  | int i =>
    cases q with
    | int j => exact ⟨i, j, rfl, Got.now g s _ (.int _)⟩
    | _ => exact False.elim g
  | _ => exact False.elim g
/-- the items, all ints, all texts, all bools -/
def intsOf : List D → Option (List Int)
  | [] => some []
  | .int i :: r => (intsOf r).map (i :: ·)
  | _ => none
def strsOf : List D → Option (List Str)
  | [] => some []
  | .str i :: r => (strsOf r).map (i :: ·)
  | _ => none
def blsOf : List D → Option (List Bool)
  | [] => some []
  | .bl i :: r => (blsOf r).map (i :: ·)
  | _ => none
section
variable {Z : Addr → Prop} {M : List Addr} {H : Hp}
theorem intsOf_rep : ∀ {ds : List D} {vs : List V} {ns : List Int}, intsOf ds = some ns → Reps K Z M H ds vs → vs = ns.map V.int
  | [], vs, ns, e, r => by cases e; exact r.cases_nil
  | d :: ds, vs, ns, e, r => by
    obtain ⟨v, ws, rfl, q1, q2⟩ := r.cases_cons
    cases q1 with
    | int i =>
      unfold intsOf at e
      cases hx : intsOf ds with
      | none => rw [hx] at e; cases e
      | some ms => rw [hx] at e; cases e; rw [intsOf_rep hx q2]; rfl
    | _ => cases e
theorem strsOf_rep : ∀ {ds : List D} {vs : List V} {ns : List Str}, strsOf ds = some ns → Reps K Z M H ds vs → vs = ns.map V.str
  | [], vs, ns, e, r => by cases e; exact r.cases_nil
  | d :: ds, vs, ns, e, r => by
    obtain ⟨v, ws, rfl, q1, q2⟩ := r.cases_cons
    cases q1 with
    | str i =>
      unfold strsOf at e
      cases hx : strsOf ds with
      | none => rw [hx] at e; cases e
      | some ms => rw [hx] at e; cases e; rw [strsOf_rep hx q2]; rfl
    | _ => cases e
theorem blsOf_rep : ∀ {ds : List D} {vs : List V} {ns : List Bool}, blsOf ds = some ns → Reps K Z M H ds vs → vs = ns.map V.bl
  | [], vs, ns, e, r => by cases e; exact r.cases_nil
  | d :: ds, vs, ns, e, r => by
    obtain ⟨v, ws, rfl, q1, q2⟩ := r.cases_cons
    cases q1 with
    | bl i =>
      unfold blsOf at e
      cases hx : blsOf ds with
      | none => rw [hx] at e; cases e
      | some ms => rw [hx] at e; cases e; rw [blsOf_rep hx q2]; rfl
    | _ => cases e
theorem reps_strs : ∀ ns : List Str, Reps K Z M H (ns.map .str) (ns.map V.str)
  | [] => Reps.nil
  | n :: ns => Reps.cons (.str n) (reps_strs ns)
theorem reps_ints : ∀ ns : List Int, Reps K Z M H (ns.map .int) (ns.map V.int)
  | [] => Reps.nil
  | n :: ns => Reps.cons (.int n) (reps_ints ns)
end
def sumD : D → List D → R D := fun d h => match lstOf h d with
  | some xs => (match intsOf xs with
    | some ns => .ok (.int ns.sum) h
    | none => .bad)
  | none => .bad
theorem kc_sum : OkC C K (rSum K) (f1 sumD) := okc1 fun pn Z W σ env M H h d v Q s r g => by
  unfold sumD at g
  cases e1 : lstOf h d with
  | none => rw [e1] at g; exact False.elim g
  | some xs =>
    rw [e1] at g
    dsimp only at g
    obtain ⟨a, vs, rfl, hr, rs⟩ := lstOf_rep s.sh e1 r
    cases e2 : intsOf xs with
    | none => rw [e2] at g; exact False.elim g
    | some ns =>
      rw [e2] at g
      obtain rfl := intsOf_rep e2 rs
      exact ⟨a, ns, rfl, hr, Got.now g s _ (.int _)⟩
def allD : D → List D → R D := fun d h => match lstOf h d with
  | some xs => (match blsOf xs with
    | some ns => .ok (.bl (ns.all id)) h
    | none => .bad)
  | none => .bad
theorem kc_all : OkC C K (rAll K) (f1 allD) := okc1 fun pn Z W σ env M H h d v Q s r g => by
  unfold allD at g
  cases e1 : lstOf h d with
  | none => rw [e1] at g; exact False.elim g
  | some xs =>
    rw [e1] at g
    dsimp only at g
    obtain ⟨a, vs, rfl, hr, rs⟩ := lstOf_rep s.sh e1 r
    cases e2 : blsOf xs with
    | none => rw [e2] at g; exact False.elim g
    | some ns =>
      rw [e2] at g
      obtain rfl := blsOf_rep e2 rs
      exact ⟨a, ns, rfl, hr, Got.now g s _ (.bl _)⟩
def anyD : D → List D → R D := fun d h => match lstOf h d with
  | some xs => (match blsOf xs with
    | some ns => .ok (.bl (ns.any id)) h
    | none => .bad)
  | none => .bad
theorem kc_any : OkC C K (rAny K) (f1 anyD) := okc1 fun pn Z W σ env M H h d v Q s r g => by
  unfold anyD at g
  cases e1 : lstOf h d with
  | none => rw [e1] at g; exact False.elim g
  | some xs =>
    rw [e1] at g
    dsimp only at g
    obtain ⟨a, vs, rfl, hr, rs⟩ := lstOf_rep s.sh e1 r
    cases e2 : blsOf xs with
    | none => rw [e2] at g; exact False.elim g
    | some ns =>
      rw [e2] at g
      obtain rfl := blsOf_rep e2 rs
      exact ⟨a, ns, rfl, hr, Got.now g s _ (.bl _)⟩
end
end G

set_option Elab.async false
set_option linter.all false
set_option maxRecDepth 100000
set_option maxHeartbeats 4000000
/-! G11: sorted texts, isinstance, repr, chains of comparisons, stores, methods of lists, a, b = x, y. -/
namespace G
open PySem PySem.Spec PyProof.Rows L2

/-! ### sorted, of texts -/
def leS (a b : Str) : Bool := !ltCps b.cps.toList a.cps.toList
def insS (x : Str) : List Str → List Str
  | [] => [x]
  | y :: r => bif leS x y then x :: y :: r else y :: insS x r
def sortS : List Str → List Str
  | [] => []
  | x :: r => insS x (sortS r)
theorem leS_iff {a b : Str} : leS a b = true ↔ a.cps.toList ≤ b.cps.toList := by
  unfold leS
  rw [ltCps_eq, Bool.not_eq_true', decide_eq_false_iff_not, List.not_lt]
theorem leS_trans (a b c : Str) (h1 : leS a b = true) (h2 : leS b c = true) : leS a c = true := leS_iff.mpr (List.le_trans (leS_iff.mp h1) (leS_iff.mp h2))
theorem leS_total (a b : Str) : (leS a b || leS b a) = true := by
  rw [Bool.or_eq_true]
  exact (List.le_total a.cps.toList b.cps.toList).imp leS_iff.mpr leS_iff.mpr
theorem leS_anti {a b : Str} (h1 : leS a b = true) (h2 : leS b a = true) : a = b := by
  have := List.le_antisymm (leS_iff.mp h1) (leS_iff.mp h2)
  obtain ⟨⟨a⟩⟩ := a
  obtain ⟨⟨b⟩⟩ := b
  cases this
  rfl
theorem insS_perm (x : Str) : ∀ l : List Str, (insS x l).Perm (x :: l)
  | [] => .refl _
  | y :: r => by
    unfold insS
    cases h : leS x y with
    | true => exact .refl _
    | false => exact ((insS_perm x r).cons y).trans (.swap _ _ _)
theorem sortS_perm : ∀ l : List Str, (sortS l).Perm l
  | [] => .refl _
  | x :: r => (insS_perm x (sortS r)).trans ((sortS_perm r).cons x)
theorem insS_pw (x : Str) : ∀ l : List Str, l.Pairwise (fun a b => leS a b = true) → (insS x l).Pairwise fun a b => leS a b = true
  | [], _ => List.pairwise_singleton _ _
  | y :: r, h => by
    obtain ⟨h1, h2⟩ := List.pairwise_cons.mp h
    unfold insS
    cases e : leS x y with
    | true =>
      refine List.pairwise_cons.mpr ⟨fun z hz => ?_, h⟩
      rcases List.mem_cons.mp hz with rfl | hz
      · exact e
      · exact leS_trans _ _ _ e (h1 z hz)
    | false =>
      refine List.pairwise_cons.mpr ⟨fun z hz => ?_, insS_pw x r h2⟩
      rcases List.mem_cons.mp ((insS_perm x r).mem_iff.mp hz) with rfl | hz
      · have := leS_total z y
        rw [e, Bool.false_or] at this
        exact this
      · exact h1 z hz
theorem sortS_pw : ∀ l : List Str, (sortS l).Pairwise fun a b => leS a b = true
  | [] => List.Pairwise.nil
  | x :: r => insS_pw x _ (sortS_pw r)
theorem rising_pw : ∀ (p : Str) (l : List Str), risingS p l = true → (p :: l).Pairwise fun a b => leS a b = true
  | p, [], _ => List.pairwise_singleton _ _
  | p, x :: r, h => by
    have h : (!ltCps x.cps.toList p.cps.toList && risingS x r) = true := h
    rw [Bool.and_eq_true] at h
    have ih := rising_pw x r h.2
    refine List.pairwise_cons.mpr ⟨fun y hy => ?_, ih⟩
    have hp : leS p x = true := h.1
    rcases List.mem_cons.mp hy with rfl | hy
    · exact hp
    · exact leS_trans _ _ _ hp (List.rel_of_pairwise_cons ih hy)
theorem sorted_pw : ∀ (l : List Str), sortedS l = true → l.Pairwise fun a b => leS a b = true
  | [], _ => List.Pairwise.nil
  | x :: r, h => rising_pw x r h
theorem sortS_eq {xs ys : List Str} (hp : ys.Perm xs) (hs : sortedS ys = true) : ys = sortS xs :=
  List.Perm.eq_of_pairwise (le := fun a b => leS a b = true) (fun a b _ _ h1 h2 => leS_anti h1 h2) (sorted_pw ys hs) (sortS_pw xs) (hp.trans (sortS_perm xs).symm)
section
variable {K : PySem.W.Frag} {C : List (V × D)}
def sortedD : D → List D → R D := fun d h => match lstOf h d with
  | some xs => (match strsOf xs with
    | some ns => bif decide (ns.length < 64) then .ok (.lst ((sortS ns).map .str)) h else .bad
    | none => .bad)
  | none => .bad
theorem kc_sorted : OkC C K (rSortedS K) (f1 sortedD) := okc1 fun pn Z W σ env M H h d v Q s r g => by
  unfold sortedD at g
  cases e1 : lstOf h d with
  | none => rw [e1] at g; exact False.elim g
  | some xs =>
    rw [e1] at g
    dsimp only at g
    obtain ⟨a, vs, rfl, hr, rs⟩ := lstOf_rep s.sh e1 r
    cases e2 : strsOf xs with
    | none => rw [e2] at g; exact False.elim g
    | some ns =>
      rw [e2] at g
      dsimp only at g
      obtain rfl := strsOf_rep e2 rs
      cases hb : decide (ns.length < 64) with
      | false => rw [hb] at g; exact False.elim g
      | true =>
        rw [hb] at g
        refine ⟨a, ns, rfl, hr, of_decide_eq_true hb, fun ys p hp hs hn => ?_⟩
        rw [sortS_eq hp hs]
        exact Got.laid g s hn (newLst s.sh (reps_strs _) hn)

/-! ### repr -/
def reprD : D → List D → R D := fun d h => match toPy pyF h d with
  | some p => bif p.showable && (!p.hasDict && (decide (p.depth ≤ 60) && decide (p.shown.length ≤ sizeLine))) then .ok (.str p.shown) h else .bad
  | none => .bad
def rRepr (K : PySem.W.Frag) : List V → Hp → VK → Prop := fun xs H Q => ∃ v p, xs = [v] ∧ Dp K H v p ∧ p.showable = true ∧ p.hasDict = false ∧ p.depth ≤ 60 ∧ p.shown.length ≤ sizeLine ∧ Q (.str p.shown) H
theorem call_repr {X : Cx} (hg : X.A.guards = some []) (hu : X.A.units + 64 < cLine) : CallR X (.builtin "repr") (rRepr X.K) := by
  intro pins s σ H xs us Q I r h
  obtain ⟨v, p, rfl, dp, h1, h2, h3, h4, q⟩ := h
  obtain ⟨u, rfl, rv⟩ := vals1 r
  cases v with
  | ref a =>
    cases rv
    obtain ⟨as, hr⟩ := Dp.reads I p _ _ dp rfl
    exact repr_of_reads' hr h1 (PyData.noDict_hsm h2) hg (by omega) (fun _ _ e => e) (fun h' t tk k => ⟨.str p.shown, H, I.kept k, ⟨_, rfl⟩, q⟩) h4
  | non =>
    cases rv
    cases dp
    simp only [PyData.shown] at q
    exact PySem.P.repr_of_none ⟨.str "None", H, I.tok _, ⟨_, rfl⟩, q⟩
  | bl b =>
    cases rv
    cases dp
    simp only [PyData.shown] at q
    exact PySem.P.repr_of_bool ⟨.str (if b then "True" else "False"), H, I.tok _, ⟨_, rfl⟩, q⟩
  | int i =>
    obtain ⟨t, rfl⟩ := rv
    cases dp
    simp only [PyData.shown] at q
    simp only [PyData.showable] at h1
    exact PySem.P.repr_of_int (of_decide_eq_true h1) ⟨.str (toString i), H, I.tok _, ⟨_, rfl⟩, q⟩
  | str x =>
    obtain ⟨t, rfl⟩ := rv
    cases dp
    simp only [PyData.shown] at q h4
    exact PySem.P.repr_of_str ⟨.str (reprText x), H, I.tok _, ⟨_, rfl⟩, q⟩ h4
  | _ => cases dp
theorem kc_repr : OkC C K (rRepr K) (f1 reprD) := okc1 fun pn Z W σ env M H h d v Q s r g => by
  unfold reprD at g
  cases e1 : toPy pyF h d with
  | none => rw [e1] at g; exact False.elim g
  | some p =>
    rw [e1] at g
    dsimp only at g
    cases hb : p.showable && (!p.hasDict && (decide (p.depth ≤ 60) && decide (p.shown.length ≤ sizeLine))) with
    | false => rw [hb] at g; exact False.elim g
    | true =>
      rw [hb] at g
      obtain ⟨b1, b2⟩ := Bool.and_eq_true_iff.mp hb
      obtain ⟨b2, b3⟩ := Bool.and_eq_true_iff.mp b2
      obtain ⟨b3, b4⟩ := Bool.and_eq_true_iff.mp b3
      exact ⟨v, p, rfl, toPy_dp s.sh e1 r, b1, by simpa using b2, of_decide_eq_true b3, of_decide_eq_true b4, Got.now g s _ (.str _)⟩
end

theorem lookup_in {α β : Type} [BEq α] [LawfulBEq α] {a : α} {b : β} : ∀ {l : List (α × β)}, l.lookup a = some b → (a, b) ∈ l
  | [], e => by cases e
  | p :: l, e => by
    rw [List.lookup_cons] at e
    cases h : a == p.1 with
    | true =>
      rw [h] at e
      cases e
      obtain rfl := eq_of_beq h
      exact List.mem_cons_self
    | false =>
      rw [h] at e
      exact List.mem_cons_of_mem _ (lookup_in e)
/-! ### isinstance(x, T), T a built-in type -/
def tyD (h : List D) : D → Option String
  | .non => some "NoneType"
  | .bl _ => some "bool"
  | .int _ => some "int"
  | .str _ => some "str"
  | .tup _ => some "tuple"
  | .lst _ => some "list"
  | .dic _ _ => some "dict"
  | .loc n => match h[n]? with
    | some (.lst _) => some "list"
    | some (.dic _ _) => some "dict"
    | some (.lck _ _) => some "dict"
    | _ => none
  | _ => none
theorem tyD_rep {K : PySem.W.Frag} {C : List (V × D)} {Z : Addr → Prop} {M : List Addr} {H : Hp} {h : List D} {d : D} {v : V} {T : String} (s : Sh K C Z M h H) (e : tyD h d = some T) (r : Rep K (zn Z M) M H d v) : TyX K H v (.type T) := by
  cases r with
  | non => cases e; exact .base .non
  | bl b => cases e; exact .base (.bl b)
  | int i => cases e; exact .base (.int i)
  | str x => cases e; exact .base (.str x)
  | tup t l q =>
    cases e
    rcases t with ⟨_, ha | ⟨o, ha⟩⟩ | (ha | ⟨o, ha⟩) | ⟨o, its, n, ha, hc, _⟩
    · exact .base (.tup ha)
    · exact .fTuple ha
    · cases ha
    · cases ha
    · exact .kTuple ha hc
  | lst z ha l q => cases e; exact .base (.lst ha)
  | dic z ha k l q =>
    cases e
    rcases ha with ha | ⟨o, ha⟩
    · exact .base (.dK ha)
    · exact .fDict ha
  | loc hm =>
    rename_i n a
    unfold tyD at e
    dsimp only at e
    cases hx : h[n]? with
    | none => rw [hx] at e; cases e
    | some c =>
      rw [hx] at e
      cases c with
      | lst ys => cases e; obtain ⟨vs, q, rs⟩ := s.cel n a _ hm hx; exact .base (.lst q)
      | dic ks ds => cases e; obtain ⟨vs, q, k, rs⟩ := s.cel n a _ hm hx; exact .base (.dK q)
      | lck ks ds => cases e; obtain ⟨vs, o, q, k, rs⟩ := s.cel n a _ hm hx; exact .fDict q
      | _ => cases e
  | _ => cases e
def cIsi (tys : List (String × Bool)) (m : ME) : ME := fun env h => (m env h).bind fun d h1 => match tyD h1 d with
  | some t => (match tys.lookup t with
    | some b => .ok (.bl b) h1
    | none => .bad)
  | none => .bad
section
variable {C : List (V × D)} {X : Cx} {W : WX} {pos : Pos}
theorem se_isi {e : Expr} {T : Str} {Ts : String} {m : ME} {tys : List (String × Bool)} {p p2 : Pos} (hg : Gl X "isinstance") (hm : X.mg "isinstance" = none) (he : SE C X W e m) (gT : Gl X T) (mT : X.mg T = none) (vT : bootBuiltins T = some (.type Ts)) (nT : T ≠ "__name__") (dT : (T == ("__debug__" : Str)) = false)
    (hk : ∀ q ∈ tys, kitB q.1 Ts = some q.2) (hs : starEach [e, .Name T p2] X.env = (false, eval e X.env) :: starEach [.Name T p2] X.env := by rfl) (hs2 : starEach [.Name T p2] X.env = (false, eval (.Name T p2) X.env) :: starEach [] X.env := by rfl) (hpl : (backTo pos (starEach [.Name T p2] X.env)).any (·.1) = false := by rfl) :
    SE C X W (.Call (.Name "isinstance" p) [e, .Name T p2] [] pos) (cIsi tys m) := by
  refine PE.weak (pe_callB call_isi hg hm PyProof.Rows.boot_isinstance (pa_cons he (pa_cons (pe_bltn (v := .ty Ts) gT mT vT rfl nT dT) pa_nil hs2) hs) (by decide) (by decide) hs hpl) fun σ H Q ⟨Z, M, env, h, s, g⟩ => ?_
  refine tE.step s g fun M1 H1 h1 d v e1 s1 r1 g1 => ?_
  show ∃ (x c : V) (t u : Value) (b : Bool), _
  cases et : tyD h1 d with
  | none => rw [et] at g1; exact False.elim g1
  | some t =>
    rw [et] at g1
    dsimp only at g1
    cases el : tys.lookup t with
    | none => rw [el] at g1; exact False.elim g1
    | some b =>
      rw [el] at g1
      exact ⟨v, .ty Ts, .type t, .type Ts, b, rfl, .ty Ts, tyD_rep s1.sh et r1, kit_ty (hk (t, b) (lookup_in el)), Got.now g1 s1 _ (.bl b)⟩

/-! ### chains -/
def cChain (f f' : D → D → List D → R D) (a b c : ME) : ME := fun env h => (a env h).bind fun x h1 => (b env h1).bind fun y h2 => (f x y h2).bind fun z h3 => match z with
  | .bl true => (c env h3).bind fun w h4 => f' y w h4
  | .bl false => .ok (.bl false) h3
  | _ => .bad
theorem chain_of {op op' : CmpOp} {r r' : R2} {f f' : D → D → List D → R D} {ma mb mc : ME} (k : Ok2 C X.K r f) (k' : Ok2 C X.K r' f') {σ : L2.St} {H : Hp} {Q : VK} (t : tE X.K C X.pn W (cChain f f' ma mb mc) σ H Q) : tChain r r' (tE X.K C X.pn W ma) (tE X.K C X.pn W mb) (tE X.K C X.pn W mc) σ H Q := by
  obtain ⟨Z, M, env, h, s, g⟩ := t
  refine tE.step s g fun M1 H1 h1 x v e1 s1 r1 g1 => ?_
  refine tE.step s1 g1 fun M2 H2 h2 y w e2 s2 r2 g2 => ?_
  have r1' := r1.mono e2
  refine k X.pn Z W σ env M2 H2 h2 x y v w _ s2 r1' r2 ?_
  cases e : f x y h2 with
  | bad => rw [e] at g2; exact g2
  | exc c ns ds h3 => rw [e] at g2; exact g2
  | ok z h3 =>
    rw [e] at g2
    intro M3 H3 e3 s3 u rz
    have g2 := Got.later e3 g2
    cases z with
    | bl b =>
      cases rz
      cases b with
      | false => exact ⟨false, rfl, by rw [if_neg (by decide)]; exact Got.now g2 s3 _ (.bl _)⟩
      | true =>
        refine ⟨true, rfl, ?_⟩
        rw [if_pos rfl]
        refine tE.step s3 g2 fun M4 H4 h4 w' vw e4 s4 r4 g4 => ?_
        exact k' X.pn Z W σ env M4 H4 h4 y w' _ _ Q s4 ((r2.mono e3).mono e4) r4 g4
    | _ => exact False.elim g2
theorem se_chain {op op' : CmpOp} {r r' : R2} {f f' : D → D → List D → R D} {a b c : Expr} {ma mb mc : ME} (ho : OpR X (compareOp op) r) (k : Ok2 C X.K r f) (ho' : OpR X (compareOp op') r') (k' : Ok2 C X.K r' f') (ha : SE C X W a ma) (hb : SE C X W b mb) (hc : SE C X W c mc)
    (hm : lastMarks [op, op'] [b, c] = false := by with_unfolding_all rfl) : SE C X W (.Compare a [op, op'] [b, c] pos) (cChain f f' ma mb mc) :=
  PE.weak (pe_chain ho ho' ha hb hc hm) fun σ H Q t => chain_of (op := op) (op' := op') k k' t
theorem st_chain {op op' : CmpOp} {r r' : R2} {f f' : D → D → List D → R D} {a b c : Expr} {ma mb mc : ME} (ho : OpR X (compareOp op) r) (k : Ok2 C X.K r f) (ho' : OpR X (compareOp op') r') (k' : Ok2 C X.K r' f') (ha : SE C X W a ma) (hb : SE C X W b mb) (hc : SE C X W c mc)
    (hm : lastMarks [op, op'] [b, c] = false := by with_unfolding_all rfl) : ST C X W (.Compare a [op, op'] [b, c] pos) (cB (cChain f f' ma mb mc)) := by
  refine PT.weak (pt_chain ho ho' ha hb hc hm) fun σ H Q t => ?_
  exact chain_of (op := op) (op' := op') k k' (tB_of t)

/-! ### stores: o[i] = e, of a list or a dict -/
def sSub (o i e : ME) : MS := fun env h => (e env h).thenS env fun x h1 => (o env h1).thenS env fun t h2 => (i env h2).thenS env fun y h3 => match t with
  | .loc n => (match h3[n]? with
    | some (.lst xs) => (match y with
      | .int k => (match ixN xs.length k with
        | some j => .nx env (h3.set n (.lst (xs.set j x)))
        | none => .bad)
      | _ => .bad)
    | some (.dic ks ds) => (match keyOf y with
      | some k => bif decide (ks.length < sizeLine) then .nx env (h3.set n (.dic (kput ks ds k x).1 (kput ks ds k x).2)) else .bad
      | none => .bad)
    | _ => .bad)
  | _ => .bad
def rPut : TSet := fun o i v H Q => ∃ a H', o = .ref a ∧ DPut H a i v H' ∧ Q H'
theorem set_dict (hu : X.A.units + 1 < cLine) : PSet X rPut := by
  intro pins s σ H o i v ov iv u Q I ro ri rv h
  obtain ⟨a, H', rfl, g, q⟩ := h
  cases ro
  exact d_setItem hu I g ri rv fun s' I' => ⟨H', I', q⟩
theorem set_any (hu : X.A.units + 1 < cLine) : PSet X (fun o i v H Q => rSetL o i v H Q ∨ rPut o i v H Q) := by
  intro pins s σ H o i v ov iv u Q I ro ri rv h
  rcases h with h | h
  · exact set_list pins s σ H o i v ov iv u Q I ro ri rv h
  · exact set_dict hu pins s σ H o i v ov iv u Q I ro ri rv h
theorem ss_sub {o i e : Expr} {mo mi me : ME} {tpos : Pos} (hu : X.A.units + 1 < cLine) (ho : SE C X W o mo) (hi : SE C X W i mi) (he : SE C X W e me)
    (ha : ∀ v, assign (.Subscript o i tpos) X.env v = (do
      let ov ← holding [v] (eval o X.env)
      let iv ← holding [v, ov] (eval i X.env)
      standAt tpos
      holding [v, ov, iv] (setItem ov iv v)
      release [v, ov, iv] []) := by intro _; rfl) (hs : swapsWithSole [.Subscript o i tpos] e pos.line X.env = pure false := by rfl) (hw : swappedStores [.Subscript o i tpos] e X.env = pure none := by rfl)
    (h1 : (assignEach [.Subscript o i tpos] X.env).map (·.2) = [assign (.Subscript o i tpos) X.env] := by rfl) : SS C X W (.Assign [.Subscript o i tpos] e pos) (sSub mo mi me) := by
  refine PS.weak (ps_asg he (pg_sub ho hi (set_any hu) ha) hs hw h1) fun D' σ H ⟨Z, M, env, h, s, g⟩ => ?_
  refine tE.stepS s g fun M1 H1 h1 x v e1 s1 r1 g1 => ?_
  refine tE.stepS s1 g1 fun M2 H2 h2 t w e2 s2 r2 g2 => ?_
  refine tE.stepS s2 g2 fun M3 H3 h3 y u e3 s3 r3 g3 => ?_
  have rx := (r1.mono e2).mono e3
  have rt := r2.mono e3
  cases rt with
  | loc hm =>
    rename_i n a
    dsimp only at g3
    cases hx : h3[n]? with
    | none => rw [hx] at g3; exact False.elim g3
    | some c =>
      rw [hx] at g3
      cases c with
      | lst xs =>
        dsimp only at g3
        obtain ⟨vs, ha', rs⟩ := s3.sh.cel n a _ hm hx
        cases r3 with
        | int k =>
          dsimp only at g3
          cases hj : ixN xs.length k with
          | none => rw [hj] at g3; exact False.elim g3
          | some j =>
            rw [hj] at g3
            have nf : ∀ u w, H3 a ≠ some (.frz u w) := fun u w z => by rw [ha'] at z; cases z
            have ev := s3.sh.evw (o := .lst (vs.set j v)) hm nf
            refine .inl ⟨a, vs, k, j, rfl, rfl, ha', by rw [← rs.1]; exact hj, g3 M3 σ _ ev (s3.later ev (s3.sh.write hm nf ⟨_, upd_same, ((rs.set rx j).mono ev)⟩))⟩
        | _ => exact False.elim g3
      | dic ks ds =>
        dsimp only at g3
        obtain ⟨kvs, ha', hk, rs⟩ := s3.sh.cel n a _ hm hx
        subst hk
        cases hy : keyOf y with
        | none => rw [hy] at g3; exact False.elim g3
        | some k =>
          rw [hy] at g3
          dsimp only at g3
          cases hb : decide ((kvs.map (·.1)).length < sizeLine) with
          | false => rw [hb] at g3; exact False.elim g3
          | true =>
            rw [hb] at g3
            obtain rfl := keyOf_rep hy r3
            have nf : ∀ u w, H3 a ≠ some (.frz u w) := fun u w z => by rw [ha'] at z; cases z
            have ev := s3.sh.evw (o := .dK (putK kvs k v)) hm nf
            obtain ⟨q1, q2⟩ := kput_ok (k := k) (rx.mono ev) (rs.mono ev)
            refine .inr ⟨a, _, rfl, DPut.k ha' (by simpa using of_decide_eq_true hb), g3 M3 σ _ ev (s3.later ev (s3.sh.write hm nf ⟨_, upd_same, q1, q2⟩))⟩
      | _ => exact False.elim g3
  | _ => exact False.elim g3

/-! ### xs.append(e), xs.extend(e) as expressions -/
def appD (x y : D) (h : List D) : R D := match x with
  | .loc n => (match h[n]? with
    | some (.lst xs) => bif decide (xs.length < sizeLine) then .ok .non (h.set n (.lst (xs ++ [y]))) else .bad
    | _ => .bad)
  | _ => .bad
def cApp (o : ME) (e : ME) : ME := fun env h => (o env h).bind fun x h1 => bif (lstH h1 x).isSome then (e env h1).bind fun y h2 => appD x y h2 else .bad
theorem se_append {o e : Expr} {mo me : ME} {apos : Pos} (ho : SE C X W o mo) (he : SE C X W e me) (hbase : attributeBase o "append" X.env (eval o X.env) = eval o X.env := by rfl)
    (hs : starEach [e] X.env = (false, eval e X.env) :: starEach [] X.env := by rfl) : True := trivial
/-- {} -/
def cDicN : ME := fun _ h => .ok (.loc h.length) (h ++ [.dic [] []])
theorem se_dicN : SE C X W (.Dict [] [] pos) cDicN := PE.weak pe_dnewK fun σ H Q ⟨Z, M, env, h, s, g⟩ => fun p hp =>
  g (M ++ [p]) _ (Evo.newloc hp) (s.later (Evo.newloc hp) (s.sh.newloc hp ⟨[], upd_same, rfl, Reps.nil⟩)) _ (newLoc s.sh)

/-! ### a, b = x, y -/
def sPar (i j : Nat) (t : MA) : MS := fun env h => (t env h).thenS env fun ds h1 => match ds with
  | [d, e] => .nx ((env.set i (.v d)).set j (.v e)) h1
  | _ => .bad
theorem ss_par {i j : Nat} {x y : Str} {a b : Expr} {t : MA} {px py pt : Pos} {kt k2 pt2} (hc : X.calm = true) (hN : X.N.Nodup) (hi : X.N[i]? = some x) (hj : X.N[j]? = some y) (hij : i ≠ j)
    (hx : X.env.scope.names.lookup x = some .local) (hy : X.env.scope.names.lookup y = some .local) (ha : SA C X W [a, b] t)
    (hw : swappedStores [.Tuple [.Name x px, .Name y py] kt pt] (.Tuple [a, b] k2 pt2) X.env = pure (some [x, y]))
    (hs : swapsWithSole [.Tuple [.Name x px, .Name y py] kt pt] (.Tuple [a, b] k2 pt2) pos.line X.env = pure false := by rfl) :
    SS C X W (.Assign [.Tuple [.Name x px, .Name y py] kt pt] (.Tuple [a, b] k2 pt2) pos) (sPar i j t) := by
  refine PS.weak (ps_par hc hN hi hj hij hx hy ha hw hs) fun D' σ H ⟨Z, M, env, h, s, g⟩ => ?_
  refine tA.stepS s g fun M1 H1 h1 ds vs e1 s1 r1 g1 => ?_
  match ds, r1, g1 with
  | [], _, g1 => exact False.elim g1
  | [_], _, g1 => exact False.elim g1
  | _ :: _ :: _ :: _, _, g1 => exact False.elim g1
  | [d, e], r1, g1 =>
    obtain ⟨v, ws, rfl, q1, q2⟩ := r1.cases_cons
    obtain ⟨w, zs, rfl, q3, q4⟩ := q2.cases_cons
    obtain rfl := q4.cases_nil
    exact ⟨v, w, rfl, g1 M1 _ H1 (.refl M1 H1) ((s1.set q1).set q3)⟩
end
end G

set_option Elab.async false
set_option linter.all false
set_option maxRecDepth 100000
set_option maxHeartbeats 4000000
/-! G12: obj[i], obj[i] = x, x in obj, len(obj) by the class's own defs; xs.append; d.get. -/
namespace G
open PySem PySem.Spec PyProof.Rows L2

section
variable {prog : Program} {w : World} {A : Around} {E : Value → Shared → Prop} {s : Shared} {K : PySem.W.Frag} {Ca a f : Addr} {o : Obj}
theorem own_spec {M : Model} {h : Heap} {name : Str} (X : K.In h) (ho : h.get? a = some o) (hc : o.cls = .ref Ca) (hf : PySem.W.findIn K (.ref Ca) name = some (some (.ref f))) : PySem.W.Looks M h (specialOf (.ref a) name) (some (.ref f)) :=
  (NwA.type_at ho hc).andThen (PySem.W.looks_findIn X hf)
theorem own_call {M : Model} {name : Str} {args : List Value} {Q : Option Value → Shared → Prop} (X : K.In s.heap) (ho : s.heap.get? a = some o) (hc : o.cls = .ref Ca) (hm : Meth K Ca name f) (h : wpAny M A (call (.ref f) (.ref a :: args)) (fun v => Q (some v)) E s) :
    wpAny M A (callSpecial? (.ref a) name args) Q E s := by
  simp only [callSpecial?]
  refine wpAny_bind ((own_spec X ho hc hm.at_).here ?_)
  refine wpAny_holding (wpAny_bind ((PySem.W.bind_fn X (.ref a) (beq_iff_eq.mp hm.fn)).here ?_))
  exact wpAny_bind (wpAny_mono h (fun v s' h' => wpAny_pure h') fun _ _ h' => h')
theorem own_seqkey {M : Model} {h : Heap} {k : Value} {name : Str} (X : K.In h) (nd : PySem.W.mroIn K Ca (.type "collections.deque") = some false) (hy : h.get? a = some o) (hc : o.cls = .ref Ca) : PySem.W.Looks M h (sequenceKey (.ref a) k name) k := by
  have t1 : PySem.W.Looks M h (typeOf (.ref a)) (.ref Ca) := NwA.type_at hy hc
  have dq : PySem.W.Looks M h (seqItemTypes.anyM fun n => isSubtype (.ref Ca) (.type n)) false := by
    show PySem.W.Looks M h (isSubtype (.ref Ca) (.type "collections.deque") >>= fun b => _) false
    exact (PySem.W.looks_mroIn X nd).andThen .now
  intro A Q E s kp q
  unfold sequenceKey
  refine wpAny_bind (t1 A _ E s kp ?_)
  dsimp only
  refine wpAny_bind (dq A _ E s kp ?_)
  exact wpAny_pure q
theorem own_getItem {M : Model} {k : Value} {Q : Value → Shared → Prop} (X : K.In s.heap) (nd : PySem.W.mroIn K Ca (.type "collections.deque") = some false) (hy : s.heap.get? a = some o) (hc : o.cls = .ref Ca) (hm : Meth K Ca "__getitem__" f)
    (h : wpAny M A (call (.ref f) [.ref a, k]) Q E s) : wpAny M A (getItem (.ref a) k) Q E s := by
  unfold getItem
  refine wpAny_holding ?_
  refine wpAny_bind ((own_seqkey X nd hy hc).here ?_)
  refine wpAny_bind (own_call X hy hc hm ?_)
  exact wpAny_mono h (fun v s' h' => wpAny_pure h') fun _ _ h' => h'
theorem own_setItem {M : Model} {k v : Value} {Q : Unit → Shared → Prop} (X : K.In s.heap) (nd : PySem.W.mroIn K Ca (.type "collections.deque") = some false) (hy : s.heap.get? a = some o) (hc : o.cls = .ref Ca) (hm : Meth K Ca "__setitem__" f)
    (h : wpAny M A (call (.ref f) [.ref a, k, v]) (fun _ => Q ()) E s) : wpAny M A (setItem (.ref a) k v) Q E s := by
  unfold setItem
  refine wpAny_holding ?_
  refine wpAny_bind ((own_seqkey X nd hy hc).here ?_)
  refine wpAny_bind (own_call X hy hc hm ?_)
  exact wpAny_mono h (fun v s' h' => wpAny_pure h') fun _ _ h' => h'
theorem own_tail {value slice : Expr} {k : Value} {Q : Value → Shared → Prop} (X : K.In s.heap) (hy : s.heap.get? a = some o) (hc : o.cls = .ref Ca) (hm : Meth K Ca "__getitem__" f) (hf : PySem.W.fnIn K f = true)
    (h : wpAny (model prog w) A.in1 (call (.ref f) [.ref a, k]) Q E s) (hsl : subscripted slice true (.ref a) k = runValue (.builtin "lifetime.subscript" ⟨[.ref a, k], []⟩)) : wpAny (model prog w) A (subscriptTail value slice (.ref a) k) Q E s := by
  unfold PySem.W.fnIn at hf
  split at hf
  · rename_i e
    unfold subscriptTail getitemInPython
    refine wpAny_bind (wpAny_bind (wpAny_bind ((NwA.type_at hy hc).here ((PySem.W.looks_findIn X hm.at_).here ?_))))
    dsimp only
    refine wpAny_bind (wpAny_load (X _ _ e) (wpAny_pure ?_))
    dsimp only
    rw [hsl]
    refine wpAny_bind (wpAny_runValue (codeAny_builtin PySem.W.entry_sub ?_))
    unfold Builtin.«lifetime.subscript»
    refine wpAny_bind (own_call X hy hc hm (wpAny_mono h (fun v s' z => ?_) fun _ _ z => z))
    refine wpAny_pure ?_
    show wpAny (model prog w) A (letTemporaryGo value (.ref a) v >>= fun _ => pure v) Q E s'
    exact wpAny_bind (wpAny_letTemporaryGo (wpAny_pure z))
  · cases hf
theorem own_contains {k : Value} {Q : Bool → Shared → Prop} (X : K.In s.heap) (hy : s.heap.get? a = some o) (hc : o.cls = .ref Ca) (hm : Meth K Ca "__contains__" f)
    (h : wpAny (model prog w) A (call (.ref f) [.ref a, k]) (fun v s' => ∃ b, v = .bool b ∧ Q b s') E s) : wpAny (model prog w) A (contains (.ref a) k) Q E s := by
  unfold contains
  refine wpAny_holding ?_
  show wpAny _ _ (specialOf (.ref a) "__contains__" >>= _) _ _ _
  refine wpAny_bind ((own_spec X hy hc hm.at_).here ?_)
  rw [if_neg (by simp)]
  unfold callSpecialUnlessNone?
  refine wpAny_bind (wpAny_bind ((own_spec X hy hc hm.at_).here ?_))
  refine wpAny_holding (wpAny_bind ((PySem.W.bind_fn X (.ref a) (beq_iff_eq.mp hm.fn)).here ?_))
  dsimp only
  rw [if_neg (by simp)]
  refine wpAny_bind (wpAny_mono h (fun v s' ⟨b, e, q⟩ => ?_) fun _ _ z => z)
  subst e
  refine wpAny_pure ?_
  exact wpAny_truthy_bool q
theorem own_len {Q : Value → Shared → Prop} (X : K.In s.heap) (hy : s.heap.get? a = some o) (hc : o.cls = .ref Ca) (hm : Meth K Ca "__len__" f)
    (h : wpAny (model prog w) A.in1 (call (.ref f) [.ref a]) (fun v s' => ∃ (n : Int) (t : Tok), v = .int n t ∧ 0 ≤ n ∧ n < 2 ^ 63 ∧ Q (.int n (s'.toks)) { s' with toks := s'.toks + 1 }) E s) : wpAny (model prog w) A (call (.builtin "len") [.ref a]) Q E s := by
  refine Calls.call_function_entry kind_len plain_len entry_len (args_len1 _) ?_
  unfold Builtin.«len»
  refine wpAny_bind (m := oneArg "len" _) (wpAny_pure ?_)
  refine wpAny_bind (m := callSpecial? (.ref a) (PySem.Str.ofString "__len__")) (own_call X hy hc hm (wpAny_mono h (fun v s' ⟨n, t, e, h0, h1, q⟩ => ?_) fun _ _ z => z))
  subst e
  refine wpAny_bind (wpAny_holding (wpAny_pure ?_))
  refine wpAny_bind (wpAny_letGo ?_)
  rw [if_neg (by omega)]
  rw [if_neg (by omega)]
  exact wpAny_bind (wpAny_mkInt (wpAny_pure ⟨_, rfl, q⟩))
end
end G

set_option Elab.async false
set_option linter.all false
set_option maxRecDepth 100000
set_option maxHeartbeats 4000000
/-! G13: own dunders by data; append; d.get(k, x). -/
namespace G
open PySem PySem.Spec PyProof.Rows L2

section
variable {C : List (V × D)} {X : Cx} {W : WX} {pos : Pos}
/-- o is an instance of c: F at o and the further arguments -/
def dun (c : Str) (F : FF) (x : D) (more : List D) (h : List D) : R D := match objOf h x with
  | some (c', _, _) => bif decide (c' = c) then F (x :: more) h else .bad
  | none => .bad
theorem dun_step {K : PySem.W.Frag} {pn : List (Addr × Obj)} {Z : Addr → Prop} {σ : L2.St} {env : List Sl} {M : List Addr} {H : Hp} {h : List D} {c : Str} {F : FF} {x : D} {more : List D} {v : V} {G : List Addr → Hp → D → Prop}
    (s : SR K C pn Z M env h σ H) (r : Rep K (zn Z M) M H x v) (g : Got K C pn Z W σ env M H (dun c F x more h) G) : ∃ a dx fs, v = .ref a ∧ H a = some (.ins (He.ga K c) dx fs) ∧ Got K C pn Z W σ env M H (F (x :: more) h) G := by
  unfold dun at g
  cases eo : objOf h x with
  | none => rw [eo] at g; exact False.elim g
  | some t3 =>
    obtain ⟨c', ns, ds⟩ := t3
    rw [eo] at g
    dsimp only at g
    cases hb : decide (c' = c) with
    | false => rw [hb] at g; exact False.elim g
    | true =>
      rw [hb] at g
      obtain rfl := of_decide_eq_true hb
      obtain ⟨a, dx, fs, ev, ha, hk, q⟩ := objOf_rep s.sh eo r
      exact ⟨a, dx, fs, ev, ha, g⟩
theorem ins_at {pins : List (Addr × Obj)} {σ : L2.St} {H : Hp} {s : Shared} {a Ca dx : Addr} {fs : List (Str × V)} (I : Inv X pins σ H s) (e : H a = some (.ins Ca dx fs)) : ∃ o, s.heap.get? a = some o ∧ o.cls = .ref Ca := by
  obtain ⟨mA, O, _⟩ := ins_get I.hok e
  exact ⟨_, O.obj, rfl⟩
/-- two values with a state -/
def St2 (K : PySem.W.Frag) (C : List (V × D)) (pn : List (Addr × Obj)) (W : WX) (σ : L2.St) (f : D → D → List D → R D) (Q : VK) (x y : V) (H : Hp) : Prop := ∃ Z M env h d e, SR K C pn Z M env h σ H ∧ Rep K (zn Z M) M H d x ∧ Rep K (zn Z M) M H e y ∧
  Got K C pn Z W σ env M H (f d e h) (fun M' H' d => ∀ v, Rep K (zn Z M') M' H' d v → Q v H')
theorem st2_of {ma mb : ME} {f : D → D → List D → R D} {σ : L2.St} {H : Hp} {Q : VK} (t : tE X.K C X.pn W (c2 f ma mb) σ H Q) : tE X.K C X.pn W ma σ H fun x H1 => tE X.K C X.pn W mb σ H1 fun y H2 => St2 X.K C X.pn W σ f Q x y H2 := by
  obtain ⟨Z, M, env, h, s, g⟩ := t
  refine tE.step s g fun M1 H1 h1 d v e1 s1 r1 g1 => ?_
  refine tE.step s1 g1 fun M2 H2 h2 e w e2 s2 r2 g2 => ?_
  exact ⟨Z, M2, env, h2, d, e, s2, r1.mono e2, r2, g2⟩
/-- o[i], o of an own class -/
def oDix (c : Str) (F : FF) : D → D → List D → R D := fun x y h => dun c F x [y] h
theorem se_ixO {a b : Expr} {c : Str} {f : Addr} {F : FF} {ma mb : ME} (ha : SE C X W a ma) (hb : SE C X W b mb) (hm : Meth X.K (He.ga X.K c) "__getitem__" f) (hf : PySem.W.fnIn X.K f = true) (cal : Cal1 C X W (.ref f) F)
    (hsl : ∀ o i, subscripted b true o i = runValue (.builtin "lifetime.subscript" ⟨[o, i], []⟩) := by intro _ _; rfl) : SE C X W (.Subscript a b pos) (c2 (oDix c F) ma mb) := by
  refine ⟨fun pins s σ H Q I t => ?_⟩
  refine Subscript_ (binT ha hb I (st2_of t) fun v u s2 x y H2 I2 rx ry q => ?_)
  obtain ⟨Z, M, env, h, d, e, sr, rd, re, g⟩ := q
  obtain ⟨a', dx, fs, rfl, ea, g⟩ := dun_step sr rd g
  cases rx
  obtain ⟨o, ho, hc⟩ := ins_at I2 ea
  exact own_tail I2.kIn ho hc hm hf (cal pins s2 σ H2 Q Z M env h [d, e] [.ref a', y] [.ref a', u] I2 sr (Reps.cons rd (Reps.cons re Reps.nil)) (.cons rfl (.cons ry .nil)) g) (hsl _ _)
/-- i in o, i not in o -/
def oDin (c : Str) (F : FF) (neg : Bool) : D → D → List D → R D := fun y x h => (dun c F x [y] h).bind fun z h1 => match z with
  | .bl b => .ok (.bl (if neg then !b else b)) h1
  | _ => .bad
theorem din_run {neg : Bool} {c : Str} {f : Addr} {F : FF} (hm : Meth X.K (He.ga X.K c) "__contains__" f) (cal : Cal C X W (.ref f) F) {pins : List (Addr × Obj)} {s : Shared} {σ : L2.St} {H : Hp} {x y : V} {v u : Value} {Q : VK} (I : Inv X pins σ H s) (rx : RelV x v) (ry : RelV y u) (q : St2 X.K C X.pn W σ (oDin c F neg) Q x y H) :
    wpAny (model X.prog X.w) X.A (contains u v) (fun b s' => ∃ H', Inv X pins σ H' s' ∧ Q (.bl (if neg then !b else b)) H') X.xe s := by
  obtain ⟨Z, M, env, h, d, e, sr, rd, re, g⟩ := q
  have g' : Got X.K C X.pn Z W σ env M H (dun c F e [d] h) (fun M' H' z => ∀ w, Rep X.K (zn Z M') M' H' z w → ∃ b, w = .bl b ∧ Q (.bl (if neg then !b else b)) H') := by
    unfold oDin at g
    cases ed : dun c F e [d] h with
    | bad => rw [ed] at g; exact g
    | exc c' ns ds h1 => rw [ed] at g; exact g
    | ok z h1 =>
      rw [ed] at g
      intro M1 H1 e1 s1 w rw'
      cases z with
      | bl b =>
        cases rw'
        exact ⟨b, rfl, g M1 H1 e1 s1 _ (.bl _)⟩
      | _ => exact False.elim g
  obtain ⟨a', dx, fs, rfl, ea, g'⟩ := dun_step sr re g'
  cases ry
  obtain ⟨o, ho, hc⟩ := ins_at I ea
  refine own_contains I.kIn ho hc hm (wpAny_mono (cal pins s σ H (fun w H' => ∃ b, w = .bl b ∧ Q (.bl (if neg then !b else b)) H') Z M env h [e, d] [.ref a', x] [.ref a', v] I sr (Reps.cons re (Reps.cons rd Reps.nil)) (.cons rfl (.cons rx .nil)) g') (fun w s' hw => ?_) fun _ _ z => z)
  obtain ⟨z, H', I', rz, b, ez, q⟩ := hw
  subst ez
  cases rz
  exact ⟨b, rfl, H', I', q⟩
theorem cmp_in {pins : List (Addr × Obj)} {s : Shared} {σ : L2.St} {v u : Value} {Q : VK} (h : wpAny (model X.prog X.w) X.A (contains u v) (fun b s' => ∃ H', Inv X pins σ H' s' ∧ Q (.bl b) H') X.xe s) : wpAny (model X.prog X.w) X.A (compareOp .In v u) (EP X pins σ Q) X.xe s := by
  unfold compareOp
  exact wpAny_bind (wpAny_mono h (fun b s' ⟨H', I', q⟩ => wpAny_pure ⟨.bl b, H', I', rfl, q⟩) fun _ _ z => z)
theorem cmp_notin {pins : List (Addr × Obj)} {s : Shared} {σ : L2.St} {v u : Value} {Q : VK} (h : wpAny (model X.prog X.w) X.A (contains u v) (fun b s' => ∃ H', Inv X pins σ H' s' ∧ Q (.bl (!b)) H') X.xe s) : wpAny (model X.prog X.w) X.A (compareOp .NotIn v u) (EP X pins σ Q) X.xe s := by
  unfold compareOp
  exact wpAny_bind (wpAny_mono h (fun b s' ⟨H', I', q⟩ => wpAny_pure ⟨.bl (!b), H', I', rfl, q⟩) fun _ _ z => z)
theorem se_inO {a b : Expr} {c : Str} {f : Addr} {F : FF} {ma mb : ME} (ha : SE C X W a ma) (hb : SE C X W b mb) (hm : Meth X.K (He.ga X.K c) "__contains__" f) (cal : Cal C X W (.ref f) F) (hmk : behindInMarks .In b = false) : SE C X W (.Compare a [.In] [b] pos) (c2 (oDin c F false) ma mb) :=
  ⟨fun pins s σ H Q I t => wpAny_Compare1 (binT ha hb I (st2_of t) fun v u s2 x y H2 I2 rx ry q => cmp_in (din_run hm cal I2 rx ry q)) hmk⟩
theorem se_notinO {a b : Expr} {c : Str} {f : Addr} {F : FF} {ma mb : ME} (ha : SE C X W a ma) (hb : SE C X W b mb) (hm : Meth X.K (He.ga X.K c) "__contains__" f) (cal : Cal C X W (.ref f) F) (hmk : behindInMarks .NotIn b = false) : SE C X W (.Compare a [.NotIn] [b] pos) (c2 (oDin c F true) ma mb) :=
  ⟨fun pins s σ H Q I t => wpAny_Compare1 (binT ha hb I (st2_of t) fun v u s2 x y H2 I2 rx ry q => cmp_notin (din_run hm cal I2 rx ry q)) hmk⟩
theorem pt_of_bl {op : CmpOp} {a b : Expr} {ma mb : ME} {f : D → D → List D → R D} (ha : SE C X W a ma) (hb : SE C X W b mb) (hmk : behindInMarks op b = false)
    (run : ∀ pins s σ H x y v u (Q : VK), Inv X pins σ H s → RelV x v → RelV y u → St2 X.K C X.pn W σ f Q x y H → wpAny (model X.prog X.w) X.A (compareOp op v u) (EP X pins σ Q) X.xe s) : ST C X W (.Compare a [op] [b] pos) (cB (c2 f ma mb)) := by
  refine ⟨fun pins s σ H Q I t => ?_⟩
  refine wpAny_isTrue_Compare1 (thn (ha.run pins s σ H _ I (st2_of (tB_of t))) fun v s1 ⟨x, H1, I1, r1, q1⟩ => thn (hb.run pins s1 σ H1 _ I1 q1) fun u s2 ⟨y, H2, I2, r2, q2⟩ => ?_) hmk
  refine thn (run pins s2 σ H2 x y v u _ I2 r1 r2 q2) fun c s3 ⟨z, H3, I3, r3, k, e, q3⟩ => ?_
  subst e
  cases r3
  exact wpAny_truthy_bool ⟨H3, I3, q3⟩
theorem st_inO {a b : Expr} {c : Str} {f : Addr} {F : FF} {ma mb : ME} (ha : SE C X W a ma) (hb : SE C X W b mb) (hm : Meth X.K (He.ga X.K c) "__contains__" f) (cal : Cal C X W (.ref f) F) (hmk : behindInMarks .In b = false) : ST C X W (.Compare a [.In] [b] pos) (cB (c2 (oDin c F false) ma mb)) :=
  pt_of_bl ha hb hmk fun pins s σ H x y v u Q I rx ry q => cmp_in (din_run hm cal I rx ry q)
theorem st_notinO {a b : Expr} {c : Str} {f : Addr} {F : FF} {ma mb : ME} (ha : SE C X W a ma) (hb : SE C X W b mb) (hm : Meth X.K (He.ga X.K c) "__contains__" f) (cal : Cal C X W (.ref f) F) (hmk : behindInMarks .NotIn b = false) : ST C X W (.Compare a [.NotIn] [b] pos) (cB (c2 (oDin c F true) ma mb)) :=
  pt_of_bl ha hb hmk fun pins s σ H x y v u Q I rx ry q => cmp_notin (din_run hm cal I rx ry q)
/-- len(o) -/
def cLenO (c : Str) (F : FF) (m : ME) : ME := fun env h => (m env h).bind fun x h1 => (dun c F x [] h1).bind fun z h2 => match z with
  | .int n => bif decide (0 ≤ n) && decide (n < 2 ^ 63) then .ok (.int n) h2 else .bad
  | _ => .bad
theorem se_lenO {e : Expr} {c : Str} {f : Addr} {F : FF} {m : ME} {p : Pos} (hg : Gl X "len") (hm' : X.mg "len" = none) (he : SE C X W e m) (hm : Meth X.K (He.ga X.K c) "__len__" f) (cal : Cal1 C X W (.ref f) F)
    (hs : starEach [e] X.env = (false, eval e X.env) :: starEach [] X.env := by rfl) (hpl : (backTo pos (starEach [] X.env)).any (·.1) = false := by rfl) : SE C X W (.Call (.Name "len" p) [e] [] pos) (cLenO c F m) := by
  refine ⟨fun pins s σ H Q I ⟨Z, M, env, h, sr, g⟩ => ?_⟩
  refine wpAny_Call_Name_kw (ld_blt I hg hm' PyProof.Rows.bootS_len ?_ (by decide) (by decide))
  refine PyProof.Rows.callWith_builtin1 (thn ((pa_cons he pa_nil hs).run pos pins s σ H (fun vs H1 => ∃ M h x v, vs = [v] ∧ SR X.K C X.pn Z M env h σ H1 ∧ Rep X.K (zn Z M) M H1 x v ∧ Got X.K C X.pn Z W σ env M H1 ((dun c F x [] h).bind fun z h2 => match z with
    | .int n => bif decide (0 ≤ n) && decide (n < 2 ^ 63) then R.ok (D.int n) h2 else .bad
    | _ => .bad) (fun M' H' d => ∀ v, Rep X.K (zn Z M') M' H' d v → Q v H')) I ?_) fun us s1 ⟨vs, H1, I1, r1, M1, h1, x, v, ev, sr1, rx, g1⟩ => ?_) hs hpl
  · exact tE.step sr g fun M1 H1 h1 d v e1 s1 r1 g1 => ⟨M1, h1, d, v, rfl, s1, r1, g1⟩
  · subst ev
    obtain ⟨u, rfl, rv⟩ := vals1 r1
    have g' : Got X.K C X.pn Z W σ env M1 H1 (dun c F x [] h1) (fun M' H' z => ∀ w, Rep X.K (zn Z M') M' H' z w → ∃ n, w = .int n ∧ 0 ≤ n ∧ n < 2 ^ 63 ∧ Q (.int n) H') := by
      cases ed : dun c F x [] h1 with
      | bad => rw [ed] at g1; exact g1
      | exc c' ns ds h1 => rw [ed] at g1; exact g1
      | ok z h2 =>
        rw [ed] at g1
        intro M2 H2 e2 s2 w rw'
        cases z with
        | int n =>
          cases rw'
          have g1 : Got X.K C X.pn Z W σ env M1 H1 (bif decide (0 ≤ n) && decide (n < 2 ^ 63) then R.ok (D.int n) h2 else .bad) (fun M' H' d => ∀ v, Rep X.K (zn Z M') M' H' d v → Q v H') := g1
          cases hb : decide (0 ≤ n) && decide (n < 2 ^ 63) with
          | false => rw [hb] at g1; exact False.elim g1
          | true =>
            rw [hb] at g1
            obtain ⟨b1, b2⟩ := Bool.and_eq_true_iff.mp hb
            exact ⟨n, rfl, of_decide_eq_true b1, of_decide_eq_true b2, g1 M2 H2 e2 s2 _ (.int _)⟩
        | _ => exact False.elim g1
    obtain ⟨a', dx, fs, rfl, ea, g'⟩ := dun_step sr1 rx g'
    cases rv
    obtain ⟨o, ho, hc⟩ := ins_at I1 ea
    refine own_len I1.kIn ho hc hm (wpAny_mono (cal pins s1 σ H1 (fun w H' => ∃ n, w = .int n ∧ 0 ≤ n ∧ n < 2 ^ 63 ∧ Q (.int n) H') Z M1 env h1 [x] [.ref a'] [.ref a'] I1 sr1 (Reps.cons rx Reps.nil) (.cons rfl .nil) g') (fun w s' hw => ?_) fun _ _ z => z)
    obtain ⟨z, H', I', rz, n, ez, n0, n1, q⟩ := hw
    subst ez
    obtain ⟨t, rfl⟩ := rz
    exact ⟨n, t, rfl, n0, n1, .int n, H', I'.tok _, ⟨_, rfl⟩, q⟩
/-- o[i] = e -/
def sSubO (c : Str) (F : FF) (o i e : ME) : MS := fun env h => (e env h).thenS env fun x h1 => (o env h1).thenS env fun t h2 => (i env h2).thenS env fun y h3 => (dun c F t [y, x] h3).thenS env fun _ h4 => .nx env h4
theorem ss_subO {o i e : Expr} {c : Str} {f : Addr} {F : FF} {mo mi me : ME} {tpos : Pos} (ho : SE C X W o mo) (hi : SE C X W i mi) (he : SE C X W e me) (hm : Meth X.K (He.ga X.K c) "__setitem__" f) (nd : PySem.W.mroIn X.K (He.ga X.K c) (.type "collections.deque") = some false) (cal : Cal C X W (.ref f) F)
    (ha : ∀ v, assign (.Subscript o i tpos) X.env v = (do
      let ov ← holding [v] (eval o X.env)
      let iv ← holding [v, ov] (eval i X.env)
      standAt tpos
      holding [v, ov, iv] (setItem ov iv v)
      release [v, ov, iv] []) := by intro _; rfl) (hs : swapsWithSole [.Subscript o i tpos] e pos.line X.env = pure false := by rfl) (hw : swappedStores [.Subscript o i tpos] e X.env = pure none := by rfl)
    (h1 : (assignEach [.Subscript o i tpos] X.env).map (·.2) = [assign (.Subscript o i tpos) X.env] := by rfl) : SS C X W (.Assign [.Subscript o i tpos] e pos) (sSubO c F mo mi me) := by
  have pg : PG X (.Subscript o i tpos) (fun v σ H Qg => ∃ D' Z M env h d, SR X.K C X.pn Z M env h σ H ∧ Rep X.K (zn Z M) M H d v ∧ D'.nx = Qg ∧ GotS X.K C X.pn Z W M H ((mo env h).thenS env fun t h2 => (mi env h2).thenS env fun y h3 => (dun c F t [y, d] h3).thenS env fun _ h4 => .nx env h4) D') := by
    refine ⟨fun pins s σ H v u Q I r ⟨D', Z, M, env, h, d, sr, rd, eQ, g⟩ => ?_⟩
    rw [ha]
    refine wpAny_bind (wpAny_holding (thn (ho.run pins s σ H (fun t H1 => ∃ M h dt, SR X.K C X.pn Z M env h σ H1 ∧ Rep X.K (zn Z M) M H1 d v ∧ Rep X.K (zn Z M) M H1 dt t ∧ GotS X.K C X.pn Z W M H1 ((mi env h).thenS env fun y h3 => (dun c F dt [y, d] h3).thenS env fun _ h4 => .nx env h4) D') I ?_) fun ov s1 ⟨t, H1, I1, rt, M1, h1, dt, sr1, rd1, rdt, g1⟩ => ?_))
    · exact tE.stepS sr g fun M1 H1 h1 dt t e1 s1 r1 g1 => ⟨M1, h1, dt, s1, rd.mono e1, r1, g1⟩
    refine wpAny_bind (wpAny_holding (thn (hi.run pins s1 σ H1 (fun y H2 => ∃ M h dt dy, SR X.K C X.pn Z M env h σ H2 ∧ Rep X.K (zn Z M) M H2 d v ∧ Rep X.K (zn Z M) M H2 dt t ∧ Rep X.K (zn Z M) M H2 dy y ∧ GotS X.K C X.pn Z W M H2 ((dun c F dt [dy, d] h).thenS env fun _ h4 => .nx env h4) D') I1 ?_) fun iv s2 ⟨y, H2, I2, ry, M2, h2, dt, dy, sr2, rd2, rdt2, rdy, g2⟩ => ?_))
    · exact tE.stepS sr1 g1 fun M2 H2 h2 dy y e2 s2 r2 g2 => ⟨M2, h2, dt, dy, s2, rd1.mono e2, rdt.mono e2, r2, g2⟩
    refine wpAny_bind (wpAny_standAt (wpAny_bind (wpAny_holding ?_)))
    have g3 : Got X.K C X.pn Z W σ env M2 H2 (dun c F dt [dy, d] h2) (fun M' H' _ => D'.nx σ H') := by
      cases ed : dun c F dt [dy, d] h2 with
      | bad => rw [ed] at g2; exact g2
      | exc c' ns ds h1 => rw [ed] at g2; exact fun M' H' dx ev s' x => g2 M' σ H' dx ev s' x
      | ok z h3 => rw [ed] at g2; exact fun M' H' ev s' => g2 M' σ H' ev s'
    obtain ⟨a', dx, fs, rfl, ea, g3⟩ := dun_step sr2 rdt2 g3
    cases rt
    obtain ⟨o', ho', hc'⟩ := ins_at I2 ea
    refine own_setItem I2.kIn nd ho' hc' hm (wpAny_mono (cal pins s2 σ H2 (fun _ H' => D'.nx σ H') Z M2 env h2 [dt, dy, d] [.ref a', y, v] [.ref a', iv, u] I2 sr2 (Reps.cons rdt2 (Reps.cons rdy (Reps.cons rd2 Reps.nil))) (.cons rfl (.cons ry (.cons r .nil))) ?_) (fun w s' hw => ?_) fun _ _ z => z)
    · cases e3 : F [dt, dy, d] h2 with
      | bad => rw [e3] at g3; exact g3
      | exc c' ns ds h1 => rw [e3] at g3; exact g3
      | ok z h3 => rw [e3] at g3; exact fun M' H' ev s' v' _ => g3 M' H' ev s'
    · obtain ⟨z, H', I', _, q⟩ := hw
      exact wpAny_release ⟨σ, H', I', by rw [← eQ]; exact q⟩
  refine PS.weak (ps_asg he pg hs hw h1) fun D' σ H ⟨Z, M, env, h, s, g⟩ => ?_
  refine tE.stepS s g fun M1 H1 h1 x v e1 s1 r1 g1 => ?_
  exact ⟨D', Z, M1, env, h1, x, s1, r1, rfl, g1⟩
end
end G

set_option Elab.async false
set_option linter.all false
set_option maxRecDepth 100000
set_option maxHeartbeats 4000000
/-! G14: xs.append(e), d.get(k, x), name = [..], [.. for k in d]. -/
namespace G
open PySem PySem.Spec PyProof.Rows L2

section
variable {C : List (V × D)} {X : Cx} {W : WX} {pos : Pos}
/-! ### xs.append(e) -/
theorem se_app {o e : Expr} {mo me : ME} {apos : Pos} (ho : SE C X W o mo) (he : SE C X W e me) (hbase : attributeBase o "append" X.env (eval o X.env) = eval o X.env := by rfl)
    (hfew : ((backTo pos (starEach [e] X.env)).all (fun x => !x.1) && (backToKw pos (keywordEach [] X.env)).all (fun x => x.1.isSome)
      && decide (([e] : List Expr).length + ([] : List Keyword).length + (if ([] : List Keyword).isEmpty then 0 else 1) < 30)) = true := by rfl)
    (hline : (apos.endLine == pos.line) = true := by rfl) (hs : starEach [e] X.env = (false, eval e X.env) :: starEach [] X.env := by rfl) (hplain : (backTo pos (starEach [] X.env)).any (·.1) = false := by rfl) :
    SE C X W (.Call (.Attribute o "append" apos) [e] [] pos) (cApp mo me) := by
  refine PE.weak (pe_bm PySem.F.plainAttrs_list PySem.F.slot_list_append rfl mt_append ho (pa_cons he pa_nil hs) hbase hfew hline hs hplain) fun σ H Q ⟨Z, M, env, h, s, g⟩ => ?_
  refine tE.step s g fun M1 H1 h1 x v e1 s1 r1 g1 => ?_
  cases hx : lstH h1 x with
  | none => rw [hx] at g1; exact False.elim g1
  | some xs0 =>
    rw [hx] at g1
    obtain ⟨a, vs0, rfl, ha0, _⟩ := lstH_rep s1.sh hx r1
    refine ⟨.inl ⟨rfl, vs0, .inl (.inl ha0)⟩, ?_⟩
    refine tE.step s1 g1 fun M2 H2 h2 y w e2 s2 r2 g2 => ?_
    have r1' := r1.mono e2
    cases x with
    | loc n =>
      cases r1' with
      | loc hm =>
        unfold appD at g2
        dsimp only at g2
        cases hn : h2[n]? with
        | none => rw [hn] at g2; exact False.elim g2
        | some c =>
          rw [hn] at g2
          cases c with
          | lst xs =>
            dsimp only at g2
            obtain ⟨vs, ha, rs⟩ := s2.sh.cel n a _ hm hn
            cases hb : decide (xs.length < sizeLine) with
            | false => rw [hb] at g2; exact False.elim g2
            | true =>
              rw [hb] at g2
              have nf : ∀ u w, H2 a ≠ some (.frz u w) := fun u w z => by rw [ha] at z; cases z
              have ev := s2.sh.evw (o := .lst (vs ++ [w])) hm nf
              exact ⟨a, vs, w, rfl, rfl, ha, by rw [← rs.1]; exact of_decide_eq_true hb, g2 M2 _ ev (s2.later ev (s2.sh.write hm nf ⟨_, upd_same, (rs.append (Reps.cons r2 Reps.nil)).mono ev⟩)) _ .non⟩
          | _ => exact False.elim g2
    | _ => exact False.elim g2

/-! ### d.get(k, x) -/
def cGet2 (d k x : ME) : ME := fun env h => (d env h).bind fun t h1 => bif (dicOf h1 t).isSome then (k env h1).bind fun y h2 => (x env h2).bind fun z h3 => match dicOf h3 t with
  | some (ks, ds) => (match keyOf y with
    | some j => .ok ((kget ks ds j).getD z) h3
    | none => .bad)
  | none => .bad else .bad
theorem se_get2 {o e f : Expr} {mo me mf : ME} {apos : Pos} (hu : X.A.units + 1 < cLine) (ho : SE C X W o mo) (he : SE C X W e me) (hf : SE C X W f mf) (m : M2 X o "get" apos e f pos) : SE C X W (.Call (.Attribute o "get" apos) [e, f] [] pos) (cGet2 mo me mf) := by
  refine PE.weak (pe_dget2 hu ho he hf m) fun σ H Q ⟨Z, M, env, h, s, g⟩ => ?_
  refine tE.step s g fun M1 H1 h1 t v e1 s1 r1 g1 => ?_
  cases hd : dicOf h1 t with
  | none => rw [hd] at g1; exact False.elim g1
  | some p =>
    obtain ⟨ks0, ds0⟩ := p
    rw [hd] at g1
    obtain ⟨a, kvs0, rfl, hr0, _, _⟩ := dicOf_rep s1.sh hd r1
    refine ⟨a, rfl, .inl ⟨kvs0, hr0⟩, ?_⟩
    refine tE.step s1 g1 fun M2 H2 h2 y w e2 s2 r2 g2 => ?_
    refine tE.step s2 g2 fun M3 H3 h3 z u e3 s3 r3 g3 => ?_
    have rt := (r1.mono e2).mono e3
    have ry := r2.mono e3
    cases hd3 : dicOf h3 t with
    | none => rw [hd3] at g3; exact False.elim g3
    | some p =>
      obtain ⟨ks, ds⟩ := p
      rw [hd3] at g3
      dsimp only at g3
      obtain ⟨a', kvs, ea, hr, hk, rs⟩ := dicOf_rep s3.sh hd3 rt
      cases ea
      subst hk
      cases hy : keyOf y with
      | none => rw [hy] at g3; exact False.elim g3
      | some j =>
        rw [hy] at g3
        dsimp only at g3
        obtain rfl := keyOf_rep hy ry
        refine ⟨_, .inl ⟨kvs, j, hr, rfl, rfl⟩, ?_⟩
        cases e4 : kget (kvs.map (·.1)) ds j with
        | none =>
          rw [e4] at g3
          rw [kget_none rs e4]
          exact Got.now g3 s3 _ r3
        | some d =>
          rw [e4] at g3
          obtain ⟨v', q1, q2⟩ := kget_some rs e4
          rw [q1]
          exact Got.now g3 s3 _ q2
end

/-! ### name = [..] on one line -/
section
variable {C : List (V × D)} {X : Cx} {W : WX}
theorem ss_setLc {i : Nat} {y : Str} {py : Pos} {elt tg iter : Expr} {ifs : List Expr} {scope : Scope} {own : List (Str × Nat)} {pos spos : Pos} {src : MA} {T : Asg} {ts : List Nat} {tt : MT} {te : ME} (hc : X.calm = true) (hN : X.N.Nodup) (hy : X.N[i]? = some y) (hyl : X.env.scope.names.lookup y = some .local)
    (hsw : swapsWith (.ListComp elt [⟨tg, iter, ifs, 0⟩] scope pos) (some (.Name y py)) spos.line X.env = pure true) (hi : SI C X W tg iter src) (ok : BlkOk X.N X.env.scope scope own)
    (hg : ∀ (s : Shared) (H : Hp) (Ca : Addr) (cl : List (Str × Addr)) (fp : List Addr), SG C (X.blk s H scope (compEnvC scope cl Ca X.env) fp) tg T ts)
    (ht : ∀ (s : Shared) (H : Hp) (Ca : Addr) (cl : List (Str × Addr)) (fp : List Addr), STs C (X.blk s H scope (compEnvC scope cl Ca X.env) fp) (fun _ _ _ _ => False) ifs tt)
    (he : ∀ (s : Shared) (H : Hp) (Ca : Addr) (cl : List (Str × Addr)) (fp : List Addr), SE C (X.blk s H scope (compEnvC scope cl Ca X.env) fp) (fun _ _ _ _ => False) elt te)
    (sub : ∀ j ∈ ts, j ∈ own.map (·.2)) (hs : ∀ x, foldedSetIterable iter X.env x = pure x := by intro _; rfl) : SS C X W (.Assign [.Name y py] (.ListComp elt [⟨tg, iter, ifs, 0⟩] scope pos) spos) (sSet i (cLc src T tt te (own.map (·.2)))) := by
  refine PS.weak (ps_setLc (g := tG X.K C [] T ts) (tt := tT X.K C [] (fun _ _ _ _ => False) tt) (te := tE X.K C [] (fun _ _ _ _ => False) te) hc hN hy hyl hsw hi ok hg ht he hs) fun D' σ H ⟨Z, M, env, h, s, g⟩ => ?_
  have g' : Got X.K C X.pn Z W σ env M H ((aLc src T tt te (own.map (·.2)) env h).bind fun ds h1 => .ok (.lst ds) h1) (fun M' H' d => ∀ v, Rep X.K (zn Z M') M' H' d v → D'.nx (σ.set i (some v)) H') := by
    unfold sSet cLc at g
    cases e : aLc src T tt te (own.map (·.2)) env h with
    | bad => rw [e] at g; exact g
    | exc c ns ds h1 => rw [e] at g; exact fun M' H' dx ev s' x => g M' σ H' dx ev s' x
    | ok ds h1 => rw [e] at g; exact fun M' H' ev s' v r => g M' _ H' ev (s'.set r)
  refine lc_ok (K := X.K) sub s g' fun M' H' h' ds us p ev hp0 zp so hp rs g'' => ?_
  have np : p ∉ M' := fun m => (so.sh.mz p m).2 rfl
  have back : ∀ a, (Z a ∧ a ≠ p) → H' a ≠ none → Z a := fun a z _ => z.1
  have r := rs.sub back
  exact g'' M' H' ev (so.sub back fun q hq => (so.sh.all q hq).1) _ (.lst ⟨zp, np⟩ hp r.1 r.2)
end
end G

set_option Elab.async false
set_option linter.all false
set_option maxRecDepth 100000
set_option maxHeartbeats 4000000
/-! G15: [.. for k in d], d locked the while. -/
namespace G
open PySem PySem.Spec PyProof.Rows L2

section
variable {K : PySem.W.Frag} {C : List (V × D)} {pn : List (Addr × Obj)} {Z : Addr → Prop} {M : List Addr} {H : Hp} {env : List Sl} {h : List D} {σ : L2.St}
theorem Rep.pokeM {a : Addr} {u : HO} (m : a ∈ M) (nl : ∀ o xs, H a ≠ some (.frz o (.lst xs))) {d : D} {v : V} (r : Rep K (zn Z M) M H d v) : Rep K (zn Z M) M (upd H a u) d v := by
  have ne : ∀ b, zn Z M b → b ≠ a := fun b z e => z.2 (by rw [e]; exact m)
  have rd : ∀ {b : Addr} {o : HO}, zn Z M b → Rd H b o → Rd (upd H a u) b o := fun {b o} z r => by
    unfold Rd
    rw [upd_ne (ne b z)]
    exact r
  induction r with
  | non => exact .non
  | bl b => exact .bl b
  | int i => exact .int i
  | str x => exact .str x
  | tup t l _ ih => exact .tup (t.map fun z h => ⟨z, rd z h⟩) l ih
  | lst z h l _ ih => exact .lst z (by rw [upd_ne (ne _ z)]; exact h) l ih
  | dic z h k l _ ih => exact .dic z (rd z h) k l ih
  | obj z h k l _ ih => exact .obj z (by rw [upd_ne (ne _ z)]; exact h) k l ih
  | loc h => exact .loc h
  | cls => exact .cls
  | scr s =>
    rcases s with ⟨o, c⟩ | s
    · exact .scr (.inl ⟨o, by rw [upd_ne (fun e => nl _ _ (by rw [← e]; exact c))]; exact c⟩)
    · exact .scr (.inr s)
theorem Reps.pokeM {a : Addr} {u : HO} (m : a ∈ M) (nl : ∀ o xs, H a ≠ some (.frz o (.lst xs))) {ds : List D} {vs : List V} (r : Reps K (zn Z M) M H ds vs) : Reps K (zn Z M) M (upd H a u) ds vs := ⟨r.1, fun i d v h1 h2 => (r.2 i d v h1 h2).pokeM m nl⟩
/-- a mutable object is written, whatever it was -/
theorem SR.force {a : Addr} {n : Nat} {u : HO} {c : D} (s : SR K C pn Z M env h σ H) (hm : M[n]? = some a) (nl : ∀ o xs, H a ≠ some (.frz o (.lst xs))) (cl : Cel K (zn Z M) M (upd H a u) a c) : SR K C pn Z M env (h.set n c) σ (upd H a u) := by
  have m := List.mem_of_getElem? hm
  refine ⟨⟨fun q hq => s.sh.all q ?_, s.sh.mz, fun q hq => ⟨(s.sh.cst q hq).1, (s.sh.cst q hq).2.pokeM m nl⟩, s.sh.nd, by simp [s.sh.len], fun i b d' h1 h2 => ?_⟩, fun i d hd => ?_, fun i c ns ds hd => ?_, s.len⟩
  · by_cases z : q = a
    · rw [z, upd_same] at hq; cases hq
    · rw [upd_ne z] at hq; exact hq
  · rw [List.getElem?_set] at h2
    have hn := (List.getElem?_eq_some_iff.mp hm)
    by_cases e : n = i
    · subst e
      rw [if_pos rfl] at h2
      split at h2
      · cases h2
        rw [hm] at h1
        cases h1
        exact cl
      · cases h2
    · rw [if_neg e] at h2
      have nb : b ≠ a := fun z => by
        subst z
        exact e ((List.getElem?_inj hn.1 s.sh.nd).mp (hm.trans h1.symm))
      have c := s.sh.cel i b d' h1 h2
      cases d' with
      | lst xs => obtain ⟨vs, q, r⟩ := c; exact ⟨vs, by rw [upd_ne nb]; exact q, r.pokeM m nl⟩
      | dic ks ds => obtain ⟨vs, q, k, r⟩ := c; exact ⟨vs, by rw [upd_ne nb]; exact q, k, r.pokeM m nl⟩
      | obj c ns ds => obtain ⟨dx, vs, q, k, r⟩ := c; exact ⟨dx, vs, by rw [upd_ne nb]; exact q, k, r.pokeM m nl⟩
      | lck ks ds => obtain ⟨vs, o, q, k, r⟩ := c; exact ⟨vs, o, by rw [upd_ne nb]; exact q, k, r.pokeM m nl⟩
      | _ => exact False.elim c
  · obtain ⟨v, h1, h2⟩ := s.slots i d hd
    exact ⟨v, h1, h2.pokeM m nl⟩
  · obtain ⟨a', dx, h1, h2, fs, h3, h4, h5, h6⟩ := s.exc i c ns ds hd
    exact ⟨a', dx, h1, h2, fs, by rw [upd_ne (fun e => h4 (by rw [e]; exact m))]; exact h3, h4, h5, h6.pokeM m nl⟩
end

def keyD : Key → D
  | .inl i => .int i
  | .inr x => .str x
theorem keyD_rep {K : PySem.W.Frag} {Z : Addr → Prop} {M : List Addr} {H : Hp} (k : Key) : Rep K Z M H (keyD k) (kV k) := by
  cases k with
  | inl i => exact .int i
  | inr x => exact .str x
def iKeysD (n : Nat) (m : ME) : MA := fun env h => (m env h).bind fun d h1 => match d with
  | .loc k => bif decide (k = n) then (match h1[k]? with
    | some (.lck ks _) => .ok (ks.map keyD) h1
    | _ => .bad) else .bad
  | _ => .bad
section
variable {C : List (V × D)} {X : Cx} {W : WX}
theorem itr_keys {d : Addr} {o : Obj} {kvs : List (Key × V)} : ItR X.K C (Itk d o kvs) ((kvs.map (·.1)).map keyD) (fun Z M H => H d = some (.frz o (.dK kvs))) where
  go := fun i Z M H hi h => ⟨h, by simpa using hi⟩
  stop := fun Z M H h => ⟨h, by simp⟩
  yld := fun i Z M h H x H' e hI sh ⟨eH, k, v, hk, ex⟩ hd => by
    subst eH
    subst ex
    rw [List.getElem?_map, List.getElem?_map, hk] at hd
    cases hd
    exact ⟨.refl M H', sh, keyD_rep k⟩
  mono := fun Z M H M' H' h e => e.fz _ _ _ h
  zone := fun Z Z' M H h k => h
  poke := fun Z M H p us ys h nz hp => by rw [upd_ne (fun e : d = p => by rw [e, hp] at h; cases h)]; exact h
theorem si_keysD {tg e : Expr} {m : ME} (n : Nat) (he : SE C X W e m) : SI C X W tg e (iKeysD n m) := by
  refine PI.weak (pi_keys he) fun σ H R ⟨Z, M, env, h, s, g⟩ => ?_
  refine tE.step s g fun M1 H1 h1 d v e1 s1 r1 g1 => ?_
  cases r1 with
  | loc hm =>
    rename_i k a
    dsimp only at g1
    cases hk : decide (k = n) with
    | false => rw [hk] at g1; exact False.elim g1
    | true =>
      rw [hk] at g1
      dsimp only [cond_true] at g1
      cases hx : h1[k]? with
      | none => rw [hx] at g1; exact False.elim g1
      | some c =>
        rw [hx] at g1
        cases c with
        | lck ks ds =>
          obtain ⟨kvs, o, q, hk, r⟩ := s1.sh.cel k a _ hm hx
          subst hk
          exact ⟨a, o, rfl, .inl ⟨kvs, q, Got.now g1 s1 _ _ itr_keys q⟩⟩
        | _ => exact False.elim g1
  | _ => exact False.elim g1
def cLcDic (m : ME) (T : Asg) (tt : MT) (te : ME) (vs : List Nat) : ME := fun env h => match m env h with
  | .ok (.loc n) _ => (match h[n]? with
    | some (.dic ks ds) => (match aLc (iKeysD n m) T tt te vs env (h.set n (.lck ks ds)) with
      | .ok xs h1 => (match h1[n]? with
        | some (.lck ks' ds') => .ok (.lst xs) (h1.set n (.dic ks' ds'))
        | _ => .bad)
      | _ => .bad)
    | _ => .bad)
  | _ => .bad
/-- the walk, locked -/
theorem lcDic_ok {m : ME} {T : Asg} {ts vs : List Nat} {tt : MT} {te : ME} (sub : ∀ j ∈ ts, j ∈ vs) {Q : VK} {σ : L2.St} {H : Hp} {tg e : Expr} (t : tE X.K C X.pn W (cLcDic m T tt te vs) σ H Q) :
    ∃ n, tLockE (tLc (tI X.K C X.pn W (iKeysD n m)) (tG X.K C [] T ts) (tT X.K C [] (fun _ _ _ _ => False) tt) (tE X.K C [] (fun _ _ _ _ => False) te) vs) σ H Q := by
  obtain ⟨Z, M, env, h, s, g⟩ := t
  unfold cLcDic at g
  cases em : m env h with
  | bad => rw [em] at g; exact False.elim g
  | exc c ns ds h1 => rw [em] at g; exact False.elim g
  | ok d h0 =>
    rw [em] at g
    cases d with
    | loc n =>
      dsimp only at g
      cases hn : h[n]? with
      | none => rw [hn] at g; exact False.elim g
      | some c =>
        rw [hn] at g
        cases c with
        | dic ks ds =>
          dsimp only at g
          refine ⟨n, ?_⟩
          have hl := (List.getElem?_eq_some_iff.mp hn).1
          have hl' : n < M.length := by rw [s.sh.len]; exact hl
          have hm : M[n]? = some M[n] := List.getElem?_eq_getElem hl'
          obtain ⟨kvs, ha, hk, rs⟩ := s.sh.cel n _ _ hm hn
          generalize ea : M[n] = a at hm ha
          have mem := List.mem_of_getElem? hm
          refine ⟨a, .dK kvs, ha, by trivial, fun od => ?_⟩
          have nf : ∀ u w, H a ≠ some (.frz u w) := fun u w z => by rw [ha] at z; cases z
          have evL := s.sh.evw (o := .frz od (.dK kvs)) hm nf
          have sL : SR X.K C X.pn Z M env (h.set n (.lck ks ds)) σ (upd H a (.frz od (.dK kvs))) := s.later evL (s.sh.write hm nf ⟨kvs, od, upd_same, hk, rs.mono evL⟩)
          refine lc_ok (K := X.K) (α := List D × List D) (f := fun xs h1 => .ok (xs, h1) h1) (G := fun M' H' p => aLc (iKeysD n m) T tt te vs env (h.set n (.lck ks ds)) = .ok p.1 p.2) sub sL ?_ fun M' H' h' xs us p ev hp0 zp so hp rs' g' => ?_
          · cases e : aLc (iKeysD n m) T tt te vs env (h.set n (.lck ks ds)) with
            | bad => rw [e] at g; exact g
            | exc c ns ds h1 => rw [e] at g; exact False.elim g
            | ok xs h1 => exact fun M' H' _ _ => rfl
          · have np : p ∉ M' := fun m => (so.sh.mz p m).2 rfl
            have back : ∀ a, (Z a ∧ a ≠ p) → H' a ≠ none → Z a := fun a z _ => z.1
            have s' := so.sub back fun q hq => (so.sh.all q hq).1
            have e := g' M' H' ev s'
            dsimp only at e
            rw [e] at g
            dsimp only at g
            have hfz : H' a = some (.frz od (.dK kvs)) := ev.fz a _ _ upd_same
            refine ⟨hfz, ?_⟩
            cases hn' : h'[n]? with
            | none => rw [hn'] at g; exact False.elim g
            | some c =>
              rw [hn'] at g
              cases c with
              | lck ks' ds' =>
                have hm' : M'[n]? = some a := ev.get hm
                obtain ⟨kvs', o', q1, q2, q3⟩ := s'.sh.cel n a _ hm' hn'
                rw [hfz] at q1
                cases q1
                have nl : ∀ o xs, H' a ≠ some (.frz o (.lst xs)) := fun o xs z => by rw [hfz] at z; cases z
                have mem' := List.mem_of_getElem? hm'
                have s2 := s'.force (u := .dK kvs) (c := .dic ks' ds') hm' nl ⟨kvs, upd_same, q2, q3.pokeM mem' nl⟩
                have ne : ∀ b, b ∉ M → b ≠ a := fun b nb e => nb (by rw [e]; exact mem)
                have ev2 : Evo M H M' (upd H' a (.dK kvs)) := by
                  refine ⟨ev.pre, fun b m1 m2 => ?_, fun b o hb m2 => ?_, fun b o u hb => ?_⟩
                  · have := ev.new b m1 m2
                    rw [upd_ne (ne b m2)] at this
                    exact this
                  · rw [upd_ne (ne b m2)]
                    exact ev.keep b o (by rw [upd_ne (ne b m2)]; exact hb) m2
                  · have nb : b ≠ a := fun e => by rw [e, ha] at hb; cases hb
                    rw [upd_ne nb]
                    exact ev.fz b o u (by rw [upd_ne nb]; exact hb)
                have pa : p ≠ a := fun e => np (by rw [e]; exact mem')
                have r := (rs'.sub back).pokeM (u := .dK kvs) mem' nl
                exact g M' _ ev2 s2 _ (.lst ⟨zp, np⟩ (by rw [upd_ne pa]; exact hp) r.1 r.2)
              | _ => exact False.elim g
        | _ => exact False.elim g
    | _ => exact False.elim g
theorem se_lcDic {elt tg iter : Expr} {ifs : List Expr} {scope : Scope} {own : List (Str × Nat)} {pos : Pos} {m : ME} {T : Asg} {ts : List Nat} {tt : MT} {te : ME} (hc : X.calm = true) (hN : X.N.Nodup) (hi : SE C X W iter m) (ok : BlkOk X.N X.env.scope scope own)
    (hg : ∀ (s : Shared) (H : Hp) (Ca : Addr) (cl : List (Str × Addr)) (fp : List Addr), SG C (X.blk s H scope (compEnvC scope cl Ca X.env) fp) tg T ts)
    (ht : ∀ (s : Shared) (H : Hp) (Ca : Addr) (cl : List (Str × Addr)) (fp : List Addr), STs C (X.blk s H scope (compEnvC scope cl Ca X.env) fp) (fun _ _ _ _ => False) ifs tt)
    (he : ∀ (s : Shared) (H : Hp) (Ca : Addr) (cl : List (Str × Addr)) (fp : List Addr), SE C (X.blk s H scope (compEnvC scope cl Ca X.env) fp) (fun _ _ _ _ => False) elt te)
    (sub : ∀ j ∈ ts, j ∈ own.map (·.2)) (hs : ∀ x, foldedSetIterable iter X.env x = pure x := by intro _; rfl) : SE C X W (.ListComp elt [⟨tg, iter, ifs, 0⟩] scope pos) (cLcDic m T tt te (own.map (·.2))) := by
  refine ⟨fun pins s σ H Q I t => ?_⟩
  obtain ⟨n, q⟩ := lcDic_ok (tg := tg) (e := iter) sub t
  exact (pe_lock (pe_lc (g := tG X.K C [] T ts) (tt := tT X.K C [] (fun _ _ _ _ => False) tt) (te := tE X.K C [] (fun _ _ _ _ => False) te) hc hN (si_keysD n hi) ok hg ht he hs)).run pins s σ H Q I q
end
end G

set_option Elab.async false
set_option linter.all false
set_option maxRecDepth 100000
set_option maxHeartbeats 4000000
/-! G16: a law's end over the data layer; d.get(k, x) of a dict of the module. -/
namespace G
open PySem PySem.Spec PyProof.Rows L2

/-- a law: F gives the written part, the function object, the def by data, that it answers True -/
theorem walk_ofG {l : PySem.W.OpenLaw} {n k : Nat} {q : Program} {loose : List Str} {XP : (Str → Option Value) → Heap → Prop} {YP : World → Heap → Prop} {d : DefRec} {x : Str}
    (hn : l.most = some n) (hn2 : n ≤ sizeLine) (hdf : d.params.defaults = []) (hr : Room k callerA)
    (F : ∀ (w : World) (mg : Str → Option Value) (fa : Addr) (h : Heap), YP w h → h.Ns mainGlobals mg → mg d.name = some (.ref fa) →
      ∃ (K : PySem.W.Frag) (FF : FF), K.In h ∧ (∀ ns : List Int, ns.length ≤ n → ∃ h', FF [.scr ns] [] = .ok (.bl true) h') ∧
        ∀ base : Heap, K.In base → base.Ns mainGlobals mg → ∃ fd, FnG l.prog w K mg base (L2.CX l.prog w) k fa fd [x] (spI K [] 1 FF) ∧ Binds K fd [x] []) :
    PySem.W.WalkO q loose XP YP l.row.toRowW d [] (fun f vs => PySem.call f vs) := by
  refine Att.attach_call hn hdf fun w s₁' s₁ mg mb fa o pm cd doc a vs ns G Y ho hd hcd hmg hobj hints hlen hg => ?_
  obtain ⟨K, FF, KX, hT, hF⟩ := F w mg fa _ Y G.T.g hmg
  have rv := vals_ints hints
  have lenV := hints.length
  have hz : ns.length ≤ sizeLine := Nat.le_trans hlen hn2
  -- the script alone may be tracked
  have core : ∀ H : Hp, (∀ b u, H b = some u → b = a ∧ u = .frz { cls := .type "list", data := .seq vs.toArray } (.lst (ns.map V.int)) ∧ K.lookup a = none) →
      ((∃ o, H a = some (.frz o (.lst (ns.map V.int)))) ∨ SqL K (fun _ => none) a (ns.map V.int)) →
      codeAny (model l.prog w) callerA (.call (.ref fa) ⟨[.ref a], []⟩) (fun r s' => r = .ok (.ret (.bool true)) ∧ OldK s₁.heap s'.heap ∧ s'.os = s₁.os ∧ AllBare s'.gens) s₁ := by
    intro H hO hS
    have hok : HOk l.prog w H s₁.heap := fun b u q => by
      obtain ⟨rfl, rfl, _⟩ := hO b u q
      exact ⟨hobj, by rw [List.length_map]; exact hz, vs, _, rv, hobj⟩
    have off : ∀ {b : Addr} {o : Obj} {es : Array DictEntry} {ep : Nat}, s₁.heap.get? b = some o → o.data = .dict es ep → H b = none := fun {b o es ep} e d => by
      cases q : H b with
      | none => rfl
      | some u =>
        obtain ⟨rfl, _, _⟩ := hO b u q
        rw [hobj] at e; cases e
        cases (show Data.seq vs.toArray _ = Data.dict es ep from d)
    have nsK : ∀ {b : Addr} {m : Str → Option Value}, s₁.heap.Ns b m → (hidT s₁.heap H).Ns b m := fun {b m} ⟨o, es, ep, e, d, r⟩ => ⟨o, es, ep, hidT_get e (off e d), d, r⟩
    have hKb : K.In (hidT s₁.heap H) := fun b o e => hidT_get (KX b o e) (by
      cases q : H b with
      | none => rfl
      | some u =>
        obtain ⟨rfl, _, n⟩ := hO b u q
        rw [n] at e; cases e)
    have hM : Mod K mg (hidT s₁.heap H) := ⟨hKb, nsK G.T.g, ⟨mb, nsK G.T.b, G.T.builtins⟩, let ⟨mc, h1, h2⟩ := G.T.nolimit; ⟨mc, nsK h1, h2⟩⟩
    have e0 : Env0 l.prog w K mg (hidT s₁.heap H) callerA [] s₁ H := ⟨rfl, hM, fun b o e => of_hidT e, Nat.le_of_eq (hidT_size _ _), trivial, fun b hb => (by cases hb), hok, .of_eq hg⟩
    have hsp : spI K [] 1 FF [.ref a] H (fun v _ => v = .bl true) (fun _ _ _ => False) := by
      obtain ⟨h', e⟩ := hT ns hlen
      refine ⟨fun _ => True, [], [], [.scr ns], ⟨fun _ _ => trivial, fun b hb => (by cases hb), fun p hp => (by cases hp), List.nodup_nil, rfl, fun i b c h1 => by simp at h1⟩, Reps.cons (.scr hS) Reps.nil, rfl, ?_⟩
      rw [e]
      intro M' H' v _ _ r
      cases r
      rfl
    obtain ⟨fd, FO, hb⟩ := hF _ hKb (nsK G.T.g)
    refine codeAny_mono (FO.run callerA [] s₁ H ⟨[.ref a], []⟩ [.ref a] [.ref a] _ _ ⟨hr, rfl⟩ e0 (hb s₁ [.ref a] KX rfl) (.cons rfl .nil) hsp) fun r s' h => ?_
    cases r with
    | error e =>
      obtain ⟨_, _, _, _, _, _, _, _, _, _, _, _, z⟩ := h
      exact False.elim z
    | ok fl =>
      cases fl with
      | next => exact False.elim h
      | brk => exact False.elim h
      | cont => exact False.elim h
      | ret u =>
        obtain ⟨v, H', os, bare, un, hok', r', q⟩ := h
        have q' : v = .bl true := q
        subst q'
        obtain rfl : u = Value.bool true := r'
        refine ⟨rfl, OldK.of_keep fun b o e => ?_, os, bare⟩
        cases q : H b with
        | none => exact un.keep b o e q (by intro z; cases z) (by simp)
        | some u =>
          obtain ⟨eb, eu, _⟩ := hO b u q
          subst eu
          have z2 := un.frzs b _ _ q
          obtain ⟨e2, _⟩ := hok' b _ z2
          subst eb
          rw [hobj] at e; cases e
          exact e2
  cases hk : K.lookup a with
  | some o =>
    have e := KX a o hk
    rw [hobj] at e
    cases e
    exact core (fun _ => none) (fun b u q => by cases q) (.inr (.inr ⟨_, vs.toArray, _, hk, rfl, rfl, rfl, by rw [List.size_toArray, lenV]; exact hz, by simpa using rv⟩))
  | none =>
    refine core (fun b => if b = a then some (.frz { cls := .type "list", data := .seq vs.toArray } (.lst (ns.map V.int))) else none) (fun b u q => ?_) (.inl ⟨_, if_pos rfl⟩)
    by_cases hb : b = a
    · rw [if_pos hb] at q
      cases q
      exact ⟨hb, rfl, hk⟩
    · rw [if_neg hb] at q
      cases q

/-! ### D.get(k, x), D a dict of the module with text keys -/
section
variable {C : List (V × D)} {X : Cx} {W : WX} {pos : Pos}
/-- tbl is what the written dict at a says -/
def Tbl (K : PySem.W.Frag) (w : World) (a : Addr) (tbl : List (Str × D)) : Prop := (∃ es n, KDict K w a es n) ∧ ∀ z : Str, match tbl.lookup z with
  | some d => ∃ u v, PySem.W.nsIn K a z = some (some u) ∧ RelV v u ∧ ∀ Z M H, Rep K Z M H d v
  | none => PySem.W.nsIn K a z = some none
def cGetK (tbl : List (Str × D)) (k x : ME) : ME := fun env h => (k env h).bind fun y h1 => (x env h1).bind fun z h2 => match y with
  | .str s => .ok ((tbl.lookup s).getD z) h2
  | _ => .bad
theorem se_getK {x : Str} {e f : Expr} {me mf : ME} {p apos : Pos} {a : Addr} {tbl : List (Str × D)} (hg : Gl X x) (hm : X.mg x = some (.ref a)) (T : Tbl X.K X.w a tbl) (he : SE C X W e me) (hf : SE C X W f mf) (m : M2 X (.Name x p) "get" apos e f pos)
    (hd : (x == ("__debug__" : Str)) = false := by decide) : SE C X W (.Call (.Attribute (.Name x p) "get" apos) [e, f] [] pos) (cGetK tbl me mf) := by
  obtain ⟨⟨es, n, D⟩, T⟩ := T
  refine ⟨fun pins s σ H Q I ⟨Z, M, env, h, sr, g⟩ => ?_⟩
  refine wpAny_Call_method m.base m.few m.line PySem.F.plainAttrs_dict PySem.F.slot_dict_get PySem.F.type_dict_get (thn ((pe_glob (v := .ref a) hg hm rfl hd).run pins s σ H (fun x' H1 => x' = .ref a ∧ H1 = H) I ⟨rfl, rfl⟩) fun u s1 ⟨x', H1, I1, rx, ex, eH⟩ => ?_)
  subst ex
  subst eH
  obtain rfl : u = Value.ref a := rx
  have hm1 := PySem.W.mapOf_K (prog := X.prog) (w := X.w) I1.kIn D.at_ D.lit
  refine ⟨hm1.typeIs, hm1.noDict, ?_⟩
  rw [m.trees]
  refine Calls.callWith_builtin rfl (Calls.evalArgs_plain (Calls.spliced_cons (thn (he.run pins s1 σ H1 (fun y H2 => ∃ M h dy, SR X.K C X.pn Z M env h σ H2 ∧ Rep X.K (zn Z M) M H2 dy y ∧ Got X.K C X.pn Z W σ env M H2 ((mf env h).bind fun z h2 => match dy with
    | .str s => R.ok ((tbl.lookup s).getD z) h2
    | _ => .bad) (fun M' H' d => ∀ v, Rep X.K (zn Z M') M' H' d v → Q v H')) I1 ?_) fun iv s2 ⟨y, H2, I2, ry, M2, h2, dy, s3, rdy, g2⟩ =>
    Calls.spliced_cons (thn (hf.run pins s2 σ H2 (fun z H3 => ∃ M h dz, SR X.K C X.pn Z M env h σ H3 ∧ Rep X.K (zn Z M) M H3 dz z ∧ Got X.K C X.pn Z W σ env M H3 (match dy with
    | .str s => R.ok ((tbl.lookup s).getD dz) h
    | _ => .bad) (fun M' H' d => ∀ v, Rep X.K (zn Z M') M' H' d v → Q v H')) I2 ?_) fun fv s4 ⟨z, H3, I3, rz, M3, h3, dz, s5, rdz, g3⟩ => Calls.spliced_nil ?_))))
  · exact tE.step sr g fun M1 H1 h1 dy v e1 s1 r1 g1 => ⟨M1, h1, dy, s1, r1, g1⟩
  · exact tE.step s3 g2 fun M1 H1 h1 dz v e1 s1 r1 g1 => ⟨M1, h1, dz, s1, r1, g1⟩
  · cases rdy with
    | str zs =>
      obtain ⟨t, rfl⟩ := ry
      have hm3 := PySem.W.mapOf_K (prog := X.prog) (w := X.w) I3.kIn D.at_ D.lit
      have t3 := T zs
      dsimp only at g3
      refine call_meetsIn PySem.F.slot_dict_get hm3.typeIs PySem.F.entry_dict_get (PySem.F.args_dict_get_3 _ _ _) (meets_dict_get_default (strKind X.prog X.w) a (strKind_is X.prog X.w zs t) D.low fv) ⟨_, hm3, ?_⟩
      cases hl : tbl.lookup zs with
      | none =>
        rw [hl] at t3 g3
        rw [PySem.W.find_K D.at_ t3]
        exact ⟨z, H3, I3.tok _, rz, Got.now g3 s5 _ rdz⟩
      | some d =>
        rw [hl] at t3 g3
        obtain ⟨u, v, e1, e2, e3⟩ := t3
        rw [PySem.W.find_K D.at_ e1]
        exact ⟨v, H3, I3.tok _, e2, Got.now g3 s5 _ (e3 _ _ _)⟩
    | _ => exact False.elim g3
end
end G

set_option Elab.async false
set_option linter.all false
set_option maxRecDepth 100000
set_option maxHeartbeats 4000000
/-! G17: facts of the head as Bools: own exception classes, tables of the module, defs that can be called. -/
namespace G
open PySem PySem.Spec PyProof.Rows L2

def oexB (K : PySem.W.Frag) (C : Addr) : Bool := match K.lookup C with
  | some ⟨.type "type", _, .cls cd, sl⟩ => (match cd.mro, sl.toList with
    | .ref C' :: bm, [_, _, _, _, some (.builtin n), _] => C' == C && (n == "ValueError.__new__" && (!cd.hasDel && (cd.hasDict && (PySem.HandSPX.refsVE bm && (decide (PySem.W.findIn K (.ref C) "__setattr__" = some (some (.builtin "object.__setattr__"))) &&
        (decide (PySem.W.subIn K (.ref C) (.type "BaseException") = some true) && (decide (PySem.W.typeIn K (.ref C) = some (.type "type")) && PySem.W.keepIn K (.ref C))))))))
    | _, _ => false)
  | _ => false
theorem oexB_ok {K : PySem.W.Frag} {C : Addr} (q : oexB K C = true) : OexC K C := by
  unfold oexB at q
  split at q
  · rename_i dd cd sl ho
    split at q
    · rename_i C' bm k0 k1 k2 k3 n k5 hm hs
      simp only [Bool.and_eq_true, beq_iff_eq, Bool.not_eq_true', decide_eq_true_eq] at q
      obtain ⟨rfl, rfl, hdel, hd, ht, h1, h2, h3, h4⟩ := q
      obtain ⟨nm, bs, mro, ns, qn, hd', sn, sub, ab, col, del⟩ := cd
      dsimp only at hm hdel hd
      subst hm hdel hd
      have hsl : sl = #[k0, k1, k2, k3, some (.builtin "ValueError.__new__"), k5] := by
        obtain ⟨l⟩ := sl
        simp only at hs
        rw [hs]
      subst hsl
      exact ⟨⟨nm, qn, ns, bs, bm, sn, sub, ab, col, dd, k0, k1, k2, k3, k5, ho, ht⟩, h1, h2, h3, h4⟩
    · cases q
  · cases q

/-! ### a table of the module, text keys -/
theorem nsIn_miss {K : PySem.W.Frag} {a : Addr} {z : Str} {P : Params} {ks : List Str} (h : He.dicW K a = some (He.keysIn P ks)) (hz : z ∉ ks) : PySem.W.nsIn K a z = some none := by
  unfold He.dicW at h
  unfold PySem.W.nsIn
  cases q : K.lookup a with
  | none => rw [q] at h; cases h
  | some o =>
    obtain ⟨oc, od, dt, osl⟩ := o
    rw [q] at h
    cases oc with
    | type c =>
      cases od with
      | some d => cases dt <;> cases h
      | none =>
        cases dt with
        | dict es n =>
          dsimp only at h ⊢
          cases hb : decide (c = "dict") && (osl.isEmpty && !(a == sysModules)) with
          | false => rw [hb] at h; cases h
          | true =>
            rw [hb] at h
            have h : es.toList.map He.keyOf = He.keysIn P ks := Option.some.inj h
            have key : ∀ e ∈ es.toList, ∃ x t, e.key = .str x t ∧ x ∈ ks := fun e he => by
              have m := List.mem_map_of_mem (f := He.keyOf) he
              rw [h] at m
              unfold He.keysIn at m
              obtain ⟨k, hk, ek⟩ := List.mem_map.mp m
              unfold He.keyOf at ek
              cases hkey : e.key with
              | str x t =>
                rw [hkey] at ek
                have q : k = x := congrArg Prod.fst (Option.some.inj ek)
                subst q
                exact ⟨k, t, rfl, hk⟩
              | _ => rw [hkey] at ek; cases ek
            have f : es.toList.find? (·.key.isStr z) = none := by
              rw [List.find?_eq_none]
              intro e he
              obtain ⟨x, t, ek, hx⟩ := key e he
              rw [ek]
              intro q
              have : x = z := by
                have q' : (x == z) = true := q
                exact eq_of_beq q'
              exact hz (this ▸ hx)
            have g : es.toList.any (·.refKey) = false := by
              rw [List.any_eq_false]
              intro e he
              obtain ⟨x, t, ek, hx⟩ := key e he
              unfold DictEntry.refKey
              rw [ek]
              exact Bool.false_ne_true
            rw [f, g]
            rfl
        | _ => cases h
    | _ => cases od <;> cases dt <;> cases h
/-- the table's values -/
inductive Dc where
  | int (i : Int) | str (x : Str) | bl (b : Bool) | non
def Dc.d : Dc → D
  | .int i => .int i
  | .str x => .str x
  | .bl b => .bl b
  | .non => .non
def Dc.v : Dc → V
  | .int i => .int i
  | .str x => .str x
  | .bl b => .bl b
  | .non => .non
theorem Dc.rep {K : PySem.W.Frag} {Z : Addr → Prop} {M : List Addr} {H : Hp} (c : Dc) : Rep K Z M H c.d c.v := by
  cases c with
  | int i => exact .int i
  | str x => exact .str x
  | bl b => exact .bl b
  | non => exact .non
def tblB (K : PySem.W.Frag) (a : Addr) (t : List (Str × Dc)) : Bool := t.all fun q => match PySem.W.nsIn K a q.1 with
  | some (some u) => He.relB q.2.v u
  | _ => false
theorem lookup_map {t : List (Str × Dc)} {z : Str} : (t.map fun q => (q.1, q.2.d)).lookup z = (t.lookup z).map Dc.d := by
  induction t with
  | nil => rfl
  | cons p t ih =>
    rw [List.map_cons, List.lookup_cons, List.lookup_cons]
    cases h : z == p.1 with
    | true => rfl
    | false => exact ih
theorem lookup_none {t : List (Str × Dc)} {z : Str} (h : t.lookup z = none) : z ∉ t.map (·.1) := by
  induction t with
  | nil => simp
  | cons p t ih =>
    rw [List.lookup_cons] at h
    cases hz : z == p.1 with
    | true => rw [hz] at h; cases h
    | false =>
      rw [hz] at h
      rw [List.map_cons, List.mem_cons]
      rintro (e | m)
      · rw [e, beq_self_eq_true] at hz; cases hz
      · exact ih h m
theorem tbl_ok {K : PySem.W.Frag} {w : World} {a : Addr} {t : List (Str × Dc)} (h : He.dicW K a = some (He.keysIn w.params (t.map (·.1)))) (hv : tblB K a t = true) : Tbl K w a (t.map fun q => (q.1, q.2.d)) := by
  refine ⟨He.dicW_ok h, fun z => ?_⟩
  rw [lookup_map]
  cases hl : t.lookup z with
  | none => exact nsIn_miss h (lookup_none hl)
  | some c =>
    have q := List.all_eq_true.mp hv (z, c) (lookup_in hl)
    dsimp only at q
    cases hn : PySem.W.nsIn K a z with
    | none => rw [hn] at q; cases q
    | some o =>
      cases o with
      | none => rw [hn] at q; cases q
      | some u =>
        rw [hn] at q
        exact ⟨u, c.v, rfl, He.relB_ok q, fun Z M H => c.rep⟩

/-! ### defs that can be called -/
/-- f is a def with F as its function, k deep -/
def Is (P : Program) (w : World) (K : PySem.W.Frag) (mg : Str → Option Value) (base : Heap) (k : Nat) (f : Addr) (ps : List Str) (F : FF) : Prop :=
  ∃ fd, FnG P w K mg base (L2.CX P w) k f fd ps (spI K [] ps.length F) ∧ Binds K fd ps [] ∧ PySem.W.keepIn K (.ref f) = true ∧ ∀ d h, F d h ≠ .bad → d.length = ps.length
theorem Is.mono {P : Program} {w : World} {K : PySem.W.Frag} {mg : Str → Option Value} {base : Heap} {j k : Nat} {f : Addr} {ps : List Str} {F : FF} (i : Is P w K mg base j f ps F) (h : j ≤ k) : Is P w K mg base k f ps F := by
  obtain ⟨fd, FO, r⟩ := i
  exact ⟨fd, FO.mono h, r⟩
theorem nilD (F : FF) : (fun es h => F (es ++ []) h) = F := by
  funext es h
  rw [List.append_nil]
theorem Is.cal {X : Cx} {W : WX} {k : Nat} {f : Addr} {ps : List Str} {F : FF} (i : Is X.prog X.w X.K X.mg X.base k f ps F) (tk : Takes X W) (hr : RG k X.A) : Cal [] X W (.ref f) F := by
  obtain ⟨fd, FO, hb, _, hn⟩ := i
  have c := cal_fn (C := []) (ds := []) (dvs := []) tk FO hr hb .nil [] (fun _ _ _ => Reps.nil) hn
  rw [nilD] at c
  exact c
theorem Is.cal1 {X : Cx} {W : WX} {k : Nat} {f : Addr} {ps : List Str} {F : FF} (i : Is X.prog X.w X.K X.mg X.base k f ps F) (tk : Takes X W) (hr : RG (k + 1) X.A) : Cal1 [] X W (.ref f) F := by
  obtain ⟨fd, FO, hb, _, hn⟩ := i
  have c := cal_fn1 (C := []) (ds := []) (dvs := []) tk FO hr hb .nil [] (fun _ _ _ => Reps.nil) hn
  rw [nilD] at c
  exact c
theorem Is.mk {X : Cx} {W : WX} {k : Nat} {c : Str} {f : Addr} {ps : List Str} {F : FF} (i : Is X.prog X.w X.K X.mg X.base k f ps F) (tk : Takes X W) (MK : Mk X.K (He.ga X.K c) f) (hr : RG (k + 1) X.A) : Cal [] X W (.ref (He.ga X.K c)) (mkF c F) := by
  obtain ⟨fd, FO, hb, _, hn⟩ := i
  have q := cal_make (C := []) (ds := []) (dvs := []) tk MK FO hr hb .nil [] (fun _ _ _ => Reps.nil) hn
  rw [nilD] at q
  exact q
/-- a def by its body's judgement -/
theorem is_mk {P : Program} {w : World} {K : PySem.W.Frag} {mg : Str → Option Value} {base : Heap} {x qual : Str} {params : Arguments} {body : List Stmt} {scope : Scope} {f : Addr} {fd : FuncData} {N ps : List Str} {k : Nat} {m : MS}
    (F : FunD K x qual params body scope [] [] f fd) (S : FnScope N ps scope) (hb : Binds K fd ps [])
    (h : ∀ (cdv : Value) (A : Around) (outer : List Env) (s : Shared) (H : Hp) (E : XK) (W : WX), RG k (A.deeper (envOfC qual scope s.heap.objs.size f cdv)) → Takes (cxOf (L2.CX P w) P w K mg base N qual scope f cdv A outer s H E) W → SB [] (cxOf (L2.CX P w) P w K mg base N qual scope f cdv A outer s H E) W body m) :
    Is P w K mg base (k + 1) f ps (runF m ps.length N.length) :=
  ⟨fd, fn_mk F S h, hb, F.kp, fun d h e => runF_len e⟩
theorem takes_no {X : Cx} : Takes X (fun _ _ _ _ => False) := fun e s' q => by
  obtain ⟨a, B, sI, pins', σ', H', cls, d, _, _, _, _, _, _, _, _, z⟩ := q
  exact z.elim
theorem RG.u1 {k : Nat} {A : Around} (r : RG k A) : A.units + 1 < cLine := by have := r.rm.un; omega
theorem RG.u64 {k : Nat} {A : Around} (r : RG k A) : A.units + 64 < cLine := by have := r.rm.un; omega
def vvB (K : PySem.W.Frag) (C : Addr) : Bool := match PySem.W.findCls K (.ref C) (.type "type") "__init__" with
  | some (.val (.builtin n)) => n == "ValueError.__init__"
  | _ => false
theorem vvB_ok {K : PySem.W.Frag} {C : Addr} (h : vvB K C = true) : PySem.W.findCls K (.ref C) (.type "type") "__init__" = some (.val (.builtin "ValueError.__init__")) := by
  unfold vvB at h
  split at h
  · rename_i n e
    rw [e, eq_of_beq h]
  · cases h
end G

set_option Elab.async false
set_option linter.all false
set_option maxRecDepth 100000
set_option maxHeartbeats 4000000
/-! G18: the head's facts, over what hangs on the module and some further addresses. -/
namespace G
open PySem PySem.Spec PyProof.Rows L2

structure SaysY (fa : List He.Fa) (fn : List He.DefD) (ts : List He.Tab) (ex : PySem.W.Frag → Bool) (w : World) (K : PySem.W.Frag) : Prop where
  t : He.SaysT fa fn ts w K
  more : ex K = true
def frY (g : Addr → Option Obj) (n : Nat) : PySem.W.Frag := He.frG g (He.asD g n ++ [cStatics])
def obsY (n : Nat) (fa : List He.Fa) (fn : List He.DefD) (ts : List He.Tab) (ex : PySem.W.Frag → Bool) (g : Addr → Option Obj) : He.AlX := (He.obsT fa fn ts (frY g n), ex (frY g n))
def hookY (n : Nat) (fa : List He.Fa) (fn : List He.DefD) (ts : List He.Tab) (ex : PySem.W.Frag → Bool) : PySem.W.Hook where
  α := He.AlX
  obs := fun s => obsY n fa fn ts ex s.heap.get?
  val := fun w => He.valX fn ts w
  says := fun w h => ∃ K : PySem.W.Frag, K.In h ∧ SaysY fa fn ts ex w K
  of := fun _ _ e => ⟨_, He.frG_in, congrArg (fun z : He.AlX => z.1) e, congrArg (fun z : He.AlX => z.2) e⟩
  keeps := fun _ _ _ ⟨K, hK, c⟩ k => ⟨K, PySem.W.Frag.In.keeps hK k, c⟩
theorem obsY_eq {n : Nat} {fa : List He.Fa} {fn : List He.DefD} {ts : List He.Tab} {ex : PySem.W.Frag → Bool} {g : Addr → Option Obj} {s : Shared} (h : ∀ a, g a = s.heap.get? a) : obsY n fa fn ts ex g = (hookY n fa fn ts ex).obs s := by
  have e : g = s.heap.get? := funext h
  rw [e] <;> rfl
end G

set_option Elab.async false
set_option linter.all false
set_option maxRecDepth 100000
set_option maxHeartbeats 4000000
/-! P0: plain laws: loops, comprehensions, texts of data. -/
namespace G
open PySem PySem.Spec PyProof.Rows L2

theorem set_get {h : List D} {p : Nat} {c d : D} (hp : h[p]? = some c) : (h.set p d)[p]? = some d := by
  rw [List.getElem?_set_self (List.getElem?_eq_some_iff.mp hp).1]
theorem set_ne {h : List D} {p n : Nat} {d : D} (hp : p ≠ n) : (h.set p d)[n]? = h[n]? := List.getElem?_set_ne hp
theorem app_get {h t : List D} {n : Nat} {d : D} (hn : h[n]? = some d) : (h ++ t)[n]? = some d := by
  rw [List.getElem?_append_left (List.getElem?_eq_some_iff.mp hn).1]; exact hn
theorem set_same {h : List D} {n : Nat} {d : D} (hn : h[n]? = some d) : h.set n d = h := by
  obtain ⟨hl, e⟩ := List.getElem?_eq_some_iff.mp hn
  rw [← e]; exact List.set_getElem_self hl
theorem set_back {h : List D} {n : Nat} {c d : D} (hn : h[n]? = some d) : (h.set n c).set n d = h := by
  rw [List.set_set]; exact set_same hn

theorem sSeq_nx {a b : MS} {env env' : List Sl} {h h' : List D} (e : a env h = .nx env' h') : sSeq a b env h = b env' h' := by unfold sSeq; rw [e]
theorem sSeq_rt {a b : MS} {env : List Sl} {d : D} {h h' : List D} (e : a env h = .rt d h') : sSeq a b env h = .rt d h' := by unfold sSeq; rw [e]
theorem sSeq_exc {a b : MS} {env env' : List Sl} {c ns ds} {h h' : List D} (e : a env h = .exc c ns ds env' h') : sSeq a b env h = .exc c ns ds env' h' := by unfold sSeq; rw [e]
theorem cCall1 {f : D → List D → R D} {m : ME} {env : List Sl} {h h' : List D} {d : D} (e : m env h = .ok d h') : cCall (f1 f) (aCons m aNil) env h = f d h' := by unfold cCall aCons aNil; rw [e]; rfl
theorem iSeq_lst {m : ME} {env : List Sl} {h h' : List D} {xs : List D} (e : m env h = .ok (.lst xs) h') : iSeq m env h = .ok xs h' := by unfold iSeq; rw [e]; rfl
/-- a comprehension whose test and item leave the heap -/
theorem lcGo_filter {T : Asg} {tt : MT} {te : ME} {env : List Sl} {h : List D} {f : D → D} {b : D → Bool} : ∀ (items acc : List D), acc.length + items.length ≤ sizeLine →
    (∀ d ∈ items, ∃ env1, T env d = some env1 ∧ tt env1 h = .ok (b d) h ∧ (b d = true → te env1 h = .ok (f d) h)) → lcGo T tt te env items acc h = .ok (acc ++ (items.filter b).map f) h
  | [], acc, _, _ => by simp [lcGo]
  | d :: items, acc, hl, hs => by
    obtain ⟨env1, e1, e2, e3⟩ := hs d List.mem_cons_self
    have hl' : acc.length + (items.length + 1) ≤ sizeLine := by simpa using hl
    unfold lcGo
    rw [e1]
    dsimp only
    rw [e2]
    cases hb : b d with
    | false =>
      have ih := lcGo_filter (T := T) (tt := tt) (te := te) (env := env) (h := h) (f := f) (b := b) items acc (by omega) (fun x hx => hs x (List.mem_cons_of_mem _ hx))
      simp only [R.noexc, R.bind_ok]
      rw [ih, List.filter_cons_of_neg (by rw [hb]; decide)]
    | true =>
      have ih := lcGo_filter (T := T) (tt := tt) (te := te) (env := env) (h := h) (f := f) (b := b) items (acc ++ [f d]) (by simp; omega) (fun x hx => hs x (List.mem_cons_of_mem _ hx))
      simp only [R.noexc, R.bind_ok]
      rw [e3 hb]
      simp only [R.bind_ok]
      rw [decide_eq_true (show acc.length < sizeLine by omega), cond_true, ih, List.filter_cons_of_pos hb]
      simp
theorem lcGo_map {T : Asg} {te : ME} {env : List Sl} {h : List D} {f : D → D} (items : List D) (hl : items.length ≤ sizeLine)
    (hs : ∀ d ∈ items, ∃ env1, T env d = some env1 ∧ te env1 h = .ok (f d) h) : lcGo T mYes te env items [] h = .ok (items.map f) h := by
  have := lcGo_filter (T := T) (tt := mYes) (te := te) (env := env) (h := h) (f := f) (b := fun _ => true) items [] (by simpa using hl) (fun d hd => by
    obtain ⟨env1, e1, e2⟩ := hs d hd
    exact ⟨env1, e1, rfl, fun _ => e2⟩)
  rw [this]
  have e : items.filter (fun _ => true) = items := List.filter_eq_self.mpr (fun _ _ => rfl)
  rw [e]; simp
/-- a loop by its invariant -/
theorem forGo_inv {T : Asg} {m : MS} {I : Nat → List Sl → List D → Prop} : ∀ (items : List D) (i : Nat) (env : List Sl) (h : List D), I i env h →
    (∀ j d env h, items[j]? = some d → I (i + j) env h → ∃ env1 env' h', T env d = some env1 ∧ (m env1 h = .nx env' h' ∨ m env1 h = .ct env' h') ∧ I (i + j + 1) env' h') →
    ∃ env' h', forGo T m items env h = .nx env' h' ∧ I (i + items.length) env' h'
  | [], i, env, h, hi, _ => ⟨env, h, rfl, hi⟩
  | d :: items, i, env, h, hi, hs => by
    obtain ⟨env1, env', h', e1, e2, e3⟩ := hs 0 d env h rfl hi
    obtain ⟨env2, h2, e4, e5⟩ := forGo_inv (T := T) (m := m) (I := I) items (i + 1) env' h' e3 (fun j d env h hj hI => by
      have e : i + (j + 1) = i + 1 + j := by omega
      have := hs (j + 1) d env h (by simpa using hj) (by rw [e]; exact hI)
      rw [e] at this; exact this)
    refine ⟨env2, h2, ?_, ?_⟩
    · unfold forGo
      rw [e1]
      dsimp only
      rcases e2 with e2 | e2 <;> (rw [e2]; exact e4)
    · have e : i + (d :: items).length = i + 1 + items.length := by simp; omega
      rw [e]; exact e5

/-! ### data as texts -/
def FW (n W : Nat) (p : PyData) : Bool := p.canLay0 && (decide (p.depth ≤ n) && (decide (p.weight ≤ W) && (p.intsShort 13 && p.showable)))
theorem FW.mono {n W n' W' : Nat} {p : PyData} (f : FW n W p = true) (h1 : n ≤ n') (h2 : W ≤ W') : FW n' W' p = true := by
  simp only [FW, Bool.and_eq_true, decide_eq_true_eq] at f ⊢
  exact ⟨f.1, by omega, by omega, f.2.2.2⟩
theorem FWs {n W : Nat} : ∀ {ps : List PyData}, (∀ p ∈ ps, FW n W p = true) → PyData.canLayAll0 ps = true ∧ PyData.depthAll ps ≤ n ∧ PyData.weightAll ps ≤ ps.length * (W + 1) ∧ PyData.intsShortAll 13 ps = true ∧ PyData.showableAll ps = true
  | [], _ => by simp [PyData.canLayAll0, PyData.depthAll, PyData.weightAll, PyData.intsShortAll, PyData.showableAll]
  | p :: ps, h => by
    obtain ⟨h1, h2, h3, h4, h5⟩ := FWs (ps := ps) (fun q hq => h q (List.mem_cons_of_mem _ hq))
    have hp := h p List.mem_cons_self
    simp only [FW, Bool.and_eq_true, decide_eq_true_eq] at hp
    refine ⟨by simp [PyData.canLayAll0, hp.1, h1], by simp only [PyData.depthAll]; omega, ?_, by simp [PyData.intsShortAll, hp.2.2.2.1, h4], by simp [PyData.showableAll, hp.2.2.2.2, h5]⟩
    simp only [PyData.weightAll, List.length_cons]
    have : (ps.length + 1) * (W + 1) = ps.length * (W + 1) + (W + 1) := by rw [Nat.add_mul, Nat.one_mul]
    omega
theorem FW_list {n W m : Nat} {ps : List PyData} (h : ∀ p ∈ ps, FW n W p = true) (hm : ps.length ≤ m) : FW (n + 1) (m * (W + 1)) (.list ps) = true := by
  obtain ⟨h1, h2, h3, h4, h5⟩ := FWs h
  have : ps.length * (W + 1) ≤ m * (W + 1) := Nat.mul_le_mul_right _ hm
  have e1 : PyData.canLay0 (.list ps) = true := by rw [PyData.canLay0]; exact h1
  have e2 : PyData.depth (.list ps) ≤ n + 1 := by rw [PyData.depth]; omega
  have e3 : PyData.weight (.list ps) ≤ m * (W + 1) := by rw [PyData.weight]; omega
  have e4 : PyData.intsShort 13 (.list ps) = true := by rw [PyData.intsShort]; exact h4
  have e5 : PyData.showable (.list ps) = true := by rw [PyData.showable]; exact h5
  unfold FW
  rw [e1, decide_eq_true e2, decide_eq_true e3, e4, e5]
  rfl
theorem FW_tuple {n W m : Nat} {ps : List PyData} (h : ∀ p ∈ ps, FW n W p = true) (hm : ps.length ≤ m) : FW (n + 1) (m * (W + 1)) (.tuple ps) = true := by
  obtain ⟨h1, h2, h3, h4, h5⟩ := FWs h
  have : ps.length * (W + 1) ≤ m * (W + 1) := Nat.mul_le_mul_right _ hm
  have e1 : PyData.canLay0 (.tuple ps) = true := by rw [PyData.canLay0]; exact h1
  have e2 : PyData.depth (.tuple ps) ≤ n + 1 := by rw [PyData.depth]; omega
  have e3 : PyData.weight (.tuple ps) ≤ m * (W + 1) := by rw [PyData.weight]; omega
  have e4 : PyData.intsShort 13 (.tuple ps) = true := by rw [PyData.intsShort]; exact h4
  have e5 : PyData.showable (.tuple ps) = true := by rw [PyData.showable]; exact h5
  unfold FW
  rw [e1, decide_eq_true e2, decide_eq_true e3, e4, e5]
  rfl
theorem FW_str {x : Str} {W : Nat} (h1 : PyData.strOk x = true) (h2 : x.length ≤ W) : FW 0 W (.str x) = true := by
  have e1 : PyData.canLay0 (.str x) = true := by rw [PyData.canLay0]; exact h1
  have e2 : PyData.depth (.str x) ≤ 0 := by rw [PyData.depth]; omega
  have e3 : PyData.weight (.str x) ≤ W := by rw [PyData.weight]; exact h2
  have e4 : PyData.intsShort 13 (.str x) = true := by rw [PyData.intsShort]
  have e5 : PyData.showable (.str x) = true := by rw [PyData.showable]
  unfold FW
  rw [e1, decide_eq_true e2, decide_eq_true e3, e4, e5]
  rfl
theorem FW_shown {n W : Nat} {p : PyData} (f : FW n W p = true) (hn : n ≤ 60) (hW : W ≤ 1048576) : p.showable = true ∧ p.hasDict = false ∧ p.depth ≤ 60 ∧ p.shown.length ≤ sizeLine ∧ SeqAt.shaped p = true := by
  simp only [FW, Bool.and_eq_true, decide_eq_true_eq] at f
  have hl : PyData.layable0 p = true := by
    show (PyData.canLay0 p && decide (PyData.depth p ≤ 64) && decide (PyData.weight p ≤ 2 ^ 20)) = true
    simp only [Bool.and_eq_true, decide_eq_true_eq]
    exact ⟨⟨f.1, by omega⟩, by have : (2:Nat) ^ 20 = 1048576 := by decide
                               omega⟩
  have := shown_le13 hl f.2.2.2.1
  exact ⟨f.2.2.2.2, PyData.hasDict_of_canLay p f.1, by omega, by have : sizeLine = 16777216 := by decide
                                                                 omega, SeqAt.shaped_of_layable hl⟩
theorem repr_ok {h : List D} {d : D} {p : PyData} {n W : Nat} (e : toPy pyF h d = some p) (f : FW n W p = true) (hn : n ≤ 60) (hW : W ≤ 1048576) : reprD d h = .ok (.str p.shown) h := by
  obtain ⟨h1, h2, h3, h4, _⟩ := FW_shown f hn hW
  unfold reprD
  rw [e]
  dsimp only
  rw [h1, h2, decide_eq_true h3, decide_eq_true h4]
  rfl
theorem eqD_ok {neg : Bool} {h : List D} {x y : D} {p q : PyData} {n W n' W' : Nat} (e : toPy pyF h x = some p) (e' : toPy pyF h y = some q) (f : FW n W p = true) (f' : FW n' W' q = true) (hn : n ≤ 60) (hW : W ≤ 1048576) (hn' : n' ≤ 60) (hW' : W' ≤ 1048576) :
    oEqD neg x y h = .ok (.bl (if neg then !PyData.eqv p q else PyData.eqv p q)) h := by
  obtain ⟨_, _, _, _, h1⟩ := FW_shown f hn hW
  obtain ⟨_, _, _, _, h2⟩ := FW_shown f' hn' hW'
  unfold oEqD
  rw [e, e']
  dsimp only
  rw [h1, h2]
  rfl
mutual
theorem eqv_refl : ∀ p : PyData, p.canLay0 = true → PyData.eqv p p = true
  | .none, _ => by simp [PyData.eqv]
  | .bool b, _ => by simp [PyData.eqv]
  | .int i, _ => by simp [PyData.eqv]
  | .str x, _ => by simp [PyData.eqv]
  | .list xs, h => by
    rw [PyData.eqv]
    exact eqvAll_refl xs (by simpa [PyData.canLay0] using h)
  | .tuple xs, h => by
    rw [PyData.eqv]
    exact eqvAll_refl xs (by simpa [PyData.canLay0] using h)
  | .dict kvs, h => by simp [PyData.canLay0] at h
theorem eqvAll_refl : ∀ ps : List PyData, PyData.canLayAll0 ps = true → PyData.eqvAll ps ps = true
  | [], _ => by simp [PyData.eqvAll]
  | p :: ps, h => by
    simp only [PyData.canLayAll0, Bool.and_eq_true] at h
    rw [PyData.eqvAll, eqv_refl p h.1, eqvAll_refl ps h.2]
    rfl
end
theorem FW.lay {n W : Nat} {p : PyData} (f : FW n W p = true) : p.canLay0 = true := by
  simp only [FW, Bool.and_eq_true] at f
  exact f.1
/-- a data's text whatever the heap is -/
def Py (n : Nat) (d : D) (p : PyData) : Prop := ∀ (h : List D) (f : Nat), n ≤ f → toPy f h d = some p
theorem Py.mono {n m : Nat} {d : D} {p : PyData} (k : Py n d p) (hm : n ≤ m) : Py m d p := fun h f hf => k h f (by omega)
theorem py_non : Py 1 .non .none := fun h f hf => by cases f with | zero => omega | succ f => rw [toPy]
theorem py_bl {b} : Py 1 (.bl b) (.bool b) := fun h f hf => by cases f with | zero => omega | succ f => rw [toPy]
theorem py_int {i} : Py 1 (.int i) (.int i) := fun h f hf => by cases f with | zero => omega | succ f => rw [toPy]
theorem py_str {x} : Py 1 (.str x) (.str x) := fun h f hf => by cases f with | zero => omega | succ f => rw [toPy]
theorem pyL {n : Nat} : ∀ {ds : List D} {ps : List PyData}, ds.length = ps.length → (∀ (i : Nat) (d : D) (p : PyData), ds[i]? = some d → ps[i]? = some p → Py n d p) → ∀ (h : List D) (f : Nat), n + ds.length + 1 ≤ f → toPyL f h ds = some ps
  | [], [], _, _, h, f, hf => by cases f with | zero => omega | succ f => rw [toPyL]
  | d :: ds, p :: ps, hl, hs, h, f, hf => by
    cases f with
    | zero => omega
    | succ f =>
      simp only [List.length_cons] at hf
      rw [toPyL, hs 0 d p rfl rfl h f (by omega)]
      dsimp only
      rw [pyL (n := n) (ds := ds) (ps := ps) (by simpa using hl) (fun i d p h1 h2 => hs (i + 1) d p (by simpa using h1) (by simpa using h2)) h f (by omega)]
      rfl
theorem py_tup {n : Nat} {ds : List D} {ps : List PyData} (hl : ds.length = ps.length) (hs : ∀ (i : Nat) (d : D) (p : PyData), ds[i]? = some d → ps[i]? = some p → Py n d p) : Py (n + ds.length + 2) (.tup ds) (.tuple ps) := fun h f hf => by
  cases f with
  | zero => omega
  | succ f => rw [toPy, pyL hl hs h f (by omega)]; rfl
theorem py_lst {n : Nat} {ds : List D} {ps : List PyData} (hl : ds.length = ps.length) (hs : ∀ (i : Nat) (d : D) (p : PyData), ds[i]? = some d → ps[i]? = some p → Py n d p) : Py (n + ds.length + 2) (.lst ds) (.list ps) := fun h f hf => by
  cases f with
  | zero => omega
  | succ f => rw [toPy, pyL hl hs h f (by omega)]; rfl
theorem py_loc {n : Nat} {ds : List D} {ps : List PyData} (hl : ds.length = ps.length) (hs : ∀ (i : Nat) (d : D) (p : PyData), ds[i]? = some d → ps[i]? = some p → Py n d p) {h : List D} {k : Nat} (hk : h[k]? = some (.lst ds)) {f : Nat} (hf : n + ds.length + 2 ≤ f) : toPy f h (.loc k) = some (.list ps) := by
  cases f with
  | zero => omega
  | succ f =>
    rw [toPy, hk]
    dsimp only
    rw [pyL hl hs h f (by omega)]; rfl
theorem py_strs {xs : List Str} : ∀ (i : Nat) (d : D) (p : PyData), (xs.map D.str)[i]? = some d → (xs.map PyData.str)[i]? = some p → Py 1 d p := fun i d p h1 h2 => by
  rw [List.getElem?_map] at h1 h2
  cases e : xs[i]? with
  | none => rw [e] at h1; cases h1
  | some x => rw [e] at h1 h2; cases h1; cases h2; exact py_str
end G

set_option Elab.async false
set_option linter.all false
set_option maxRecDepth 100000
set_option maxHeartbeats 4000000
/-! G19: texts: split, join, upper, f-strings; properties. -/
namespace G
open PySem PySem.Spec PyProof.Rows L2
section
variable {C : List (V × D)} {X : Cx} {W : WX} {pos apos : Pos} {o e : Expr} {mo me : ME}
/-- o.split(e), the list never changed -/
def cSplit (o e : ME) : ME := fun env h => (o env h).bind fun x h1 => match x with
  | .str a => (e env h1).bind fun y h2 => match y with
    | .str b => bif decide (0 < b.length) && decide (a.length + 2 ≤ sizeLine) then .ok (.lst ((Txt.split a b).map .str)) h2 else .bad
    | _ => .bad
  | _ => .bad
/-- .. a list that may change -/
def cSplitN (o e : ME) : ME := fun env h => (o env h).bind fun x h1 => match x with
  | .str a => (e env h1).bind fun y h2 => match y with
    | .str b => bif decide (0 < b.length) && decide (a.length + 2 ≤ sizeLine) then .ok (.loc h2.length) (h2 ++ [.lst ((Txt.split a b).map .str)]) else .bad
    | _ => .bad
  | _ => .bad
theorem ne0_of {b : Str} (h : 0 < b.length) : (b.length == 0) = false := by rw [beq_eq_false_iff_ne]; omega
theorem se_split (ho : SE C X W o mo) (he : SE C X W e me) (hs : starEach [e] X.env = [(false, eval e X.env)] := by rfl) (hbase : attributeBase o "split" X.env (eval o X.env) = eval o X.env := by rfl) (hline : (apos.endLine == pos.line) = true := by rfl) :
    SE C X W (.Call (.Attribute o "split" apos) [e] [] pos) (cSplit mo me) := by
  refine PE.weak (pe_split ho he hs hbase hline) fun σ H Q ⟨Z, M, env, h, s, g⟩ => ?_
  refine tE.step s g fun M1 H1 h1 x v e1 s1 r1 g1 => ?_
  cases r1 with
  | str a =>
    refine ⟨⟨a, rfl⟩, tE.step s1 g1 fun M2 H2 h2 y w e2 s2 r2 g2 => ?_⟩
    cases r2 with
    | str b =>
      cases hb : decide (0 < b.length) && decide (a.length + 2 ≤ sizeLine) with
      | false => dsimp only at g2; rw [hb] at g2; exact False.elim g2
      | true =>
        dsimp only at g2
        rw [hb] at g2
        rw [Bool.and_eq_true, decide_eq_true_eq, decide_eq_true_eq] at hb
        exact ⟨a, b, rfl, rfl, ne0_of hb.1, hb.2, fun p hp => Got.laid g2 s2 hp (newLst s2.sh (reps_strs _) hp)⟩
    | _ => exact False.elim g2
  | _ => exact False.elim g1
theorem se_splitN (ho : SE C X W o mo) (he : SE C X W e me) (hs : starEach [e] X.env = [(false, eval e X.env)] := by rfl) (hbase : attributeBase o "split" X.env (eval o X.env) = eval o X.env := by rfl) (hline : (apos.endLine == pos.line) = true := by rfl) :
    SE C X W (.Call (.Attribute o "split" apos) [e] [] pos) (cSplitN mo me) := by
  refine PE.weak (pe_split ho he hs hbase hline) fun σ H Q ⟨Z, M, env, h, s, g⟩ => ?_
  refine tE.step s g fun M1 H1 h1 x v e1 s1 r1 g1 => ?_
  cases r1 with
  | str a =>
    refine ⟨⟨a, rfl⟩, tE.step s1 g1 fun M2 H2 h2 y w e2 s2 r2 g2 => ?_⟩
    cases r2 with
    | str b =>
      cases hb : decide (0 < b.length) && decide (a.length + 2 ≤ sizeLine) with
      | false => dsimp only at g2; rw [hb] at g2; exact False.elim g2
      | true =>
        dsimp only at g2
        rw [hb] at g2
        rw [Bool.and_eq_true, decide_eq_true_eq, decide_eq_true_eq] at hb
        exact ⟨a, b, rfl, rfl, ne0_of hb.1, hb.2, fun p hp => g2 (M2 ++ [p]) _ (Evo.newloc hp) (s2.later (Evo.newloc hp) (s2.sh.newloc hp ⟨_, upd_same, reps_strs _⟩)) _ (newLoc s2.sh)⟩
    | _ => exact False.elim g2
  | _ => exact False.elim g1
/-- o.join(e) -/
def cJoin (o e : ME) : ME := fun env h => (o env h).bind fun x h1 => match x with
  | .str a => (e env h1).bind fun y h2 => match seqOf h2 y with
    | some xs => (match strsOf xs with
      | some ys => bif decide ((ys.map (·.length)).sum + ys.length * a.length ≤ 16777216) then .ok (.str (Txt.join a ys)) h2 else .bad
      | none => .bad)
    | none => .bad
  | _ => .bad
theorem se_join (ho : SE C X W o mo) (he : SE C X W e me) (hs : starEach [e] X.env = [(false, eval e X.env)] := by rfl) (hbase : attributeBase o "join" X.env (eval o X.env) = eval o X.env := by rfl) (hline : (apos.endLine == pos.line) = true := by rfl) :
    SE C X W (.Call (.Attribute o "join" apos) [e] [] pos) (cJoin mo me) := by
  refine PE.weak (pe_join ho he hs hbase hline) fun σ H Q ⟨Z, M, env, h, s, g⟩ => ?_
  refine tE.step s g fun M1 H1 h1 x v e1 s1 r1 g1 => ?_
  cases r1 with
  | str a =>
    refine ⟨⟨a, rfl⟩, tE.step s1 g1 fun M2 H2 h2 y w e2 s2 r2 g2 => ?_⟩
    cases hx : seqOf h2 y with
    | none => rw [hx] at g2; exact False.elim g2
    | some xs =>
      rw [hx] at g2
      dsimp only at g2
      obtain ⟨p, vs, rfl, hq, rs⟩ := seqOf_rep s2.sh hx r2
      cases hy : strsOf xs with
      | none => rw [hy] at g2; exact False.elim g2
      | some ys =>
        rw [hy] at g2
        dsimp only at g2
        obtain rfl := strsOf_rep hy rs
        cases hb : decide ((ys.map (·.length)).sum + ys.length * a.length ≤ 16777216) with
        | false => rw [hb] at g2; exact False.elim g2
        | true => rw [hb] at g2; exact ⟨a, p, ys, rfl, rfl, hq, of_decide_eq_true hb, Got.now g2 s2 _ (.str _)⟩
  | _ => exact False.elim g1
/-- o.upper() -/
def cUpper (o : ME) : ME := fun env h => (o env h).bind fun x h1 => match x with
  | .str a => bif decide (a.length ≤ 5592405) then .ok (.str (Txt.upper a)) h1 else .bad
  | _ => .bad
theorem se_upper (ho : SE C X W o mo) (hbase : attributeBase o "upper" X.env (eval o X.env) = eval o X.env := by rfl) (hline : (apos.endLine == pos.line) = true := by rfl) :
    SE C X W (.Call (.Attribute o "upper" apos) [] [] pos) (cUpper mo) := by
  refine PE.weak (pe_upper ho hbase hline) fun σ H Q ⟨Z, M, env, h, s, g⟩ => ?_
  refine tE.step s g fun M1 H1 h1 x v e1 s1 r1 g1 => ?_
  cases r1 with
  | str a =>
    dsimp only at g1
    cases hb : decide (a.length ≤ 5592405) with
    | false => rw [hb] at g1; exact False.elim g1
    | true => rw [hb] at g1; exact ⟨⟨a, rfl⟩, a, rfl, rfl, of_decide_eq_true hb, Got.now g1 s1 _ (.str _)⟩
  | _ => exact False.elim g1
/-- {x} of a text or an int -/
def cFmt (o : ME) : ME := fun env h => (o env h).bind fun x h1 => match x with
  | .str a => bif decide (a.length ≤ sizeLine) then .ok (.str a) h1 else .bad
  | .int i => bif decide (i.natAbs.log2 < 1920) then .ok (.str (toString i)) h1 else .bad
  | _ => .bad
theorem se_fmt (ho : SE C X W o mo) : SE C X W (.FormattedValue o (-1) none pos) (cFmt mo) := by
  refine PE.weak (pe_fmt ho) fun σ H Q ⟨Z, M, env, h, s, g⟩ => ?_
  refine tE.step s g fun M1 H1 h1 x v e1 s1 r1 g1 => ?_
  cases r1 with
  | str a =>
    dsimp only at g1
    cases hb : decide (a.length ≤ sizeLine) with
    | false => rw [hb] at g1; exact False.elim g1
    | true => rw [hb] at g1; exact .inl ⟨a, rfl, of_decide_eq_true hb, Got.now g1 s1 _ (.str _)⟩
  | int i =>
    dsimp only at g1
    cases hb : decide (i.natAbs.log2 < 1920) with
    | false => rw [hb] at g1; exact False.elim g1
    | true => rw [hb] at g1; exact .inr ⟨i, rfl, of_decide_eq_true hb, Got.now g1 s1 _ (.str _)⟩
  | _ => exact False.elim g1
/-- the texts of an f-string, one behind the other -/
def cJs : List ME → Str → Mn Str
  | [], acc => fun _ h => .ok acc h
  | m :: ms, acc => fun env h => (m env h).bind fun x h1 => match x with
    | .str y => bif decide ((acc ++ y).length ≤ sizeLine) then cJs ms (acc ++ y) env h1 else .bad
    | _ => .bad
inductive SJ (C : List (V × D)) (X : Cx) (W : WX) : List Expr → List ME → Prop where
  | nil : SJ C X W [] []
  | cons {e : Expr} {m : ME} {es : List Expr} {ms : List ME} (h : SE C X W e m) (r : SJ C X W es ms) : SJ C X W (e :: es) (m :: ms)
theorem SJ.pj {es : List Expr} {ms : List ME} (h : SJ C X W es ms) : PJ X es (ms.map (tE X.K C X.pn W)) := by
  induction h with
  | nil => exact .nil
  | cons h r ih => exact .cons h ih
def cFs (ms : List ME) : ME := fun env h => (cJs ms Str.empty env h).bind fun x h1 => .ok (.str x) h1
theorem js_of {K : PySem.W.Frag} {pn : List (Addr × Obj)} {Z : Addr → Prop} {σ : L2.St} {env : List Sl} {Q : Str → Hp → Prop} : ∀ (ms : List ME) (acc : Str) (M : List Addr) (H : Hp) (h : List D), SR K C pn Z M env h σ H → Got K C pn Z W σ env M H (cJs ms acc env h) (fun M' H' x => Q x H') → tJs (ms.map (tE K C pn W)) acc σ H Q
  | [], acc, M, H, h, s, g => g M H (.refl M H) s
  | m :: ms, acc, M, H, h, s, g => by
    refine tE.step s g fun M1 H1 h1 x v e1 s1 r1 g1 => ?_
    cases r1 with
    | str y =>
      dsimp only at g1
      cases hb : decide ((acc ++ y).length ≤ sizeLine) with
      | false => rw [hb] at g1; exact False.elim g1
      | true => rw [hb] at g1; exact ⟨y, rfl, of_decide_eq_true hb, js_of ms _ M1 H1 h1 s1 g1⟩
    | _ => exact False.elim g1
theorem se_joined {v1 v2 : Expr} {rest : List Expr} {ms : List ME} (h : SJ C X W (v1 :: v2 :: rest) ms) : SE C X W (.JoinedStr (v1 :: v2 :: rest) pos) (cFs ms) := by
  refine PE.weak (pe_joined h.pj) fun σ H Q ⟨Z, M, env, h, s, g⟩ => ?_
  refine js_of ms Str.empty M H h s ?_
  unfold cFs at g
  cases e : cJs ms Str.empty env h with
  | bad => rw [e] at g; exact g
  | exc c ns ds h1 => rw [e] at g; exact g
  | ok x h1 =>
    rw [e] at g
    exact fun M' H' ev s' => g M' H' ev s' _ (.str x)
end
end G

set_option Elab.async false
set_option linter.all false
set_option maxRecDepth 100000
set_option maxHeartbeats 4000000
/-! G20: isinstance with own classes and tuples of classes; properties. -/
namespace G
open PySem PySem.Spec PyProof.Rows L2

/-! ### kinds -/
abbrev Tk := String ⊕ Str
def tyO (h : List D) (d : D) : Option Tk := match objOf h d with
  | some (c, _, _) => some (.inr c)
  | none => (tyD h d).map .inl
/-- what isinstance asks of an own class -/
structure KC (K : PySem.W.Frag) (C : Addr) : Prop where
  cl : Cls K C
  ha : PySem.W.findIn K (.ref C) "__class__" = some (some (.builtin "object.__class__"))
  hn : PySem.W.specialIn K (.builtin "object.__class__") "__get__" = some (some (.builtin "getset_descriptor.__get__"))
  tk : PySem.W.takesIn K (.builtin "object.__class__") = some true
  hm : PySem.W.mroIn K C (.type "object") = some true
def kcB (K : PySem.W.Frag) (C : Addr) : Bool := decide (PySem.W.findIn K (.ref C) "__class__" = some (some (.builtin "object.__class__"))) && (decide (PySem.W.specialIn K (.builtin "object.__class__") "__get__" = some (some (.builtin "getset_descriptor.__get__"))) && (decide (PySem.W.takesIn K (.builtin "object.__class__") = some true) && decide (PySem.W.mroIn K C (.type "object") = some true)))
theorem kcB_ok {K : PySem.W.Frag} {C : Addr} (cl : Cls K C) (h : kcB K C = true) : KC K C := by
  unfold kcB at h
  simp only [Bool.and_eq_true, decide_eq_true_eq] at h
  exact ⟨cl, h.1, h.2.1, h.2.2.1, h.2.2.2⟩
def tkV (K : PySem.W.Frag) : Tk → Value
  | .inl T => .type T
  | .inr c => .ref (He.ga K c)
/-- the classes of a table are known -/
def TkOk (K : PySem.W.Frag) (t : Tk) : Prop := match t with
  | .inl _ => True
  | .inr c => KC K (He.ga K c)
theorem tyO_rep {K : PySem.W.Frag} {C : List (V × D)} {Z : Addr → Prop} {M : List Addr} {H : Hp} {h : List D} {d : D} {v : V} {t : Tk} (s : Sh K C Z M h H) (e : tyO h d = some t) (r : Rep K (zn Z M) M H d v) (ok : TkOk K t) : TyX K H v (tkV K t) := by
  unfold tyO at e
  cases eo : objOf h d with
  | some p =>
    obtain ⟨c, ns, ds⟩ := p
    rw [eo] at e
    cases e
    obtain ⟨a, dx, fs, rfl, ea, _⟩ := objOf_rep s eo r
    exact .base (.ins ea ok.cl ok.ha ok.hn ok.tk ok.hm)
  | none =>
    rw [eo] at e
    dsimp only at e
    cases et : tyD h d with
    | none => rw [et] at e; cases e
    | some T =>
      rw [et] at e
      cases e
      exact tyD_rep s et r
def tkLook : List (Tk × Bool) → Tk → Option Bool
  | [], _ => none
  | (a, b) :: r, t => if t = a then some b else tkLook r t
/-- isinstance, by a table -/
def cIsiO (tab : List (Tk × Bool)) (m : ME) : ME := fun env h => (m env h).bind fun d h1 => match tyO h1 d with
  | some t => (match tkLook tab t with
    | some b => .ok (.bl b) h1
    | none => .bad)
  | none => .bad
theorem lookup_inT {l : List (Tk × Bool)} {a : Tk} {b : Bool} (h : tkLook l a = some b) : (a, b) ∈ l := by
  induction l with
  | nil => cases h
  | cons p l ih =>
    obtain ⟨x, y⟩ := p
    unfold tkLook at h
    split at h
    · rename_i e
      cases h
      rw [e]
      exact List.mem_cons_self
    · exact List.mem_cons_of_mem _ (ih h)
section
variable {C : List (V × D)} {X : Cx} {W : WX} {pos : Pos}
theorem se_isiO {e ec : Expr} {m : ME} {tab : List (Tk × Bool)} {p : Pos} {cv : V} {u : Value} (hg : Gl X "isinstance") (hm : X.mg "isinstance" = none) (he : SE C X W e m) (hc : PE X ec (tC cv)) (kc : ClsV cv u)
    (hk : ∀ q ∈ tab, TkOk X.K q.1 ∧ PySem.W.kitOne X.K (tkV X.K q.1) u = some q.2) (hs : starEach [e, ec] X.env = (false, eval e X.env) :: starEach [ec] X.env := by rfl) (hs2 : starEach [ec] X.env = (false, eval ec X.env) :: starEach [] X.env := by rfl) (hpl : (backTo pos (starEach [ec] X.env)).any (·.1) = false := by rfl) :
    SE C X W (.Call (.Name "isinstance" p) [e, ec] [] pos) (cIsiO tab m) := by
  refine PE.weak (pe_callB call_isi hg hm PyProof.Rows.boot_isinstance (pa_cons he (pa_cons hc pa_nil hs2) hs) (by decide) (by decide) hs hpl) fun σ H Q ⟨Z, M, env, h, s, g⟩ => ?_
  refine tE.step s g fun M1 H1 h1 d v e1 s1 r1 g1 => ?_
  show ∃ (x c : V) (t u : Value) (b : Bool), _
  cases et : tyO h1 d with
  | none => rw [et] at g1; exact False.elim g1
  | some t =>
    rw [et] at g1
    dsimp only at g1
    cases el : tkLook tab t with
    | none => rw [el] at g1; exact False.elim g1
    | some b =>
      rw [el] at g1
      obtain ⟨k1, k2⟩ := hk (t, b) (lookup_inT el)
      exact ⟨v, cv, tkV X.K t, u, b, rfl, kc, tyO_rep s1.sh et r1 k1, k2, Got.now g1 s1 _ (.bl b)⟩
/-- isinstance(e, (T1, T2)), built-in types -/
theorem se_isiT2 {e : Expr} {m : ME} {tab : List (Tk × Bool)} {p p1 p2 tpos : Pos} {kk : Nat} {T1 T2 : Str} {S1 S2 : String} (hg : Gl X "isinstance") (hm : X.mg "isinstance" = none) (he : SE C X W e m)
    (g1 : Gl X T1) (m1 : X.mg T1 = none) (v1 : bootBuiltins T1 = some (.type S1)) (n1 : T1 ≠ "__name__") (d1 : (T1 == ("__debug__" : Str)) = false) (g2 : Gl X T2) (m2 : X.mg T2 = none) (v2 : bootBuiltins T2 = some (.type S2)) (n2 : T2 ≠ "__name__") (d2 : (T2 == ("__debug__" : Str)) = false)
    (hk : ∀ q ∈ tab, TkOk X.K q.1 ∧ PySem.W.kitAny X.K (tkV X.K q.1) [.type S1, .type S2] = some q.2) (ht : starEach [.Name T1 p1, .Name T2 p2] X.env = (false, eval (.Name T1 p1) X.env) :: starEach [.Name T2 p2] X.env := by rfl) (ht2 : starEach [.Name T2 p2] X.env = (false, eval (.Name T2 p2) X.env) :: starEach [] X.env := by rfl)
    (hs : starEach [e, .Tuple [.Name T1 p1, .Name T2 p2] kk tpos] X.env = (false, eval e X.env) :: starEach [.Tuple [.Name T1 p1, .Name T2 p2] kk tpos] X.env := by rfl) (hs2 : starEach [.Tuple [.Name T1 p1, .Name T2 p2] kk tpos] X.env = (false, eval (.Tuple [.Name T1 p1, .Name T2 p2] kk tpos) X.env) :: starEach [] X.env := by rfl)
    (hpl : (backTo pos (starEach [.Tuple [.Name T1 p1, .Name T2 p2] kk tpos] X.env)).any (·.1) = false := by rfl) :
    SE C X W (.Call (.Name "isinstance" p) [e, .Tuple [.Name T1 p1, .Name T2 p2] kk tpos] [] pos) (cIsiO tab m) := by
  refine PE.weak (pe_callB call_isiT hg hm PyProof.Rows.boot_isinstance (pa_cons he (pa_cons (pe_tup (pa_cons (pe_bltn (v := .ty S1) g1 m1 v1 rfl n1 d1) (pa_cons (pe_bltn (v := .ty S2) g2 m2 v2 rfl n2 d2) pa_nil ht2) ht)) pa_nil hs2) hs) (by decide) (by decide) hs hpl) fun σ H Q ⟨Z, M, env, h, s, g⟩ => ?_
  refine tE.step s g fun M1 H1 h1 d v e1 s1 r1 g1 => ?_
  cases et : tyO h1 d with
  | none => rw [et] at g1; exact False.elim g1
  | some t =>
    rw [et] at g1
    dsimp only at g1
    cases el : tkLook tab t with
    | none => rw [el] at g1; exact False.elim g1
    | some b =>
      rw [el] at g1
      obtain ⟨k1, k2⟩ := hk (t, b) (lookup_inT el)
      refine ⟨by show 2 ≤ sizeLine; decide, fun q hq => ?_⟩
      have ev := Evo.laid (M := M1) (o := .tup [.ty S1, .ty S2]) hq
      have s2 := s1.later ev (s1.sh.laid hq)
      exact ⟨v, q, [.ty S1, .ty S2], tkV X.K t, [.type S1, .type S2], b, rfl, upd_same, .cons (.ty S1) (.cons (.ty S2) .nil), tyO_rep s2.sh et (r1.mono ev) k1, k2, g1 M1 _ ev s2 _ (.bl b)⟩
end
/-! ### properties -/
def prG (K : PySem.W.Frag) (C : Addr) (f : Str) : Addr := match PySem.W.recIn K (He.ma K C f) "property" with
  | some (.ref g :: _) => g
  | _ => 0
def prB (K : PySem.W.Frag) (C : Addr) (f : Str) : Bool := decide (PySem.W.findIn K (.ref C) f = some (some (.ref (He.ma K C f)))) && (decide (PySem.W.specialIn K (.ref (He.ma K C f)) "__get__" = some (some (.builtin "property.__get__"))) && (decide (PySem.W.takesIn K (.ref (He.ma K C f)) = some true) && (match PySem.W.recIn K (He.ma K C f) "property" with
  | some (.ref _ :: _) => true
  | _ => false)))
theorem prB_ok {K : PySem.W.Frag} {C : Addr} {f : Str} (h : prB K C f = true) : PropOf K C f (He.ma K C f) (prG K C f) := by
  unfold prB at h
  simp only [Bool.and_eq_true, decide_eq_true_eq] at h
  obtain ⟨h1, h2, h3, h4⟩ := h
  refine ⟨h1, h2, h3, ?_⟩
  unfold prG
  cases e : PySem.W.recIn K (He.ma K C f) "property" with
  | none => rw [e] at h4; cases h4
  | some l =>
    rw [e] at h4
    match l, h4 with
    | .ref g :: r, _ => exact ⟨r, rfl⟩
/-- o.f, a property with F as its getter's function -/
def cProp (c : Str) (F : FF) (o : ME) : ME := fun env h => (o env h).bind fun x h1 => match objOf h1 x with
  | some (c', _, _) => bif decide (c' = c) then (F [x] h1).noexc else .bad
  | none => .bad
section
variable {X : Cx} {W : WX} {pos : Pos}
theorem se_prop {o : Expr} {mo : ME} {c f : Str} {p gt : Addr} {k : Nat} {F : FF} (ho : SE [] X W o mo) (cl : Cls X.K (He.ga X.K c)) (hp : PropOf X.K (He.ga X.K c) f p gt) (i : Is X.prog X.w X.K X.mg X.base k gt ["self"] F) (hr : RG (k + 1) X.A)
    (hab : attributeBase o f X.env (eval o X.env) = eval o X.env := by rfl) : SE [] X W (.Attribute o f pos) (cProp c F mo) := by
  refine ⟨fun pins s σ H Q I ⟨Z, M, env, h, sr, g⟩ => ?_⟩
  obtain ⟨fd, FO, hb, hkp, hlen⟩ := i
  refine attr_of hab (thn (ho.run pins s σ H (fun x H1 => ∃ M1 d h1, SR X.K [] X.pn Z M1 env h1 σ H1 ∧ Rep X.K (zn Z M1) M1 H1 d x ∧ Got X.K [] X.pn Z W σ env M1 H1 (match objOf h1 d with
    | some (c', _, _) => bif decide (c' = c) then (F [d] h1).noexc else .bad
    | none => .bad) (fun M' H' d => ∀ v, Rep X.K (zn Z M') M' H' d v → Q v H')) I (tE.step sr g fun M1 H1 h1 d v e1 s1 r1 g1 => ⟨M1, d, h1, s1, r1, g1⟩)) fun u s1 ⟨x, H1, I1, rx, M1, d, h1, sr1, r1, g1⟩ => ?_)
  cases eo : objOf h1 d with
  | none => rw [eo] at g1; exact False.elim g1
  | some q =>
    obtain ⟨c', ns, ds⟩ := q
    rw [eo] at g1
    dsimp only at g1
    cases ec : decide (c' = c) with
    | false => rw [ec] at g1; exact False.elim g1
    | true =>
      rw [ec, cond_true] at g1
      obtain rfl := of_decide_eq_true ec
      obtain ⟨a, dx, fs, rfl, ea, _⟩ := objOf_rep sr1.sh eo r1
      obtain rfl : u = Value.ref a := rx
      obtain ⟨mA, O, _, _, _, _⟩ := ins_get I1.hok ea
      obtain ⟨od, J, _⟩ := O.look
      obtain ⟨rest, hrec⟩ := hp.rec_
      have I2 := I1.tok (s1.toks + 1)
      have hc : (PySem.W.clsIn X.K (He.ga X.K c')).isSome = true := by
        obtain ⟨cd, hc, _⟩ := PySem.W.any_some cl.hd
        rw [hc]
        rfl
      have hq : spI X.K [] 1 F [V.ref a] H1 Q (fun _ _ _ => False) := by
        refine ⟨Z, M1, h1, [d], sr1.sh, Reps.cons r1 Reps.nil, rfl, ?_⟩
        cases eF : F [d] h1 with
        | bad => rw [eF] at g1; exact g1
        | exc c' ns ds h2 => rw [eF] at g1; exact False.elim g1
        | ok z h2 =>
          rw [eF] at g1
          intro M' H' v ev sh' rv
          exact g1 M' H' ev (sr1.later ev sh') v rv
      refine PySem.W.get_bind I1.kIn J (PySem.W.plainGet_of (cl.get f)).1 (PySem.W.findObj_data hc hp.at_ hp.get hp.tak) (PySem.W.plainGet_of (cl.get f)).2 (wpAny_call (PySem.W.prop_get (s := { s1 with toks := s1.toks + 1 }) I1.kIn hrec ?_))
      refine codeAny_mono (FO.run X.A.in1 X.stack { s1 with toks := s1.toks + 1 } H1 ⟨[.ref a], []⟩ [.ref a] [V.ref a] Q (fun _ _ _ => False) hr.in1 I2.env0.in1 (hb _ [.ref a] I2.kIn (by rw [List.append_nil]; rfl)) (.cons rfl .nil) hq) fun r s' hq' => ?_
      cases r with
      | error er =>
        obtain ⟨_, _, _, _, _, _, _, _, _, _, _, _, z⟩ := (show L2.CX X.prog X.w X.stack H1 { s1 with toks := s1.toks + 1 } (fun _ _ _ => False) er s' from hq')
        exact z.elim
      | ok fl =>
        cases fl with
        | ret u =>
          obtain ⟨v, H', I3, rv, q3⟩ := I2.after hq'
          show wpAny _ _ (handedOut u) _ _ _
          rw [PySem.W.handedOut_of (handed_of rv)]
          exact wpAny_pure ⟨v, H', I3, rv, q3⟩
        | next => exact False.elim hq'
        | brk => exact False.elim hq'
        | cont => exact False.elim hq'
end
end G

set_option Elab.async false
set_option linter.all false
set_option maxRecDepth 100000
set_option maxHeartbeats 4000000
/-! G21: == and != by a class's own __eq__ (both of the class). -/
namespace G
open PySem PySem.Spec PyProof.Rows L2
section
variable {prog : Program} {w : World} {A : Around} {E : Value → Shared → Prop} {s : Shared} {K : PySem.W.Frag} {x C f : Addr} {ox : Obj} {od : Option Obj}
theorem bound_ne {M : Model} {args : List Value} {Q : Option Value → Shared → Prop} (X : K.In s.heap) (I : PySem.W.InstAt s.heap x ox C od) (hs : PySem.W.findIn K (.ref C) "__ne__" = some (some (.builtin "object.__ne__")))
    (h : wpAny M A (call (.builtin "object.__ne__") (.ref x :: args)) (fun v => Q (some v)) E s) : wpAny M A (callSpecialIfBound? (.ref x) "__ne__" args) Q E s := by
  simp only [callSpecialIfBound?, bindSpecialIfBound?]
  refine wpAny_holding (wpAny_bind (wpAny_bind (wpAny_bind (I.type.here ((PySem.W.looks_findIn X hs).here (wpAny_bind (wpAny_askSetting (wpAny_ite ?_))))))))
  have fin : wpAny M A (call (.builtin "object.__ne__") ([.ref x] ++ args) >>= fun v => pure (some v)) Q E s := wpAny_bind (wpAny_mono h (fun v s' h' => wpAny_pure h') fun _ _ h' => h')
  split
  · exact wpAny_bind (wpAny_of_eq (F.cmp_object.ne.bind _) (wpAny_pure (by exact fin)))
  · exact wpAny_tryCatch (wpAny_bind (wpAny_of_eq (F.cmp_object.ne.bind _) (wpAny_pure (by exact fin))))
theorem entry_ne {y : Value} {Q : Fin → Shared → Prop} (hu : A.units < cLine) (X : K.In s.heap) (I : PySem.W.InstAt s.heap x ox C od) (hs : PySem.W.findIn K (.ref C) "__eq__" = some (some (.ref f))) (hf : PySem.W.isFn K (.ref f) = true)
    (h : wpAny (model prog w) A (call (.ref f) [.ref x, y]) (fun v s' => ∃ b, v = .bool b ∧ Q (.done (.ret (.bool (!b)))) s') E s) : wpAny (model prog w) A (Builtin.«object.__ne__» ⟨[.ref x, y], []⟩) Q E s := by
  unfold Builtin.«object.__ne__»
  repeat (first
    | with_reducible refine wpAny_cRoomFor hu ?_
    | (refine wpAny_bind (m := callSpecialIfBound? (.ref x) (Str.ofString "__eq__") [y]) (PySem.W.ifBound_K X I hs hf (wpAny_mono h (fun r s' hr => by
        obtain ⟨b, rfl, hq⟩ := hr
        repeat (first | exact hq | exact wpAny_pure hq | exact wpAny_truthy_bool hq | (refine wpAny_bind (m := truthy (.bool _)) (wpAny_truthy_bool ?_)) | wp_step)) fun _ _ e => e)))
    | wp_step)
theorem rich_ne {b : Value} {Q : Value → Shared → Prop} (hu : A.units + 1 < cLine) (X : K.In s.heap) (I : PySem.W.InstAt s.heap x ox C od) (hb : PySem.W.Looks (model prog w) s.heap (typeOf b) (.ref C)) (hm : PySem.W.mroIn K C (.type "object") = some true)
    (hn : PySem.W.findIn K (.ref C) "__ne__" = some (some (.builtin "object.__ne__"))) (hs : PySem.W.findIn K (.ref C) "__eq__" = some (some (.ref f))) (hf : PySem.W.isFn K (.ref f) = true)
    (h : wpAny (model prog w) A.in1 (call (.ref f) [.ref x, b]) (fun v s' => ∃ k, v = .bool k ∧ Q (.bool (!k)) s') E s) : wpAny (model prog w) A (richCompare .NotEq (.ref x) b) Q E s := by
  have one : wpAny (model prog w) A (tryCompare (.ref x) "__ne__" b) (fun r s' => ∃ k, r = some (.bool k) ∧ Q (.bool k) s') E s := by
    unfold tryCompare
    refine wpAny_bind (bound_ne X I hn (wpAny_call (codeAny_call_builtin F.cmp_object.ne.plain F.cmpEntry_ne (PySem.W.check_slot F.cmpKind_ne F.cmpSplit_ne (I.type.andThen (PySem.W.looks_mroIn X hm)) (F.cmpArgs_ne _ _) (entry_ne (A := A.in1) (by exact hu) X I hs hf (wpAny_mono h (fun v s' hv => ?_) fun _ _ e => e))))))
    obtain ⟨k, rfl, hq⟩ := hv
    exact ⟨k, rfl, wpAny_pure ⟨!k, rfl, hq⟩⟩
  simp only [richCompare, oneThing_ref, cmpInfo_NotEq]
  refine wpAny_holding (wpAny_bind (wpAny_cRoomFor (Nat.lt_of_succ_lt hu) ?_))
  refine wpAny_bind (I.type.here (wpAny_bind (hb.here ?_)))
  rw [show (Value.ref C != Value.ref C) = false from by simp]
  simp only [Bool.false_eq_true, if_false]
  refine wpAny_bind (wpAny_pure ?_)
  simp only [Bool.false_eq_true, if_false]
  refine wpAny_bind (m := tryCompare (.ref x) _ b) (wpAny_mono one (fun r s1 ⟨k, e, q⟩ => ?_) fun _ _ e => e)
  subst e
  exact wpAny_pure q
end
/-- what == and != ask of a class with its own __eq__ -/
structure EqC (K : PySem.W.Frag) (C f : Addr) : Prop where
  eq : PySem.W.findIn K (.ref C) "__eq__" = some (some (.ref f))
  fn : PySem.W.isFn K (.ref f) = true
  ne : PySem.W.findIn K (.ref C) "__ne__" = some (some (.builtin "object.__ne__"))
  ob : PySem.W.mroIn K C (.type "object") = some true
def eqcB (K : PySem.W.Frag) (C : Addr) : Bool := decide (PySem.W.findIn K (.ref C) "__eq__" = some (some (.ref (He.ma K C "__eq__")))) && (PySem.W.isFn K (.ref (He.ma K C "__eq__")) && (decide (PySem.W.findIn K (.ref C) "__ne__" = some (some (.builtin "object.__ne__"))) && decide (PySem.W.mroIn K C (.type "object") = some true)))
theorem eqcB_ok {K : PySem.W.Frag} {C : Addr} (h : eqcB K C = true) : EqC K C (He.ma K C "__eq__") := by
  unfold eqcB at h
  simp only [Bool.and_eq_true, decide_eq_true_eq] at h
  exact ⟨h.1, h.2.1, h.2.2.1, h.2.2.2⟩
/-- x == y, both of the class c -/
def oEqO (c : Str) (F : FF) (neg : Bool) : D → D → List D → R D := fun x y h => match objOf h x, objOf h y with
  | some (c1, _, _), some (c2, _, _) => bif decide (c1 = c) && decide (c2 = c) then (F [x, y] h).bind fun z h1 => match z with
    | .bl b => .ok (.bl (if neg then !b else b)) h1
    | _ => .bad else .bad
  | _, _ => .bad
section
variable {C : List (V × D)} {X : Cx} {W : WX} {pos : Pos}
theorem oeq_step {K : PySem.W.Frag} {pn : List (Addr × Obj)} {Z : Addr → Prop} {σ : L2.St} {env : List Sl} {M : List Addr} {H : Hp} {h : List D} {c : Str} {F : FF} {neg : Bool} {x y : D} {v w : V} {Q : VK}
    (s : SR K C pn Z M env h σ H) (r : Rep K (zn Z M) M H x v) (r' : Rep K (zn Z M) M H y w) (g : Got K C pn Z W σ env M H (oEqO c F neg x y h) (fun M' H' d => ∀ v, Rep K (zn Z M') M' H' d v → Q v H')) :
    ∃ a dx fs b dy gs, v = .ref a ∧ H a = some (.ins (He.ga K c) dx fs) ∧ w = .ref b ∧ H b = some (.ins (He.ga K c) dy gs) ∧ Got K C pn Z W σ env M H (F [x, y] h) (fun M' H' d => ∀ v, Rep K (zn Z M') M' H' d v → ∃ k, v = .bl k ∧ Q (.bl (if neg then !k else k)) H') := by
  unfold oEqO at g
  cases e1 : objOf h x with
  | none => rw [e1] at g; exact False.elim g
  | some p =>
    obtain ⟨c1, ns, ds⟩ := p
    rw [e1] at g
    cases e2 : objOf h y with
    | none => rw [e2] at g; exact False.elim g
    | some q =>
      obtain ⟨c2, ns2, ds2⟩ := q
      rw [e2] at g
      dsimp only at g
      cases eb : decide (c1 = c) && decide (c2 = c) with
      | false => rw [eb] at g; exact False.elim g
      | true =>
        rw [eb, cond_true] at g
        rw [Bool.and_eq_true, decide_eq_true_eq, decide_eq_true_eq] at eb
        obtain ⟨rfl, rfl⟩ := eb
        obtain ⟨a, dx, fs, rfl, ea, _⟩ := objOf_rep s.sh e1 r
        obtain ⟨b, dy, gs, rfl, eb, _⟩ := objOf_rep s.sh e2 r'
        refine ⟨a, dx, fs, b, dy, gs, rfl, ea, rfl, eb, ?_⟩
        cases eF : F [x, y] h with
        | bad => rw [eF] at g; exact g
        | exc c' ns ds h1 => rw [eF] at g; exact g
        | ok z h1 =>
          rw [eF] at g
          intro M1 H1 ev s1 w rw'
          cases z with
          | bl k => cases rw'; exact ⟨k, rfl, g M1 H1 ev s1 _ (.bl _)⟩
          | _ => exact False.elim g
theorem ins_look {pins : List (Addr × Obj)} {σ : L2.St} {H : Hp} {s : Shared} {a Ca dx : Addr} {fs : List (Str × V)} (I : Inv X pins σ H s) (e : H a = some (.ins Ca dx fs)) : ∃ ox od, PySem.W.InstAt s.heap a ox Ca od := by
  obtain ⟨mA, O, _⟩ := ins_get I.hok e
  obtain ⟨od, J, _⟩ := O.look
  exact ⟨_, _, J⟩
theorem run_eqO {pins : List (Addr × Obj)} {s : Shared} {σ : L2.St} {H : Hp} {x y : V} {v u : Value} {Q : VK} {c : Str} {f : Addr} {F : FF} (hu : X.A.units + 1 < cLine) (ec : EqC X.K (He.ga X.K c) f) (cal : Cal C X W (.ref f) F) (I : Inv X pins σ H s) (rx : RelV x v) (ry : RelV y u) (q : St2 X.K C X.pn W σ (oEqO c F false) Q x y H) :
    wpAny (model X.prog X.w) X.A (compareOp .Eq v u) (EP X pins σ Q) X.xe s := by
  obtain ⟨Z, M, env, h, d, e, sr, rd, re, g⟩ := q
  obtain ⟨a, dx, fs, b, dy, gs, rfl, ea, rfl, eb, g'⟩ := oeq_step sr rd re g
  cases rx
  cases ry
  obtain ⟨ox, od, J⟩ := ins_look I ea
  obtain ⟨oy, od', J'⟩ := ins_look I eb
  obtain ⟨m, hF⟩ := I.fr
  unfold compareOp
  refine PySem.W.cmp_K (op := .Eq) (tb := .ref (He.ga X.K c)) (by exact Nat.lt_of_succ_lt hu) hF I.ok.mod.kin J J'.type (by simp [PySem.W.notFirst]) ec.eq ec.fn ?_
  refine wpAny_mono (cal pins s σ H (fun v H' => ∃ k, v = .bl k ∧ Q (.bl k) H') Z M env h [d, e] [.ref a, .ref b] [.ref a, .ref b] I sr (Reps.cons rd (Reps.cons re Reps.nil)) (.cons rfl (.cons rfl .nil)) (by simpa using g')) (fun r s' hr => ?_) fun _ _ z => z
  obtain ⟨z, H', I', rz, k, ez, q⟩ := hr
  subst ez
  cases rz
  exact ⟨.bl k, H', I', rfl, q⟩
theorem run_neO {pins : List (Addr × Obj)} {s : Shared} {σ : L2.St} {H : Hp} {x y : V} {v u : Value} {Q : VK} {c : Str} {f : Addr} {F : FF} (hu : X.A.units + 1 < cLine) (ec : EqC X.K (He.ga X.K c) f) (cal : Cal1 C X W (.ref f) F) (I : Inv X pins σ H s) (rx : RelV x v) (ry : RelV y u) (q : St2 X.K C X.pn W σ (oEqO c F true) Q x y H) :
    wpAny (model X.prog X.w) X.A (compareOp .NotEq v u) (EP X pins σ Q) X.xe s := by
  obtain ⟨Z, M, env, h, d, e, sr, rd, re, g⟩ := q
  obtain ⟨a, dx, fs, b, dy, gs, rfl, ea, rfl, eb, g'⟩ := oeq_step sr rd re g
  cases rx
  cases ry
  obtain ⟨ox, od, J⟩ := ins_look I ea
  obtain ⟨oy, od', J'⟩ := ins_look I eb
  unfold compareOp
  refine rich_ne hu I.kIn J J'.type ec.ob ec.ne ec.eq ec.fn ?_
  refine wpAny_mono (cal pins s σ H (fun v H' => ∃ k, v = .bl k ∧ Q (.bl (!k)) H') Z M env h [d, e] [.ref a, .ref b] [.ref a, .ref b] I sr (Reps.cons rd (Reps.cons re Reps.nil)) (.cons rfl (.cons rfl .nil)) (by simpa using g')) (fun r s' hr => ?_) fun _ _ z => z
  obtain ⟨z, H', I', rz, k, ez, q⟩ := hr
  subst ez
  cases rz
  exact ⟨k, rfl, .bl (!k), H', I', rfl, q⟩
theorem st_eqO {a b : Expr} {c : Str} {f : Addr} {F : FF} {ma mb : ME} (hu : X.A.units + 1 < cLine) (ha : SE C X W a ma) (hb : SE C X W b mb) (ec : EqC X.K (He.ga X.K c) f) (cal : Cal C X W (.ref f) F) (hmk : behindInMarks .Eq b = false) : ST C X W (.Compare a [.Eq] [b] pos) (cB (c2 (oEqO c F false) ma mb)) :=
  pt_of_bl ha hb hmk fun pins s σ H x y v u Q I rx ry q => run_eqO hu ec cal I rx ry q
theorem st_neO {a b : Expr} {c : Str} {f : Addr} {F : FF} {ma mb : ME} (hu : X.A.units + 1 < cLine) (ha : SE C X W a ma) (hb : SE C X W b mb) (ec : EqC X.K (He.ga X.K c) f) (cal : Cal1 C X W (.ref f) F) (hmk : behindInMarks .NotEq b = false) : ST C X W (.Compare a [.NotEq] [b] pos) (cB (c2 (oEqO c F true) ma mb)) :=
  pt_of_bl ha hb hmk fun pins s σ H x y v u Q I rx ry q => run_neO hu ec cal I rx ry q
theorem se_eqO {a b : Expr} {c : Str} {f : Addr} {F : FF} {ma mb : ME} (hu : X.A.units + 1 < cLine) (ha : SE C X W a ma) (hb : SE C X W b mb) (ec : EqC X.K (He.ga X.K c) f) (cal : Cal C X W (.ref f) F) (hmk : behindInMarks .Eq b = false) : SE C X W (.Compare a [.Eq] [b] pos) (c2 (oEqO c F false) ma mb) :=
  ⟨fun pins s σ H Q I t => wpAny_Compare1 (binT ha hb I (st2_of t) fun v u s2 x y H2 I2 rx ry q => run_eqO hu ec cal I2 rx ry q) hmk⟩
theorem se_neO {a b : Expr} {c : Str} {f : Addr} {F : FF} {ma mb : ME} (hu : X.A.units + 1 < cLine) (ha : SE C X W a ma) (hb : SE C X W b mb) (ec : EqC X.K (He.ga X.K c) f) (cal : Cal1 C X W (.ref f) F) (hmk : behindInMarks .NotEq b = false) : SE C X W (.Compare a [.NotEq] [b] pos) (c2 (oEqO c F true) ma mb) :=
  ⟨fun pins s σ H Q I t => wpAny_Compare1 (binT ha hb I (st2_of t) fun v u s2 x y H2 I2 rx ry q => run_neO hu ec cal I2 rx ry q) hmk⟩
end
end G

set_option Elab.async false
set_option linter.all false
set_option maxRecDepth 100000
set_option maxHeartbeats 4000000
/-! G22: dict comprehensions. -/
namespace G
open PySem PySem.Spec PyProof.Rows L2
/-- the dict at n grows by the items -/
def dcGo (n : Nat) (T : Asg) (tt : MT) (tk tv : ME) (env : List Sl) : List D → List D → R Unit
  | [], h => .ok () h
  | x :: xs, h => match T env x with
    | some env1 => (tt env1 h).noexc.bind fun b h1 => match b with
      | true => (tk env1 h1).noexc.bind fun y h2 => (tv env1 h2).noexc.bind fun z h3 => match keyOf y, h3[n]? with
        | some j, some (.dic ks ds) => bif decide (ks.length < sizeLine) then dcGo n T tt tk tv env xs (h3.set n (.dic (kput ks ds j z).1 (kput ks ds j z).2)) else .bad
        | _, _ => .bad
      | false => dcGo n T tt tk tv env xs h1
    | none => .bad
def cDc (src : MA) (T : Asg) (tt : MT) (tk tv : ME) (vs : List Nat) : ME := fun env h => (src env h).bind fun items h1 => bif noX env then (dcGo h1.length T tt tk tv (wipeE env vs) items (h1 ++ [.dic [] []])).bind fun _ h2 => .ok (.loc h1.length) h2 else .bad
theorem noX_wipe {env : List Sl} (hx : noX env = true) : ∀ vs : List Nat, noX (wipeE env vs) = true
  | [] => hx
  | v :: vs => by
    unfold wipeE noX
    rw [List.all_eq_true]
    intro x hx'
    rcases List.mem_or_eq_of_mem_set hx' with q | q
    · exact List.all_eq_true.mp (noX_wipe hx vs) x q
    · subst q; rfl
theorem dc_step {C : List (V × D)} {X : Cx} {W : WX} {src : MA} {T : Asg} {ts vs : List Nat} {tt : MT} {mk mv : ME} (sub : ∀ j ∈ ts, j ∈ vs) {σ : L2.St} {H : Hp} {Q : VK} (t : tE X.K C X.pn W (cDc src T tt mk mv vs) σ H Q) :
    tDc (tI X.K C X.pn W src) (tG X.K C [] T ts) (tT X.K C [] (fun _ _ _ _ => False) tt) (tE X.K C [] (fun _ _ _ _ => False) mk) (tE X.K C [] (fun _ _ _ _ => False) mv) vs σ H Q := by
  obtain ⟨Z, M, env, h, s, g⟩ := t
  refine ⟨Z, M, env, h, s, ?_⟩
  unfold cDc at g
  cases e : src env h with
  | bad => rw [e] at g; exact g
  | exc c ns ds h1 => rw [e] at g; exact g
  | ok items h1 =>
    rw [e] at g
    dsimp only [R.bind_ok] at g
    cases hx : noX env with
    | false => rw [hx] at g; exact False.elim g
    | true =>
      rw [hx, cond_true] at g
      intro M1 H1 ev s1 J Iv it iv p hp
      have ev1 := Evo.newloc (M := M1) (o := .dK []) hp
      have sh1 := s1.sh.newloc (o := .dK []) (d := .dic [] []) hp ⟨[], upd_same, rfl, Reps.nil⟩
      have s1' := s1.later ev1 sh1
      have hn1 : (M1 ++ [p])[h1.length]? = some p := by rw [← s1.sh.len]; simp
      refine ⟨fun i k H' => k = items.length - i ∧ i ≤ items.length ∧ ∃ M' h', Evo (M1 ++ [p]) (upd H1 p (.dK [])) M' H' ∧ Iv Z M' H' ∧ SR X.K C [] Z M' (wipeE env vs) h' (wipe σ vs) H' ∧ SR X.K C X.pn Z M' env h' σ H' ∧
        Got X.K C X.pn Z W σ env M H ((dcGo h1.length T tt mk mv (wipeE env vs) (items.drop i) h').bind fun _ h2 => .ok (.loc h1.length) h2) (fun M' H' d => ∀ v, Rep X.K (zn Z M') M' H' d v → Q v H'), ⟨_, rfl, Nat.zero_le _, M1 ++ [p], _, .refl _ _, it.mono _ _ _ _ _ iv ev1, (s1'.pin hx).wiped vs, s1', g⟩, ?_⟩
      rintro i k H2 ⟨rfl, hle, M2, h2, ev2, iv2, sw2, so2, g2⟩
      by_cases hlt : i < items.length
      · refine .inr ⟨it.go i _ M2 H2 hlt iv2, fun H' => i + 1 ≤ items.length ∧ ∃ M' h', Evo (M1 ++ [p]) (upd H1 p (.dK [])) M' H' ∧ Iv Z M' H' ∧ SR X.K C [] Z M' (wipeE env vs) h' (wipe σ vs) H' ∧ SR X.K C X.pn Z M' env h' σ H' ∧
          Got X.K C X.pn Z W σ env M H ((dcGo h1.length T tt mk mv (wipeE env vs) (items.drop (i + 1)) h').bind fun _ h2 => .ok (.loc h1.length) h2) (fun M' H' d => ∀ v, Rep X.K (zn Z M') M' H' d v → Q v H'), fun H' q => ⟨items.length - (i + 1), by omega, rfl, q.1, q.2⟩, fun x H3 hy => ?_⟩
        obtain ⟨ev3, sh3, r3⟩ := it.yld i _ M2 h2 H2 x H3 _ iv2 so2.sh hy (List.getElem?_eq_getElem hlt)
        have iv3 := it.mono _ M2 H2 M2 H3 iv2 ev3
        have sw3 := sw2.later ev3 sh3
        refine ⟨_, M2, wipeE env vs, h2, items[i], sw3, r3, ?_⟩
        rw [List.drop_eq_getElem_cons hlt] at g2
        unfold dcGo at g2
        cases et : T (wipeE env vs) items[i] with
        | none => rw [et] at g2; exact g2
        | some env3 =>
          rw [et] at g2
          dsimp only at g2
          intro σ3 s3 l3 k3
          refine ⟨wipe_eq (by rw [l3, wipe_length]) k3 sub, ?_⟩
          refine ⟨_, M2, env3, h2, s3, ?_⟩
          cases eb : tt env3 h2 with
          | bad => rw [eb] at g2; exact g2
          | exc c ns ds h4 => rw [eb] at g2; exact False.elim g2
          | ok b h4 =>
            rw [eb] at g2
            intro M4 H4 ev4 s4
            have e24 := ev3.trans ev4
            cases b with
            | false => exact ⟨hlt, M4, h4, ev2.trans e24, it.mono _ _ _ _ _ iv3 ev4, sw2.later e24 s4.sh, so2.later e24 s4.sh, g2⟩
            | true =>
              show tE X.K C [] (fun _ _ _ _ => False) mk σ3 H4 _
              refine ⟨_, M4, env3, h4, s4, ?_⟩
              have g2 : Got X.K C X.pn Z W σ env M H (((mk env3 h4).noexc.bind fun y h2 => (mv env3 h2).noexc.bind fun z h3 => match keyOf y, h3[h1.length]? with
                | some j, some (.dic ks ds) => bif decide (ks.length < sizeLine) then dcGo h1.length T tt mk mv (wipeE env vs) (items.drop (i + 1)) (h3.set h1.length (.dic (kput ks ds j z).1 (kput ks ds j z).2)) else .bad
                | _, _ => .bad).bind fun _ h2 => .ok (.loc h1.length) h2) (fun M' H' d => ∀ v, Rep X.K (zn Z M') M' H' d v → Q v H') := g2
              cases ey : mk env3 h4 with
              | bad => rw [ey] at g2; exact g2
              | exc c ns ds h5 => rw [ey] at g2; exact False.elim g2
              | ok y h5 =>
                rw [ey] at g2
                intro M5 H5 ev5 s5 vy ry
                refine ⟨_, M5, env3, h5, s5, ?_⟩
                have g2 : Got X.K C X.pn Z W σ env M H (((mv env3 h5).noexc.bind fun z h3 => match keyOf y, h3[h1.length]? with
                  | some j, some (.dic ks ds) => bif decide (ks.length < sizeLine) then dcGo h1.length T tt mk mv (wipeE env vs) (items.drop (i + 1)) (h3.set h1.length (.dic (kput ks ds j z).1 (kput ks ds j z).2)) else .bad
                  | _, _ => .bad).bind fun _ h2 => .ok (.loc h1.length) h2) (fun M' H' d => ∀ v, Rep X.K (zn Z M') M' H' d v → Q v H') := g2
                cases ez : mv env3 h5 with
                | bad => rw [ez] at g2; exact g2
                | exc c ns ds h6 => rw [ez] at g2; exact False.elim g2
                | ok z h6 =>
                  rw [ez] at g2
                  intro M6 H6 ev6 s6 vz rz
                  have g2 : Got X.K C X.pn Z W σ env M H ((match keyOf y, h6[h1.length]? with
                    | some j, some (.dic ks ds) => bif decide (ks.length < sizeLine) then dcGo h1.length T tt mk mv (wipeE env vs) (items.drop (i + 1)) (h6.set h1.length (.dic (kput ks ds j z).1 (kput ks ds j z).2)) else .bad
                    | _, _ => .bad).bind fun _ h2 => .ok (.loc h1.length) h2) (fun M' H' d => ∀ v, Rep X.K (zn Z M') M' H' d v → Q v H') := g2
                  have e26 := (e24.trans ev5).trans ev6
                  have hm6 := (ev2.trans e26).get hn1
                  cases ej : keyOf y with
                  | none => rw [ej] at g2; exact False.elim g2
                  | some j =>
                    rw [ej] at g2
                    cases ec : h6[h1.length]? with
                    | none => rw [ec] at g2; exact False.elim g2
                    | some cell =>
                      rw [ec] at g2
                      cases cell with
                      | dic ks ds =>
                        dsimp only at g2
                        cases eb6 : decide (ks.length < sizeLine) with
                        | false => rw [eb6] at g2; exact False.elim g2
                        | true =>
                          rw [eb6, cond_true] at g2
                          obtain ⟨kvs, hp6, ek, rs⟩ := s6.sh.cel h1.length p _ hm6 ec
                          have vy' := keyOf_rep ej ry
                          subst vy'
                          have lk : kvs.length = ks.length := by rw [← ek, List.length_map]
                          have nf : ∀ u w, H6 p ≠ some (.frz u w) := fun u w q => by rw [hp6] at q; cases q
                          have ev7 := s6.sh.evw (o := .dK (putK kvs j vz)) hm6 nf
                          obtain ⟨q1, q2⟩ := kput_ok (k := j) (rz.mono ev7) (rs.mono ev7)
                          rw [ek] at q1 q2
                          have sh7 := s6.sh.write (o := .dK (putK kvs j vz)) (d := .dic (kput ks ds j z).1 (kput ks ds j z).2) hm6 nf ⟨_, upd_same, q1, q2⟩
                          have e27 := e26.trans ev7
                          exact ⟨kvs, j, rfl, hp6, by rw [lk]; exact of_decide_eq_true eb6, hlt, M6, _, ev2.trans e27, it.mono _ _ _ _ _ iv3 (((ev4.trans ev5).trans ev6).trans ev7), sw2.later e27 sh7, so2.later e27 sh7, g2⟩
                      | _ => exact False.elim g2
      · have ei : i = items.length := Nat.le_antisymm hle (Nat.le_of_not_lt hlt)
        subst ei
        rw [List.drop_length] at g2
        exact .inl ⟨it.stop _ M2 H2 iv2, g2 M2 H2 ((ev.trans ev1).trans ev2) so2 _ (.loc (ev2.get hn1))⟩
theorem se_dc {C : List (V × D)} {X : Cx} {W : WX} {kx vx tg iter : Expr} {ifs : List Expr} {scope : Scope} {own : List (Str × Nat)} {pos : Pos} {src : MA} {T : Asg} {ts : List Nat} {tt : MT} {mk mv : ME} (hc : X.calm = true) (hN : X.N.Nodup) (hi : SI C X W tg iter src) (ok : BlkOk X.N X.env.scope scope own)
    (hg : ∀ (s : Shared) (H : Hp) (Ca : Addr) (cl : List (Str × Addr)) (fp : List Addr), SG C (X.blk s H scope (compEnvC scope cl Ca X.env) fp) tg T ts)
    (ht : ∀ (s : Shared) (H : Hp) (Ca : Addr) (cl : List (Str × Addr)) (fp : List Addr), STs C (X.blk s H scope (compEnvC scope cl Ca X.env) fp) (fun _ _ _ _ => False) ifs tt)
    (hk : ∀ (s : Shared) (H : Hp) (Ca : Addr) (cl : List (Str × Addr)) (fp : List Addr), SE C (X.blk s H scope (compEnvC scope cl Ca X.env) fp) (fun _ _ _ _ => False) kx mk)
    (he : ∀ (s : Shared) (H : Hp) (Ca : Addr) (cl : List (Str × Addr)) (fp : List Addr), SE C (X.blk s H scope (compEnvC scope cl Ca X.env) fp) (fun _ _ _ _ => False) vx mv)
    (sub : ∀ j ∈ ts, j ∈ own.map (·.2)) (hs : ∀ x, foldedSetIterable iter X.env x = pure x := by intro _; rfl) : SE C X W (.DictComp kx vx [⟨tg, iter, ifs, 0⟩] scope pos) (cDc src T tt mk mv (own.map (·.2))) := by
  exact PE.weak (pe_dc (g := tG X.K C [] T ts) (tt := tT X.K C [] (fun _ _ _ _ => False) tt) (tk := tE X.K C [] (fun _ _ _ _ => False) mk) (tv := tE X.K C [] (fun _ _ _ _ => False) mv) hc hN hi ok hg ht hk he hs) fun σ H Q t => dc_step sub t
end G

set_option Elab.async false
set_option linter.all false
set_option maxRecDepth 100000
set_option maxHeartbeats 4000000
/-! Z1: zip of a written dict and a list. -/
namespace G
open PySem PySem.Spec PyProof.Rows L2
section
variable {prog : Program} {w : World} {A : Around} {E : Value → Shared → Prop} {s : Shared}
/-- the key iterator's own step -/
theorem keyNext {k d : Addr} {i n ep : Nat} {od : Obj} {es : Array DictEntry} {en : DictEntry} {Q : Value → Shared → Prop} (st : s.heap.IsKeyIter k d i n ep) (ho : s.heap.get? d = some od) (hd : od.data = .dict es ep) (hs : es.size = n) (hx : es[i]? = some en)
    (hQ : ∀ h', h'.IsKeyIter k d (i + 1) n ep → Heap.SameBut k s.heap h' → Q en.key { s with heap := h' }) : wpAny (model prog w) A (Builtin.SmallTypes.nextOf (.ref k)) Q E s := by
  obtain ⟨o, e1, e2, e3⟩ := id st
  obtain ⟨lt, en'⟩ := Array.getElem?_eq_some_iff.mp hx
  unfold Builtin.SmallTypes.nextOf
  refine wpAny_bind (wpAny_callSpecial?_slot (name := Str.ofString "__next__") st.typeIs F.slot_dict_keyiterator_next (wpAny_call_entry F.slot_dict_keyiterator_next st.typeIs F.entry_dict_keyiterator_next ?_ (F.args_dict_keyiterator_next_1 _)))
  (refine wpAny_bind (wpAny_pure ?_)); (refine wpAny_bind ?_); (refine wpAny_bind ?_)
  (first | (refine wpAny_bind (wpAny_typeNameOfWhole_keyiter st.typeIs (wpAny_pure ?_))) | (refine wpAny_bind (wpAny_typeNameOf_keyiter st.typeIs (wpAny_pure ?_)))); (refine wpAny_bind (wpAny_fieldsOf e1 e3 ?_))
  simp only [show Builtin.Dict_items.ownsTuple "dict_keyiterator" = false by decide, Bool.false_eq_true, if_false]
  (show wpAny _ _ (if (Value.ref d == Value.none) = true then _ else _) _ _ s); (rw [if_neg (show ¬ ((Value.ref d == Value.none) = true) from Bool.false_ne_true)]); (refine wpAny_bind (wpAny_pure ?_)); (refine wpAny_bind (wpAny_dictEntries ho hd ?_))
  (rw [if_neg (by rw [hs]; simp)]); (refine wpAny_bind (wpAny_pure ?_)); (refine wpAny_bind (wpAny_dictEpoch ho hd ?_)); (rw [if_neg (by simp)]); (refine wpAny_pure ?_)
  simp only [show ¬ ((i : Int) < 0) by omega, if_false, Int.toNat_natCast, Array.getElem?_eq_getElem lt]
  (refine wpAny_bind ?_); (first | (refine wpAny_bind (wpAny_typeNameOfWhole_keyiter st.typeIs (wpAny_pure ?_))) | (refine wpAny_bind (wpAny_typeNameOf_keyiter st.typeIs (wpAny_pure ?_)))); (refine wpAny_bind (wpAny_isOneOf_keyiter st.typeIs ?_))
  (show wpAny _ _ (setField (.ref k) 1 (rawInt ((i : Int) + 1)) >>= _) _ _ s); (refine wpAny_bind (wpAny_setField e1 e3 (by simp) ?_))
  have st' : (s.heap.update k (Obj.mapFields (·.setIfInBounds 1 (rawInt ((i : Int) + 1))))).IsKeyIter k d (i + 1) n ep :=
    ⟨_, Heap.get?_update_self _ e1 (Obj.isFreed_of_fields (Obj.data_mapFields e3 _)), (Obj.cls_mapFields ..).trans e2, by rw [Obj.data_mapFields e3]; simp [rawInt]⟩
  (refine wpAny_bind (wpAny_holding ?_)); (refine wpAny_bind (wpAny_isOneOf_keyiter (s := { s with heap := s.heap.update k (Obj.mapFields (·.setIfInBounds 1 (rawInt ((i : Int) + 1)))) }) st'.typeIs ?_))
  (show wpAny _ _ (pure es[i].key) _ _ _); (rw [en'])
  exact wpAny_pure (wpAny_pure ⟨_, rfl, wpAny_pure (hQ _ st' (Heap.SameBut.update ..))⟩)
/-- .. at its end -/
theorem keyStop {k d : Addr} {i n ep : Nat} {od : Obj} {es : Array DictEntry} {Q : Value → Shared → Prop} (hh : A.handled = none) (st : s.heap.IsKeyIter k d i n ep) (ho : s.heap.get? d = some od) (hd : od.data = .dict es ep) (hs : es.size = n) (hi : n ≤ i)
    (hE : ∀ h' e, Heap.ExtBut k s.heap h' → (∃ o, h'.get? e = some o ∧ o.cls = .type "StopIteration") → E (.ref e) { s with heap := h' }) : wpAny (model prog w) A (Builtin.SmallTypes.nextOf (.ref k)) Q E s := by
  obtain ⟨o, e1, e2, e3⟩ := id st
  unfold Builtin.SmallTypes.nextOf
  refine wpAny_bind (wpAny_callSpecial?_slot (name := Str.ofString "__next__") st.typeIs F.slot_dict_keyiterator_next (wpAny_call_entry F.slot_dict_keyiterator_next st.typeIs F.entry_dict_keyiterator_next ?_ (F.args_dict_keyiterator_next_1 _)))
  (refine wpAny_bind (wpAny_pure ?_)); (refine wpAny_bind ?_); (refine wpAny_bind ?_)
  (first | (refine wpAny_bind (wpAny_typeNameOfWhole_keyiter st.typeIs (wpAny_pure ?_))) | (refine wpAny_bind (wpAny_typeNameOf_keyiter st.typeIs (wpAny_pure ?_)))); (refine wpAny_bind (wpAny_fieldsOf e1 e3 ?_))
  simp only [show Builtin.Dict_items.ownsTuple "dict_keyiterator" = false by decide, Bool.false_eq_true, if_false]
  (show wpAny _ _ (if (Value.ref d == Value.none) = true then _ else _) _ _ s); (rw [if_neg (show ¬ ((Value.ref d == Value.none) = true) from Bool.false_ne_true)]); (refine wpAny_bind (wpAny_pure ?_)); (refine wpAny_bind (wpAny_dictEntries ho hd ?_))
  (rw [if_neg (by rw [hs]; simp)]); (refine wpAny_bind (wpAny_pure ?_)); (refine wpAny_bind (wpAny_dictEpoch ho hd ?_)); (rw [if_neg (by simp)]); (refine wpAny_pure ?_)
  simp only [show ¬ ((i : Int) < 0) by omega, if_false, Int.toNat_natCast, Array.getElem?_eq_none (show es.size ≤ i by omega)]
  (refine wpAny_bind ?_); (first | (refine wpAny_bind (wpAny_typeNameOfWhole_keyiter st.typeIs (wpAny_pure ?_))) | (refine wpAny_bind (wpAny_typeNameOf_keyiter st.typeIs (wpAny_pure ?_))))
  (show wpAny _ _ (setField (.ref k) 0 .none >>= _) _ _ s); (refine wpAny_bind (wpAny_setField e1 e3 (by simp) ?_)); (show wpAny _ _ (newExc (.type "StopIteration") [] >>= _) _ _ _); (refine wpAny_bind ?_); (simp only [newExc, newTuple])
  (refine wpAny_bind (wpAny_newObj_type ?_ (by size_fits))); (refine wpAny_bind (m := firstArgMember _ _) (wpAny_of_eq (a := Value.none) (by first | rfl | (simp only [firstArgMember]; rfl)) ?_)); (refine wpAny_newObj_type ?_ (by size_fits)); (simp only [raiseNew])
  (refine wpAny_bind (wpAny_handled ?_)); (first | rw [show A.in1.handled = none from hh] | rw [hh]); (refine wpAny_bind (wpAny_pure (wpAny_throw ?_)))
  exact hE _ _ (((Heap.SameBut.update ..).extBut.push _).push _) ⟨_, Heap.get?_push_size _ rfl, rfl⟩
/-- the raw state of a zip of a key iterator and a list iterator -/
structure ZKL (h : Heap) (z TI TO i1 i2 d l : Addr) (i n ep : Nat) (f0 a b : Value) : Prop where
  z : IsZip h z TI TO f0
  ti : IsPair h TI (.ref i1) (.ref i2)
  to : IsPair h TO a b
  k1 : h.IsKeyIter i1 d i n ep
  k2 : h.IsListIter i2 l i
theorem keyIter_at {h h' : Heap} {k d : Addr} {i n ep : Nat} (st : h.IsKeyIter k d i n ep) (e : ∀ o, h.get? k = some o → h'.get? k = some o) : h'.IsKeyIter k d i n ep := by
  obtain ⟨o, e1, e2⟩ := st
  exact ⟨o, e o e1, e2⟩
/-- one step -/
theorem zklNext {z TI TO i1 i2 d l : Addr} {i n ep : Nat} {ys : Array Value} {od : Obj} {es : Array DictEntry} {en : DictEntry} {y a b : Value} {Q : Value → Shared → Prop} (D : ZipApart z TI TO i1 i2 d l)
    (Z : ZKL s.heap z TI TO i1 i2 d l i n ep .none a b) (ho : s.heap.get? d = some od) (hd : od.data = .dict es ep) (hs : es.size = n) (hx : es[i]? = some en) (hl : s.heap.IsList l ys) (hy : ys[i]? = some y)
    (hQ : ∀ h', ZKL h' z TI TO i1 i2 d l (i + 1) n ep (rawInt s.heap.objs.size) en.key y → IsPair h' s.heap.objs.size en.key y → h'.objs.size = s.heap.objs.size + 1 →
      (∀ c o, c ≠ z → c ≠ TO → c ≠ i1 → c ≠ i2 → s.heap.get? c = some o → h'.get? c = some o) → Q (.ref s.heap.objs.size) { s with heap := h' }) :
    wpAny (model prog w) A (Builtin.«zip.__next__» ⟨[.ref z], []⟩) (fun fin s' => ∃ v, fin = .done (.ret v) ∧ Q v s') E s := by
  obtain ⟨zz, zti, zto, zk, zl⟩ := Z
  (show wpAny _ _ (field (.ref z) 2 >>= _) _ _ _); (refine wpAny_bind (wpAny_field zz rfl (x := .bool false) rfl ?_)); (show wpAny _ _ (field (.ref z) 3 >>= _) _ _ _); (refine wpAny_bind (wpAny_field zz rfl (x := .ref TI) rfl ?_)); (refine wpAny_bind (wpAny_seqItems zti rfl ?_))
  (show wpAny _ _ (Builtin.SmallTypes.ownedTupleIsFree (.ref z) >>= _) _ _ _); (refine wpAny_bind ?_); (unfold Builtin.SmallTypes.ownedTupleIsFree); (refine wpAny_bind (wpAny_field zz rfl (x := .none) rfl (wpAny_pure ?_))); (simp only [if_true])
  (refine wpAny_bind (wpAny_rule ?_)); (refine wpAny_bind (wpAny_field zz rfl (x := .ref TO) rfl ?_))
  refine wpAny_bind (wpAny_setField_rec zz (by simp) fun g1 (z1 : IsZip g1 z TI TO .ellipsis) b1 => ?_)
  (refine wpAny_bind ?_); (simp only [List.zipIdx_cons, List.zipIdx_nil, List.forIn_cons, List.forIn_nil])
  (refine wpAny_bind (wpAny_bind (wpAny_onRaise ?_))); (show wpAny _ _ (Builtin.SmallTypes.nextOf (.ref i1) >>= _) _ _ _)
  refine wpAny_bind (keyNext (keyIter_at zk fun o e => b1.extBut _ _ D.i1z e) (b1.extBut _ _ D.l1z ho) hd hs hx fun g2 k2 b2 => wpAny_pure ?_)
  have t2 : IsPair g2 TO a b := b2.extBut _ _ D.TOi1 (b1.extBut _ _ D.TOz zto)
  refine wpAny_bind (wpAny_seqItems t2 rfl (wpAny_bind (wpAny_updateSeq_pair t2 fun g3 (t3 : IsPair g3 TO en.key b) b3 => (wpAny_bind (wpAny_letGo (wpAny_pure ?_))))))
  (refine wpAny_bind (wpAny_bind (wpAny_onRaise ?_))); (show wpAny _ _ (Builtin.SmallTypes.nextOf (.ref i2) >>= _) _ _ _)
  refine wpAny_bind (wpAny_nextOf_list_item (zl.at fun o e => b3.extBut _ _ D.TOi2.symm (b2.extBut _ _ D.i12.symm (b1.extBut _ _ D.i2z e))) (((hl.extBut b1.extBut D.l2z).extBut b2.extBut D.l2i1).extBut b3.extBut D.l2TO) hy fun g4 k4 b4 => wpAny_pure ?_)
  have t4 : IsPair g4 TO en.key b := b4.extBut _ _ D.TOi2 t3
  refine wpAny_bind (wpAny_seqItems t4 rfl (wpAny_bind (wpAny_updateSeq_pair t4 fun g5 (t5 : IsPair g5 TO en.key y) b5 => (wpAny_bind (wpAny_letGo (wpAny_pure (wpAny_pure ?_)))))))
  (refine wpAny_bind (wpAny_seqItems t5 rfl ?_)); (refine wpAny_bind (wpAny_newTuple ?_))
  have sz : g5.objs.size = s.heap.objs.size := by rw [b5.1, b4.1, b3.1, b2.1, b1.1]
  have z5 : IsZip g5 z TI TO .ellipsis := b5.extBut _ _ D.TOz.symm (b4.extBut _ _ D.i2z.symm (b3.extBut _ _ D.TOz.symm (b2.extBut _ _ D.i1z.symm z1)))
  have st5 : ∀ c o, c ≠ z → c ≠ TO → c ≠ i1 → c ≠ i2 → s.heap.get? c = some o → g5.get? c = some o := fun c o c1 c2 c3 c4 e => b5.extBut _ _ c2 (b4.extBut _ _ c4 (b3.extBut _ _ c2 (b2.extBut _ _ c3 (b1.extBut _ _ c1 e))))
  have k5 : g5.IsKeyIter i1 d (i + 1) n ep := keyIter_at k2 fun o e => b5.extBut _ _ D.TOi1.symm (b4.extBut _ _ D.i12 (b3.extBut _ _ D.TOi1.symm e))
  have l5 : g5.IsListIter i2 l (i + 1) := k4.at fun o e => b5.extBut _ _ D.TOi2.symm e
  have zlt : z < g5.objs.size := Heap.lt_size z5
  (show wpAny _ _ (Builtin.SmallTypes.ownedTupleHandOut (.ref z) (.ref g5.objs.size) >>= _) _ _ _); (refine wpAny_bind ?_); (unfold Builtin.SmallTypes.ownedTupleHandOut)
  have z6 : IsZip (g5.push { cls := .type "tuple", data := .seq #[en.key, y] }) z TI TO .ellipsis := Heap.get?_push_of_some _ z5
  refine wpAny_bind (wpAny_setField_rec z6 (by simp) fun g7 (z7 : IsZip g7 z TI TO (rawInt g5.objs.size)) b7 => wpAny_setField_rec z7 (by simp) fun g8 (z8 : IsZip g8 z TI TO (rawInt g5.objs.size)) b8 => ?_)
  have up : ∀ c o, c ≠ z → g5.get? c = some o → g8.get? c = some o := fun c o c1 e => b8.extBut _ _ c1 (b7.extBut _ _ c1 (Heap.get?_push_of_some _ e))
  have T8 : IsPair g8 g5.objs.size en.key y := b8.extBut _ _ (Nat.ne_of_gt zlt) (b7.extBut _ _ (Nat.ne_of_gt zlt) (Heap.get?_push_size _ rfl))
  have s8 : g8.objs.size = g5.objs.size + 1 := by rw [b8.1, b7.1, Heap.size_push]
  rw [sz] at z8 T8 s8
  refine wpAny_pure ⟨_, rfl, ?_⟩
  (show Q (.ref g5.objs.size) _); (rw [sz])
  exact hQ g8 ⟨z8, up _ _ D.TIz (st5 _ _ D.TIz D.TITO D.TIi1 D.TIi2 zti), up _ _ D.TOz t5, keyIter_at k5 fun o e => up _ o D.i1z e, l5.at fun o e => up _ o D.i2z e⟩ T8 s8 fun c o c1 c2 c3 c4 e => up c o c1 (st5 c o c1 c2 c3 c4 e)
/-- the end -/
theorem zklStop {z TI TO i1 i2 d l : Addr} {i n ep : Nat} {ys : Array Value} {od : Obj} {es : Array DictEntry} {a b : Value} {Q : Fin → Shared → Prop} (hh : A.handled = none) (D : ZipApart z TI TO i1 i2 d l)
    (Z : ZKL s.heap z TI TO i1 i2 d l i n ep .none a b) (ho : s.heap.get? d = some od) (hd : od.data = .dict es ep) (hs : es.size = n) (hl : s.heap.IsList l ys) (he : es[i]? = none ∨ ys[i]? = none)
    (hE : ∀ h' e, (∀ c o, c ≠ z → c ≠ TO → c ≠ i1 → c ≠ i2 → s.heap.get? c = some o → h'.get? c = some o) → (∃ o, h'.get? e = some o ∧ o.cls = .type "StopIteration") → E (.ref e) { s with heap := h' }) :
    wpAny (model prog w) A (Builtin.«zip.__next__» ⟨[.ref z], []⟩) Q E s := by
  obtain ⟨zz, zti, zto, zk, zl⟩ := Z
  (show wpAny _ _ (field (.ref z) 2 >>= _) _ _ _); (refine wpAny_bind (wpAny_field zz rfl (x := .bool false) rfl ?_)); (show wpAny _ _ (field (.ref z) 3 >>= _) _ _ _); (refine wpAny_bind (wpAny_field zz rfl (x := .ref TI) rfl ?_)); (refine wpAny_bind (wpAny_seqItems zti rfl ?_))
  (show wpAny _ _ (Builtin.SmallTypes.ownedTupleIsFree (.ref z) >>= _) _ _ _); (refine wpAny_bind ?_); (unfold Builtin.SmallTypes.ownedTupleIsFree); (refine wpAny_bind (wpAny_field zz rfl (x := .none) rfl (wpAny_pure ?_))); (simp only [if_true])
  (refine wpAny_bind (wpAny_rule ?_)); (refine wpAny_bind (wpAny_field zz rfl (x := .ref TO) rfl ?_))
  refine wpAny_bind (wpAny_setField_rec zz (by simp) fun g1 (z1 : IsZip g1 z TI TO .ellipsis) b1 => ?_)
  (refine wpAny_bind ?_); (simp only [List.zipIdx_cons, List.zipIdx_nil, List.forIn_cons, List.forIn_nil])
  (refine wpAny_bind (wpAny_bind (wpAny_onRaise ?_))); (show wpAny _ _ (Builtin.SmallTypes.nextOf (.ref i1) >>= _) _ _ _)
  cases hx : es[i]? with
  | none =>
    refine wpAny_bind (keyStop hh (keyIter_at zk fun o e => b1.extBut _ _ D.i1z e) (b1.extBut _ _ D.l1z ho) hd hs (by have := Array.getElem?_eq_none_iff.mp hx; omega) fun g2 e b2 ⟨oe, q1, q2⟩ => ?_)
    have z2 : IsZip g2 z TI TO .ellipsis := b2 _ _ D.i1z.symm z1
    have ne : e ≠ z := fun x => by subst x; rw [z2] at q1; cases q1; simp at q2
    exact wpAny_setField_rec z2 (by simp) fun g3 _ b3 => hE g3 e (fun c o c1 _ c3 _ x => b3.extBut _ _ c1 (b2 _ _ c3 (b1.extBut _ _ c1 x))) ⟨oe, b3.extBut _ _ ne q1, q2⟩
  | some en =>
    have hy : ys[i]? = none := by rcases he with h | h; rw [hx] at h; cases h; exact h
    refine wpAny_bind (keyNext (keyIter_at zk fun o e => b1.extBut _ _ D.i1z e) (b1.extBut _ _ D.l1z ho) hd hs hx fun g2 k2 b2 => wpAny_pure ?_)
    have t2 : IsPair g2 TO a b := b2.extBut _ _ D.TOi1 (b1.extBut _ _ D.TOz zto)
    refine wpAny_bind (wpAny_seqItems t2 rfl (wpAny_bind (wpAny_updateSeq_pair t2 fun g3 (t3 : IsPair g3 TO en.key b) b3 => (wpAny_bind (wpAny_letGo (wpAny_pure ?_))))))
    (refine wpAny_bind (wpAny_bind (wpAny_onRaise ?_))); (show wpAny _ _ (Builtin.SmallTypes.nextOf (.ref i2) >>= _) _ _ _)
    refine wpAny_bind (wpAny_nextOf_list_end hh (zl.at fun o e => b3.extBut _ _ D.TOi2.symm (b2.extBut _ _ D.i12.symm (b1.extBut _ _ D.i2z e))) (((hl.extBut b1.extBut D.l2z).extBut b2.extBut D.l2i1).extBut b3.extBut D.l2TO) hy fun g4 e b4 ⟨oe, q1, q2⟩ => ?_)
    have z4 : IsZip g4 z TI TO .ellipsis := b4 _ _ D.i2z.symm (b3.extBut _ _ D.TOz.symm (b2.extBut _ _ D.i1z.symm z1))
    have ne : e ≠ z := fun x => by subst x; rw [z4] at q1; cases q1; simp at q2
    exact wpAny_setField_rec z4 (by simp) fun g5 _ b5 => hE g5 e (fun c o c1 c2 c3 c4 x => b5.extBut _ _ c1 (b4 _ _ c4 (b3.extBut _ _ c2 (b2.extBut _ _ c3 (b1.extBut _ _ c1 x))))) ⟨oe, b5.extBut _ _ ne q1, q2⟩
theorem zklPy {z TI TO i1 i2 d l : Addr} {i n ep : Nat} {ys : Array Value} {od : Obj} {es : Array DictEntry} {en : DictEntry} {y a b : Value} {Q : Option Value → Shared → Prop} (D : ZipApart z TI TO i1 i2 d l)
    (Z : ZKL s.heap z TI TO i1 i2 d l i n ep .none a b) (ho : s.heap.get? d = some od) (hd : od.data = .dict es ep) (hs : es.size = n) (hx : es[i]? = some en) (hl : s.heap.IsList l ys) (hy : ys[i]? = some y)
    (hQ : ∀ h', ZKL h' z TI TO i1 i2 d l (i + 1) n ep (rawInt s.heap.objs.size) en.key y → IsPair h' s.heap.objs.size en.key y → h'.objs.size = s.heap.objs.size + 1 →
      (∀ c o, c ≠ z → c ≠ TO → c ≠ i1 → c ≠ i2 → s.heap.get? c = some o → h'.get? c = some o) → Q (some (.ref s.heap.objs.size)) { s with heap := h' }) :
    wpAny (model prog w) A (pyNext (.ref z)) Q E s := by
  have hT : s.TypeIs (.ref z) "zip" := ⟨_, Z.z, rfl⟩
  unfold pyNext
  refine wpAny_bind (wpAny_attempt (wpAny_callSpecial?_slot (name := Str.ofString "__next__") hT F.slot_zip_next (wpAny_call_entry F.slot_zip_next hT F.entry_zip_next (zklNext D Z ho hd hs hx hl hy fun h' q1 q2 q3 q4 => wpAny_pure (hQ h' q1 q2 q3 q4)) (F.args_zip_next_1 _))))
theorem zklPyEnd {z TI TO i1 i2 d l : Addr} {i n ep : Nat} {ys : Array Value} {od : Obj} {es : Array DictEntry} {a b : Value} {Q : Option Value → Shared → Prop} (hh : A.handled = none) (D : ZipApart z TI TO i1 i2 d l)
    (Z : ZKL s.heap z TI TO i1 i2 d l i n ep .none a b) (ho : s.heap.get? d = some od) (hd : od.data = .dict es ep) (hs : es.size = n) (hl : s.heap.IsList l ys) (he : es[i]? = none ∨ ys[i]? = none)
    (hQ : ∀ h', (∀ c o, c ≠ z → c ≠ TO → c ≠ i1 → c ≠ i2 → s.heap.get? c = some o → h'.get? c = some o) → Q none { s with heap := h' }) : wpAny (model prog w) A (pyNext (.ref z)) Q E s := by
  have hT : s.TypeIs (.ref z) "zip" := ⟨_, Z.z, rfl⟩
  unfold pyNext
  refine wpAny_bind (wpAny_attempt (wpAny_callSpecial?_slot (name := Str.ofString "__next__") hT F.slot_zip_next (wpAny_call_entry F.slot_zip_next hT F.entry_zip_next (zklStop hh D Z ho hd hs hl he fun h' e hk ⟨o, e1, e2⟩ => ?_) (F.args_zip_next_1 _))))
  exact wpAny_bind (wpAny_isInstance (T := "StopIteration") (b := true) ⟨o, e1, e2⟩ isSubtype_stop (wpAny_pure (hQ _ hk)))
end
end G

set_option Elab.async false
set_option linter.all false
set_option maxRecDepth 100000
set_option maxHeartbeats 4000000
/-! Z2: zip of a written dict and a list: made, walked. -/
namespace G
open PySem PySem.Spec PyProof.Rows L2
def zk1 (h : Heap) (d : Addr) (n ep : Nat) : Heap := h.push { cls := .type "dict_keyiterator", data := .fields #[.ref d, .int 0 0, .int n 0, .int ep 0] }
def zk2 (h : Heap) (d l : Addr) (n ep : Nat) : Heap := (zk1 h d n ep).push { cls := .type "list_iterator", data := .fields #[.ref l, .int 0 0] }
def zk3 (h : Heap) (d l : Addr) (n ep : Nat) : Heap := (zk2 h d l n ep).push { cls := .type "tuple", data := .seq #[.ref h.objs.size, .ref (zk1 h d n ep).objs.size] }
def zk4 (h : Heap) (d l : Addr) (n ep : Nat) : Heap := (zk3 h d l n ep).push { cls := .type "tuple", data := .seq #[.none, .none] }
def zk5 (h : Heap) (d l : Addr) (n ep : Nat) : Heap := (zk4 h d l n ep).push { cls := .type "zip", data := .fields #[.none, .bool false, .bool false, .ref (zk2 h d l n ep).objs.size, .ref (zk3 h d l n ep).objs.size] }
theorem meets_zkl (d l : Addr) (ys : Array Value) (es : Array DictEntry) (ep : Nat) (low : (d == sysModules) = false) :
    Meets (Builtin.«zip.__new__» ⟨[.type "zip", .ref d, .ref l], []⟩) (fun _ R s => (∃ o, s.heap.get? d = some o ∧ o.ExactDict ∧ o.data = .dict es ep) ∧ s.heap.IsList l ys ∧
      R (.ok (.ret (.ref (zk4 s.heap d l es.size ep).objs.size))) { s with heap := zk5 s.heap d l es.size ep }) :=
  .of_wp fun prog w A R s h => by
    obtain ⟨hp, g, dd, tk, os⟩ := s
    obtain ⟨⟨o, ho, hx, hd⟩, hl, h⟩ := h
    have hsub := sub_zip
    have hL2 : Heap.IsList (Shared.heap ⟨zk1 hp d es.size ep, g, dd, tk, os⟩) l ys := Heap.IsList.push hl _
    have hK : ∀ {A' : Around} {E' : Value → Shared → Prop} {Q' : Value → Shared → Prop}, Q' (.ref hp.objs.size) ⟨zk1 hp d es.size ep, g, dd, tk, os⟩ → wpAny (model prog w) A' (pyIter (.ref d)) Q' E' ⟨hp, g, dd, tk, os⟩ := fun q => iter_keys low ho hx hd q
    wp_walk using hK, wpAny_pyIter_list hL2
    exact ⟨_, rfl, h⟩
section
variable {prog : Program} {w : World} {A : Around} {E : Value → Shared → Prop} {s : Shared}
theorem call_zkl {d l : Addr} {ys : Array Value} {es : Array DictEntry} {ep : Nat} {o : Obj} {Q : Value → Shared → Prop} (low : (d == sysModules) = false) (ho : s.heap.get? d = some o) (hx : o.ExactDict) (hd : o.data = .dict es ep) (hl : s.heap.IsList l ys)
    (h : ∀ h', ZKL h' (s.heap.objs.size + 4) (s.heap.objs.size + 2) (s.heap.objs.size + 3) s.heap.objs.size (s.heap.objs.size + 1) d l 0 es.size ep .none .none .none → (∀ c o, s.heap.get? c = some o → h'.get? c = some o) → Q (.ref (s.heap.objs.size + 4)) { s with heap := h' }) :
    wpAny (model prog w) A (call (.type "zip") [.ref d, .ref l]) Q E s := by
  refine callType_new F.called_zip (by decide) (F.typeCall_zip_2 _ _) (F.newCall_zip_2 _ _) (fun obj => F.args_object_init_3 obj _ _) F.entry_zip_new (meets_zkl d l ys es ep low) ⟨⟨o, ho, hx, hd⟩, hl, ?_⟩
  have q1 : (zk1 s.heap d es.size ep).objs.size = s.heap.objs.size + 1 := Heap.size_push ..
  have q2 : (zk2 s.heap d l es.size ep).objs.size = s.heap.objs.size + 2 := by unfold zk2; rw [Heap.size_push, q1]
  have q3 : (zk3 s.heap d l es.size ep).objs.size = s.heap.objs.size + 3 := by unfold zk3; rw [Heap.size_push, q2]
  have q4 : (zk4 s.heap d l es.size ep).objs.size = s.heap.objs.size + 4 := by unfold zk4; rw [Heap.size_push, q3]
  have p5 : (zk5 s.heap d l es.size ep).get? (zk4 s.heap d l es.size ep).objs.size = some _ := Heap.get?_push_size _ rfl
  have p4 : (zk5 s.heap d l es.size ep).get? (zk3 s.heap d l es.size ep).objs.size = some _ := Heap.get?_push_of_some _ (Heap.get?_push_size _ rfl)
  have p3 : (zk5 s.heap d l es.size ep).get? (zk2 s.heap d l es.size ep).objs.size = some _ := Heap.get?_push_of_some _ (Heap.get?_push_of_some _ (Heap.get?_push_size _ rfl))
  have p2 : (zk5 s.heap d l es.size ep).get? (zk1 s.heap d es.size ep).objs.size = some _ := Heap.get?_push_of_some _ (Heap.get?_push_of_some _ (Heap.get?_push_of_some _ (Heap.get?_push_size _ rfl)))
  have p1 : (zk5 s.heap d l es.size ep).get? s.heap.objs.size = some _ := Heap.get?_push_of_some _ (Heap.get?_push_of_some _ (Heap.get?_push_of_some _ (Heap.get?_push_of_some _ (Heap.get?_push_size _ rfl))))
  show _ ∧ _
  rw [q2, q3, q4] at p5
  rw [q1, q2] at p3
  rw [q3] at p4
  rw [q1] at p2
  rw [q4]
  exact ⟨⟨_, p5, rfl⟩, h _ ⟨p5, p3, p4, ⟨_, p1, rfl, rfl⟩, ⟨_, p2, rfl, rfl⟩⟩ fun c o x => Heap.get?_push_of_some _ (Heap.get?_push_of_some _ (Heap.get?_push_of_some _ (Heap.get?_push_of_some _ (Heap.get?_push_of_some _ x))))⟩
end
/-- the texts that are the keys of a written dict, in their order -/
def KKeys (K : PySem.W.Frag) (w : World) (d : Addr) (ks : List Str) : Prop := ∃ es ep, KDict K w d es ep ∧ es.size = ks.length ∧ ∀ (i : Nat) (k : Str), ks[i]? = some k → ∃ en t, es[i]? = some en ∧ en.key = .str k t
/-- the keys of a written dict, beside the items of a list -/
def ItzD (K : PySem.W.Frag) (ks : List Str) (l : Addr) : It :=
  ⟨fun i H => i < ks.length ∧ ∃ (ys : List V) (y : V), SqL K H l ys ∧ ys[i]? = some y,
    fun i H v H' => ∃ T k y, v = .ref T ∧ H T = none ∧ H' = upd H T (.tup [.str k, y]) ∧ ks[i]? = some k ∧ ∀ ys, SqL K H l ys → ys[i]? = some y,
    fun i H => ∃ ys : List V, SqL K H l ys ∧ (ks.length ≤ i ∨ ys.length ≤ i)⟩
theorem zfive {z TI TO i1 i2 c : Addr} (h : c ∈ [z, TI, TO, i1, i2]) : c = z ∨ c = TI ∨ c = TO ∨ c = i1 ∨ c = i2 := by simpa using h
theorem turn_zkl {P : Program} {w : World} {K : PySem.W.Frag} {elts : List Expr} {kk : Nat} {tpos : Pos} {d l z TI TO i1 i2 : Addr} {ks : List Str} {es : Array DictEntry} {ep : Nat} (D : ZipApart z TI TO i1 i2 d l)
    (DD : KDict K w d es ep) (hsz : es.size = ks.length) (hks : ∀ (i : Nat) (k : Str), ks[i]? = some k → ∃ en t, es[i]? = some en ∧ en.key = .str k t) :
    Turn P w K (.Tuple elts kk tpos) (ItzD K ks l) [z, TI, TO, i1, i2] z (fun i h => ∃ x y, ZKL h z TI TO i1 i2 d l i es.size ep .none x y) where
  mem := by simp
  obj := fun i h st c hc => by
    obtain ⟨x, y, zz, t1, t2, ⟨o1, e1, _, d1⟩, ⟨o2, e2, _, d2⟩⟩ := st
    rcases zfive hc with q | q | q | q | q
    all_goals rw [q]
    · exact ⟨_, zz, fun v q => nomatch q⟩
    · exact ⟨_, t1, fun v q => nomatch q⟩
    · exact ⟨_, t2, fun v q => nomatch q⟩
    · exact ⟨o1, e1, fun v q => by rw [d1] at q; cases q⟩
    · exact ⟨o2, e2, fun v q => by rw [d2] at q; cases q⟩
  keep := fun i h h' st k => by
    obtain ⟨x, y, zz, t1, t2, k1, k2⟩ := st
    exact ⟨x, y, k z (by simp) _ zz, k TI (by simp) _ t1, k TO (by simp) _ t2, keyIter_at k1 fun o q => k i1 (by simp) o q, k2.at fun o q => k i2 (by simp) o q⟩
  item := by
    intro X eP ew eK hc i pins s σ H E I hf st hg
    subst eP ew eK
    obtain ⟨x0, y0, Z⟩ := st
    obtain ⟨hi, ys, y, hq, hy⟩ := hg
    obtain ⟨its, rv, pl, _⟩ := I.list hq
    obtain ⟨u, hu, ru⟩ := rv.get hy
    obtain ⟨en, t, hen, hkey⟩ := hks i ks[i] (List.getElem?_eq_getElem hi)
    have hd := I.kIn _ _ DD.at_
    have zl : z < s.heap.objs.size := Heap.lt_size Z.z
    refine zklPy D Z hd rfl rfl hen pl.isList (y := u) (by simpa using hu) fun h' Z' T' sz kp => ⟨_, rfl, wpAny_letOwnedTupleGo_zip (s := { s with heap := h' }) Z'.z fun h'' z'' sb => ?_⟩
    rw [hkey] at T'
    have T2 : h''.get? s.heap.objs.size = some { cls := .type "tuple", data := .seq #[.str ks[i] t, u] } := (sb.2 _ (Nat.ne_of_gt zl)).trans T'
    have new : ObjOk X.prog X.w (upd H s.heap.objs.size (.tup [.str ks[i], y])) h'' s.heap.objs.size (.tup [.str ks[i], y]) := ⟨by show 2 ≤ sizeLine; decide, [.str ks[i] t, u], .cons ⟨t, rfl⟩ (.cons ru .nil), ⟨_, T2, rfl, _, rfl⟩⟩
    have I1 : Inv X pins σ (upd H s.heap.objs.size (.tup [.str ks[i], y])) { s with heap := h'' } :=
      I.turnedNew (t' := s.toks) (ch := [z, TI, TO, i1, i2]) (fun c o hb q => (sb.2 c fun e => hb (by simp [e])).trans (kp c o (fun e => hb (by simp [e])) (fun e => hb (by simp [e])) (fun e => hb (by simp [e])) (fun e => hb (by simp [e])) q)) hf (Nat.le_refl _) new
    refine ⟨.ref s.heap.objs.size, _, I1, rfl, ⟨_, ks[i], y, rfl, I.hok.fresh (Nat.le_refl _), rfl, List.getElem?_eq_getElem hi, fun ys' h' => by rw [I.list_inj h' hq]; exact hy⟩, ⟨_, _, ⟨z'', (sb.2 _ D.TIz).trans Z'.ti, (sb.2 _ D.TOz).trans Z'.to, keyIter_at Z'.k1 fun o q => (sb.2 _ D.i1z).trans q, Z'.k2.at fun o q => (sb.2 _ D.i2z).trans q⟩⟩, fun c hcm => ?_⟩
    obtain ⟨_, _, zz, t1, t2, k1, k2⟩ : ∃ x y, ZKL s.heap z TI TO i1 i2 d l i es.size ep .none x y := ⟨_, _, Z⟩
    have lt : c < s.heap.objs.size := by
      rcases zfive hcm with q | q | q | q | q
      all_goals rw [q]
      · exact zl
      · exact Heap.lt_size t1
      · exact Heap.lt_size t2
      · obtain ⟨_, e1, _⟩ := k1; exact Heap.lt_size e1
      · obtain ⟨_, e2, _⟩ := k2; exact Heap.lt_size e2
    rw [upd_ne (Nat.ne_of_lt lt)]
    exact (hf c hcm).1
  done := by
    intro X eP ew eK hc i pins s σ H E I hf st hg
    subst eP ew eK
    obtain ⟨x0, y0, Z⟩ := st
    obtain ⟨ys, hq, he⟩ := hg
    obtain ⟨its, rv, pl, _⟩ := I.list hq
    have hl := rv.length
    have hd := I.kIn _ _ DD.at_
    have he' : es[i]? = none ∨ its.toArray[i]? = none := by
      rcases he with q | q
      · exact .inl (Array.getElem?_eq_none (by omega))
      · exact .inr (by simp; omega)
    exact zklPyEnd (I.ok.hd hc) D Z hd rfl rfl pl.isList he' fun h' kp => ⟨rfl, I.turnedL (t' := s.toks) (ch := [z, TI, TO, i1, i2]) (fun c o hb q => kp c o (fun e => hb (by simp [e])) (fun e => hb (by simp [e])) (fun e => hb (by simp [e])) (fun e => hb (by simp [e])) q) hf⟩
  self := fun A i s Q E st h => by
    obtain ⟨_, _, Z⟩ := st
    exact wpAny_pyIter_zip Z.z h
def iZipD (K : PySem.W.Frag) (d : Addr) (ks : List Str) (te : TE) : TI := fun σ H R => te σ H fun v H1 => ∃ l ys, [V.ref d, v] = [V.ref d, V.ref l] ∧ SqL K H1 l ys ∧ R (ItzD K ks l) H1
/-- zip(D, e): D a written dict with texts as keys, e a list -/
theorem pi_zipD {X : Cx} {x : Str} {e2 : Expr} {te : TE} {p px pos tpos : Pos} {elts : List Expr} {kk : Nat} {d : Addr} {ks : List Str} (hg : Gl X "zip") (hm : X.mg "zip" = none) (hgx : Gl X x) (hmx : X.mg x = some (.ref d)) (KK : KKeys X.K X.w d ks) (he : PE X e2 te)
    (hdb : (x == ("__debug__" : Str)) = false := by decide)
    (hs : starEach [.Name x px, e2] X.env = (false, eval (.Name x px) X.env) :: starEach [e2] X.env := by rfl) (hs2 : starEach [e2] X.env = (false, eval e2 X.env) :: starEach [] X.env := by rfl) (hpl : (backTo pos (starEach [e2] X.env)).any (·.1) = false := by rfl) :
    PI X (.Tuple elts kk tpos) (.Call (.Name "zip" p) [.Name x px, e2] [] pos) (iZipD X.K d ks te) := by
  refine ⟨fun pins s σ H R I h => ?_⟩
  have ha : PA X [.Name x px, e2] (tCons (tC (.ref d)) (tCons te tNil)) := pa_cons (pe_glob (v := .ref d) hgx hmx rfl hdb) (pa_cons he pa_nil hs2) hs
  refine Call_ (ld_blt I hg hm PyProof.Rows.boot_zip (PyProof.Rows.callWith_type1 (thn (ha.run pos pins s σ H (fun vs H1 => ∃ l ys, vs = [V.ref d, .ref l] ∧ SqL X.K H1 l ys ∧ R (ItzD X.K ks l) H1) I ?_) fun us s1 ⟨vs, H1, I1, r1, l, ys, ex, hq, q⟩ => ?_) hs hpl))
  · exact h
  subst ex
  obtain ⟨u, rfl, ws⟩ : ∃ u : List Value, us = u ∧ True := ⟨_, rfl, trivial⟩
  obtain ⟨es, ep, DD, hsz, hks⟩ := KK
  cases r1 with
  | cons r rr =>
    cases rr with
    | cons r' rr =>
      cases rr
      cases r
      cases r'
      have fresh5 : ∀ c, c ∈ [s1.heap.objs.size + 4, s1.heap.objs.size + 2, s1.heap.objs.size + 3, s1.heap.objs.size, s1.heap.objs.size + 1] → FpOk X pins H1 c := fun c hcm => by
        have hle : s1.heap.objs.size ≤ c := by rcases zfive hcm with z | z | z | z | z <;> (rw [z]; first | exact Nat.le_add_right _ _ | exact Nat.le_refl _)
        exact I1.fpOk hle (I1.hok.fresh hle)
      obtain ⟨its, rv, pl, _⟩ := I1.list hq
      have hd := I1.kIn _ _ DD.at_
      refine call_zkl DD.low hd ⟨rfl, rfl, rfl⟩ rfl pl.isList fun h' Z kp => wpAny_pyIter_zip Z.z ?_
      have I2 : Inv X pins σ H1 { s1 with heap := h' } := I1.kept (t' := s1.toks) kp
      exact ⟨s1.heap.objs.size + 4, [s1.heap.objs.size + 4, s1.heap.objs.size + 2, s1.heap.objs.size + 3, s1.heap.objs.size, s1.heap.objs.size + 1], _, _, H1, rfl, I2, turn_zkl (PySem.W.ktu_apart s1.heap.objs.size d l (Heap.lt_size hd) pl.lt) DD hsz hks, ⟨_, _, Z⟩, fresh5, q⟩
end G

set_option Elab.async false
set_option linter.all false
set_option maxRecDepth 100000
set_option maxHeartbeats 4000000
/-! Z3: dicts merged: **d in displays and calls. -/
namespace G
open PySem PySem.Spec PyProof.Rows L2
section
variable {prog : Program} {w : World} {KT : Type} [DecidableEq KT] {knd : KeyKind prog w KT} {A : Around} {E : Value → Shared → Prop} {s : Shared}
theorem idx_of {es : Array DictEntry} {kvs : List (KT × Value)} {k : KT} (h : (es.toList.findIdx? fun e => knd.is k e.key) = kvs.findIdx? fun kv => decide (kv.1 = k)) : (es.findIdx? fun e => knd.is k e.key) = kvs.findIdx? fun kv => decide (kv.1 = k) := by
  rw [← h]; obtain ⟨l⟩ := es; simp
theorem put_ok {d : Addr} {kvs : List (KT × Value)} {k : KT} {key v : Value} {Q : Unit → Shared → Prop} (hk : knd.is k key = true) (D : s.heap.DictOf knd d kvs) (hz : kvs.length ≤ sizeLine)
    (hQ : ∀ h', h'.DictOf knd d (stored kvs k v) → Heap.SameBut d s.heap h' → Q () { s with heap := h' }) : wpAny (model prog w) A (dictPut d (knd.hash k) key v) Q E s := by
  obtain ⟨o, es, ep, o1, o2, o3, o4, o5, o6⟩ := D
  have sz : es.size ≤ sizeLine := by have e1 := o5.length; rw [Array.length_toList] at e1; omega
  have ix := idx_of (knd := knd) (o5.findIdx k)
  unfold dictPut
  refine wpAny_bind (wpAny_dictFind_of hk o1 o3 o4 ?_)
  cases hi : es.findIdx? fun e => knd.is k e.key with
  | some i =>
    refine wpAny_updateDict o1 o3 (hQ _ ⟨_, _, ep, Heap.get?_update_self _ o1 (Obj.isFreed_of_dict (Obj.data_mapDict o3 _)), o2.mapDict _, Obj.data_mapDict o3 _, o4.modify _ _, ?_, ?_⟩ (Heap.SameBut.update ..))
    · have hl : (es.toList.findIdx? fun e => knd.is k e.key) = some i := by rw [← hi]; obtain ⟨l⟩ := es; simp
      have q := o5.modify o6 hl v
      rw [stored, if_pos (any_of_findIdx_some (ix ▸ hi))]
      obtain ⟨l⟩ := es
      simpa using q
    · rw [stored, if_pos (any_of_findIdx_some (ix ▸ hi)), keys_map_store]; exact o6
  | none =>
    have nk : k ∉ kvs.map (·.1) := not_mem_of_findIdx_none (ix ▸ hi)
    have na : ¬ (kvs.any fun kv => decide (kv.1 = k)) = true := fun h => by
      obtain ⟨kv, h1, h2⟩ := List.any_eq_true.mp h
      exact nk (List.mem_map.mpr ⟨kv, h1, of_decide_eq_true h2⟩)
    refine wpAny_updateDictKeys (hz := sz) o1 o3 (hQ _ ⟨_, _, ep + 1, Heap.get?_update_self _ o1 (Obj.isFreed_of_dict (Obj.data_mapDictKeys o3 _)), o2.mapDictKeys _, Obj.data_mapDictKeys o3 _, o4.push hk _, ?_, ?_⟩ (Heap.SameBut.update ..))
    · have q := o5.append hk (knd.hash k) v
      rw [stored, if_neg na]
      obtain ⟨l⟩ := es
      simpa using q
    · rw [stored, if_neg na, List.map_append, List.nodup_append]
      refine ⟨o6, by simp, fun a ha b hb e => ?_⟩
      simp only [List.map_cons, List.map_nil, List.mem_singleton] at hb
      subst hb; subst e
      exact nk ha
theorem pull {o i : Nat} {x : Nat} {rest : List Nat} (hr : x :: rest = List.range' i (o - i)) : i < o ∧ x = i ∧ rest = List.range' (i + 1) (o - (i + 1)) := by
  have lt : i < o := by
    rcases Nat.lt_or_ge i o with h | h
    · exact h
    · rw [Nat.sub_eq_zero_of_le h] at hr; simp at hr
  have e : o - i = (o - (i + 1)) + 1 := by omega
  rw [e, List.range'_succ] at hr
  injection hr with h1 h2
  exact ⟨lt, h1, h2⟩
theorem pull0 {o i : Nat} (hr : [] = List.range' i (o - i)) (hi : i ≤ o) : i = o := by
  rcases Nat.lt_or_ge i o with h | h
  · have e : o - i = (o - (i + 1)) + 1 := by omega
    rw [e, List.range'_succ] at hr; exact nomatch hr
  · exact Nat.le_antisymm hi h
theorem forIn_list_const {α : Type} {f : α → PUnit → Sem (ForInStep PUnit)} : ∀ (l : List α), (∀ x ∈ l, f x PUnit.unit = pure (.yield PUnit.unit)) → forIn l PUnit.unit f = pure PUnit.unit
  | [], _ => by simp
  | x :: l, h => by
    rw [List.forIn_cons, h x List.mem_cons_self, pure_bind]
    exact forIn_list_const l fun y hy => h y (List.mem_cons_of_mem _ hy)
theorem forIn_arr_const {α : Type} {f : α → PUnit → Sem (ForInStep PUnit)} (l : Array α) (h : ∀ x ∈ l, f x PUnit.unit = pure (.yield PUnit.unit)) : forIn l PUnit.unit f = pure PUnit.unit := by
  rw [← Array.forIn_toList]
  exact forIn_list_const _ fun x hx => h x (by simpa using hx)
/-- an exact dict o merged into d -/
theorem merge_ok {d o : Addr} {u : Bool} {kvs more : List (KT × Value)} {Q : Unit → Shared → Prop} (hdo : d ≠ o) (low : (o == sysModules) = false) (hd : s.heap.DictOf knd d kvs) (ho : s.heap.DictOf knd o more)
    (hb : ∀ (k : KT) (key : Value), knd.is k key = true → ∀ a, key ≠ .ref a) (hu : u = true → ((kvs ++ more).map (·.1)).Nodup)
    (hQ : ∀ h', h'.DictOf knd d (merged kvs more) → h'.DictOf knd o more → Heap.SameBut d s.heap h' → Q () { s with heap := h' }) (hz : kvs.length + more.length ≤ sizeLine) :
    wpAny (model prog w) A (mergeMapping d (.ref o) u) Q E s := by
  obtain ⟨od, esd, epd, d1, d2, d3, d4, d5, d6⟩ := id hd
  obtain ⟨oo, eso, epo, q1, q2, q3, q4, q5, q6⟩ := id ho
  have hlen : more.length = eso.size := by rw [← q5.length]; simp
  have hT : s.TypeIs (.ref o) "dict" := ⟨oo, q1, q2.1⟩
  unfold mergeMapping
  refine wpAny_bind (wpAny_isInstance (T := "dict") (b := true) hT isSubtype_dict_dict ?_)
  rw [if_pos rfl]
  refine wpAny_bind (wpAny_specialOf hT F.slot_dict_iter.lookup (wpAny_bind (wpAny_pure ?_)))
  rw [show (some (Value.builtin "dict.__iter__") == some (Value.builtin "dict.__iter__")) = true from by simp]
  dsimp only
  rw [if_neg (by rw [low]; exact Bool.false_ne_true)]
  have loop : wpAny (model prog w) A (do
      let l ← dictEntries o
      let epoch ← dictEpoch o
      forIn (List.range l.size) PUnit.unit fun i (_ : PUnit) => (do
        let l' ← dictEntries o
        match l'[i]? with
          | some e => do
            holding [e.key, e.val] (if u = true then do
                let f ← dictFind d e.key e.hash
                if f.isSome = true then do
                    rule "dict.merge.duplicate-key"
                    let x ← newExc (Value.type "KeyError") [e.key]
                    let r ← (raiseNew x : Sem PUnit)
                    dictPut d e.hash e.key e.val
                  else dictPut d e.hash e.key e.val
              else dictPut d e.hash e.key e.val)
            let ep' ← dictEpoch o
            if (ep' != epoch) = true then do
                (unsupported "dict.changed-during-merge" : Sem PUnit)
                pure (ForInStep.yield PUnit.unit)
              else pure (ForInStep.yield PUnit.unit)
          | _ => do
            (unsupported "dict.changed-during-merge" : Sem PUnit)
            pure (ForInStep.yield PUnit.unit) : Sem (ForInStep PUnit))
      pure ()) Q E s := by
    refine wpAny_bind (wpAny_dictEntries q1 q3 (wpAny_bind (wpAny_dictEpoch q1 q3 (wpAny_bind ?_))))
    rw [List.range_eq_range']
    refine wpAny_forIn_list _ (fun rest _ s' => ∃ h' i, s' = { s with heap := h' } ∧ rest = List.range' i (eso.size - i) ∧ i ≤ eso.size ∧ h'.DictOf knd d (merged kvs (more.take i)) ∧ h'.get? o = some oo ∧ Heap.SameBut d s.heap h')
      _ ?_ ?_ _ _ ⟨s.heap, 0, rfl, by simp, Nat.zero_le _, by simpa [merged] using hd, q1, Heap.SameBut.refl _ _⟩
    · rintro x rest b s' ⟨h', i, rfl, hr, hi, hd', ho', sb⟩
      obtain ⟨lt, rfl, hrest⟩ := pull hr
      obtain ⟨⟨k, v⟩, hkv⟩ : ∃ kv, more[x]? = some kv := ⟨more[x]'(by omega), List.getElem?_eq_getElem _⟩
      obtain ⟨hkey, hval⟩ := q5.get? (e := eso[x]) (by simp [lt]) hkv
      obtain ⟨k', hkey', hhash⟩ := q4 eso[x] (Array.getElem_mem lt)
      obtain rfl : k' = k := knd.inj _ _ _ hkey' hkey
      refine wpAny_bind (wpAny_dictEntries ho' q3 ?_)
      rw [Array.getElem?_eq_getElem lt]
      dsimp only
      rw [hhash, hval]
      have mz : (merged kvs (more.take x)).length ≤ sizeLine := by
        have e1 := merged_length_le kvs (more.take x)
        have e2 : (more.take x).length ≤ more.length := by rw [List.length_take]; omega
        omega
      have put : ∀ {E'}, wpAny (model prog w) A (dictPut d (knd.hash k') eso[x].key v) (fun _ s'' => wpAny (model prog w) A (do
            let ep' ← dictEpoch o
            if (ep' != epo) = true then do
                (unsupported "dict.changed-during-merge" : Sem PUnit)
                pure (ForInStep.yield PUnit.unit)
              else pure (ForInStep.yield PUnit.unit)) (fun st s'' => match st with
        | .yield b => ∃ h' i, s'' = { s with heap := h' } ∧ rest = List.range' i (eso.size - i) ∧ i ≤ eso.size ∧ h'.DictOf knd d (merged kvs (more.take i)) ∧ h'.get? o = some oo ∧ Heap.SameBut d s.heap h'
        | .done b => wpAny (model prog w) A (pure ()) Q E s'') E s'') E' { s with heap := h' } := fun {E'} => put_ok (s := { s with heap := h' }) hkey hd' mz fun h'' hd'' sb' => by
        have ho'' : h''.get? o = some oo := (sb'.2 o (Ne.symm hdo)).trans ho'
        refine wpAny_bind (wpAny_dictEpoch (s := { s with heap := h'' }) ho'' q3 ?_)
        rw [if_neg (by simp)]
        exact wpAny_pure ⟨h'', x + 1, rfl, hrest, lt, by rw [merged_take_succ kvs more x (k', v) hkv]; exact hd'', ho'', sb.trans sb'⟩
      refine wpAny_bind (wpAny_holding ?_)
      cases u with
      | false => rw [if_neg Bool.false_ne_true]; exact wpAny_mono put (fun _ s'' h => wpAny_mono h (fun r s3 q => by cases r <;> exact q) fun _ _ e => e) fun _ _ e => e
      | true =>
        rw [if_pos rfl]
        obtain ⟨o', es', ep', p1, p2, p3, p4, p5, p6⟩ := id hd'
        refine wpAny_bind (wpAny_dictFind_of hkey p1 p3 p4 ?_)
        have nk : k' ∉ (merged kvs (more.take x)).map (·.1) := by
          have nd := hu rfl
          have e1 : merged kvs (more.take x) = kvs ++ more.take x := merged_append_of_fresh _ _ (by
            refine List.Sublist.nodup ?_ nd
            exact (List.Sublist.append (List.Sublist.refl _) (List.take_sublist _ _)).map _)
          rw [e1]
          intro hm
          have e2 : kvs ++ more = (kvs ++ more.take x) ++ ((k', v) :: more.drop (x + 1)) := by
            rw [List.append_assoc]
            congr 1
            have hx : x < more.length := by omega
            have e3 : more[x] = (k', v) := by
              have := List.getElem?_eq_getElem hx
              rw [hkv] at this
              exact (Option.some.inj this).symm
            rw [← e3, ← List.drop_eq_getElem_cons hx, List.take_append_drop]
          rw [e2, List.map_append, List.nodup_append] at nd
          exact nd.2.2 k' hm k' (by simp) rfl
        have none_ : (es'.findIdx? fun e => knd.is k' e.key) = none := by
          cases hi' : es'.findIdx? fun e => knd.is k' e.key with
          | none => rfl
          | some j =>
            have ix := idx_of (knd := knd) (p5.findIdx k')
            have an := any_of_findIdx_some (ix ▸ hi')
            obtain ⟨kv, h1, h2⟩ := List.any_eq_true.mp an
            exact absurd (List.mem_map.mpr ⟨kv, h1, of_decide_eq_true h2⟩) nk
        rw [none_]
        rw [if_neg (by simp)]
        exact wpAny_mono put (fun _ s'' h => wpAny_mono h (fun r s3 q => by cases r <;> exact q) fun _ _ e => e) fun _ _ e => e
    · rintro b s' ⟨h', i, rfl, hr, hi, hd', ho', sb⟩
      have hin := pull0 hr hi
      refine wpAny_pure (hQ h' ?_ ⟨oo, eso, epo, ho', q2, q3, q4, q5, q6⟩ sb)
      rw [hin, ← hlen, List.take_length] at hd'; exact hd'
  refine wpAny_bind (wpAny_dictEntries d1 d3 ?_)
  split
  · refine wpAny_bind (wpAny_dictEntries q1 q3 (wpAny_bind ?_))
    rw [forIn_arr_const _ (fun e he => ?_)]
    · exact wpAny_pure loop
    · obtain ⟨k', hkey', _⟩ := q4 e he
      split
      · rename_i a ea
        exact absurd ea (hb _ _ hkey' _)
      · rfl
  · exact loop
end
end G

set_option Elab.async false
set_option linter.all false
set_option maxRecDepth 100000
set_option maxHeartbeats 4000000
/-! Z4: calls with **d. -/
namespace G
open PySem PySem.Spec PyProof.Rows L2
/-- a call with a star before an argument, f of the written part -/
theorem callWith_starred {M : Model} {A : Around} {E : Value → Shared → Prop} {s : Shared} {P : Heap → Prop} {pos : Pos} {f : Value} {first : List Value} {args : List (Bool × Sem Value)} {keywords : List (Option Str × Sem Value)} {Q : Value → Shared → Prop} (hst : (args.any (·.1) || keywords.any (·.1.isNone)) = true)
    (hk : ∀ h, P h → ∃ k, (k = Keeper.frame ∨ k = Keeper.machine ∨ k = Keeper.boundFrame) ∧ PySem.W.Looks M h (keeperOf f) k)
    (h : wpAny M A (evalArgs f true args keywords) (fun a s₁ => P s₁.heap ∧ wpAny M A (call f (first ++ a.pos) a.kw) Q E s₁) E s) : wpAny M A (callWith pos f first args keywords) Q E s := by
  unfold callWith
  refine wpAny_bind (wpAny_holding (wpAny_mono h (fun a s₁ ⟨h1, h2⟩ => wpAny_bind (wpAny_standAt ?_)) fun _ _ x => x))
  obtain ⟨k, hk', L⟩ := hk _ h1
  simp only [hst]
  refine wpAny_bind (L.here ?_)
  have tail : ∀ {t : Sem Value}, wpAny M A t Q E s₁ → wpAny M A (t >>= fun r => holding [r] point >>= fun _ => pure r) Q E s₁ := fun ht => wpAny_bind (wpAny_mono ht (fun r s₂ hr => wpAny_bind (wpAny_holding (wpAny_point (wpAny_pure hr)))) fun _ _ x => x)
  have marked (mk : Value) : wpAny M A (callMarked mk f (first ++ a.pos) a.kw) Q E s₁ := by unfold callMarked; exact Calls.wpAny_keep h2
  rcases hk' with rfl | rfl | rfl <;> dsimp only <;> first | exact tail (marked _) | exact tail (wpAny_operate' h2)
section
variable {prog : Program} {w : World} {A : Around} {E : Value → Shared → Prop} {s : Shared}
theorem nodup_inr {ks : List Str} (nd : ks.Nodup) : (ks.map (Sum.inr : Str → Key)).Nodup := (List.pairwise_map).mpr (nd.imp fun h e => h (Sum.inr.inj e))
theorem forIn_texts {f : DictEntry → List (Str × Value) → Sem (ForInStep (List (Str × Value)))} (hf : ∀ e x t acc, e.key = .str x t → f e acc = pure (.yield (acc ++ [(x, e.val)]))) :
    ∀ (l : List DictEntry) (zs acc : List (Str × Value)), l.length = zs.length → (∀ (i : Nat) (e : DictEntry) (z : Str × Value), l[i]? = some e → zs[i]? = some z → ∃ t, e.key = .str z.1 t ∧ e.val = z.2) → forIn l acc f = pure (acc ++ zs)
  | [], [], acc, _, _ => by simp
  | e :: l, z :: zs, acc, hl, h => by
    obtain ⟨t, e1, e2⟩ := h 0 e z rfl rfl
    rw [List.forIn_cons, hf e z.1 t acc e1, pure_bind]
    have := forIn_texts hf l zs (acc ++ [z]) (by simpa using hl) fun i e z a b => h (i + 1) e z (by simpa using a) (by simpa using b)
    rw [e2]
    simpa using this
/-- the keywords that a dict of texts gives -/
theorem keywords_ok {f : Value} {d : Addr} {ks : List Str} {us : List Value} {Q : List (Str × Value) → Shared → Prop} (hl : us.length = ks.length) (D : s.heap.DictOf (mixKind prog w) d ((ks.map Sum.inr).zip us)) (h : Q (ks.zip us) s) : wpAny (model prog w) A (keywordsIn f d) Q E s := by
  obtain ⟨o, es, ep, o1, o2, o3, o4, o5, o6⟩ := D
  unfold keywordsIn
  refine wpAny_bind (wpAny_dictEntries o1 o3 ?_)
  have hsz : es.size = ks.length := by
    have e1 := o5.length
    rw [Array.length_toList, List.length_zip, List.length_map, hl, Nat.min_self] at e1
    exact e1
  have ent : ∀ (i : Nat) (e : DictEntry), es.toList[i]? = some e → ∃ x t u, ks[i]? = some x ∧ us[i]? = some u ∧ e.key = .str x t ∧ e.val = u := fun i e he => by
    have hi : i < ks.length := by have := (List.getElem?_eq_some_iff.mp he).1; rw [Array.length_toList] at this; omega
    have hp : (((ks.map Sum.inr).zip us : List (Key × Value)))[i]? = some (.inr ks[i], us[i]'(by omega)) := by
      rw [List.getElem?_zip_eq_some]
      exact ⟨by simp [hi], List.getElem?_eq_getElem _⟩
    obtain ⟨q1, q2⟩ := o5.get? he hp
    rcases keyIs_shape (show keyIs (.inr ks[i]) e.key = true from q1) with ⟨j, t, e1, _⟩ | ⟨x, t, e1, e2⟩
    · cases e1
    · cases e1
      exact ⟨_, t, _, List.getElem?_eq_getElem hi, List.getElem?_eq_getElem _, e2, q2⟩
  refine wpAny_bind ?_
  have zl : (ks.zip us).length = ks.length := by rw [List.length_zip, hl, Nat.min_self]
  rw [← Array.forIn_toList, forIn_texts (fun e x t acc he => by simp only [he]) es.toList (ks.zip us) [] (by rw [Array.length_toList, zl, hsz]) (fun i e z he hz => by
    obtain ⟨x, t, u, q1, q2, q3, q4⟩ := ent i e he
    have hz' := List.getElem?_zip_eq_some.mp hz
    rw [q1, q2] at hz'
    exact ⟨t, by rw [q3, Option.some.inj hz'.1], by rw [q4]; exact Option.some.inj hz'.2⟩)]
  exact wpAny_pure (wpAny_pure (by simpa using h))
/-- the dict that the keywords **e make -/
theorem merged_kw {f : Value} {pos : Pos} {t : Sem Value} {ks : List Str} {Q : Addr → Shared → Prop} (nd : ks.Nodup) (hz : ks.length ≤ sizeLine)
    (h : wpAny (model prog w) A t (fun v s₁ => ∃ (a : Addr) (us : List Value), v = .ref a ∧ s.heap.objs.size ≠ a ∧ (a == sysModules) = false ∧ us.length = ks.length ∧ s₁.heap.DictOf (mixKind prog w) a ((ks.map Sum.inr).zip us) ∧ s₁.heap.DictOf (mixKind prog w) s.heap.objs.size [] ∧
      ∀ h', h'.DictOf (mixKind prog w) s.heap.objs.size ((ks.map Sum.inr).zip us) → Heap.SameBut s.heap.objs.size s₁.heap h' → Q s.heap.objs.size { s₁ with heap := h' }) E { s with heap := s.heap.push { cls := .type "dict", data := .dict #[] } }) :
    wpAny (model prog w) A (mergedKeywords f [(none, do let v ← t; standAt pos; pure v)]) Q E s := by
  unfold mergedKeywords
  refine wpAny_bind (wpAny_alloc (wpAny_bind (wpAny_holding ?_)))
  dsimp only
  refine wpAny_bind ?_
  rw [List.forIn_cons]
  refine wpAny_bind ?_
  dsimp only
  rw [if_pos (show (([] : List (Str × Sem Value)).isEmpty = true) from rfl)]
  refine wpAny_bind (wpAny_pure ?_)
  refine wpAny_bind (wpAny_bind (wpAny_mono h (fun v s1 ⟨a, us, ev, ne, low, hl, D, D0, q⟩ => wpAny_bind (wpAny_standAt (wpAny_pure ?_))) fun _ _ x => x))
  subst ev
  have nk : (((ks.map Sum.inr).zip us : List (Key × Value)).map Prod.fst) = ks.map Sum.inr := by
    rw [List.map_fst_zip]
    rw [List.length_map, hl]
    exact Nat.le_refl _
  have nd' : ((([] : List (Key × Value)) ++ (ks.map Sum.inr).zip us).map Prod.fst).Nodup := by
    rw [List.nil_append, nk]
    exact nodup_inr nd
  refine wpAny_bind (wpAny_onRaise (wpAny_holding (wpAny_tryCatch (wpAny_onRaise (merge_ok (knd := mixKind prog w) (kvs := []) ne low D0 D (fun k key hk b e => ?_) (fun _ => nd') (fun h' D' _ sb => ?_) ?_)))))
  · rcases keyIs_shape (show keyIs k key = true from hk) with ⟨_, _, _, e2⟩ | ⟨_, _, _, e2⟩
    · rw [e2] at e; cases e
    · rw [e2] at e; cases e
  · rw [merged_nil_of_nodup _ (by rw [nk]; exact nodup_inr nd)] at D'
    refine wpAny_pure ?_
    dsimp only
    rw [List.forIn_nil]
    refine wpAny_pure ?_
    rw [if_pos (show (([] : List (Str × Sem Value)).isEmpty = true) from rfl)]
    exact wpAny_pure (wpAny_pure (q h' D' sb))
  · rw [List.length_nil, List.length_zip, List.length_map, hl, Nat.min_self]; omega
end
end G

set_option Elab.async false
set_option linter.all false
set_option maxRecDepth 100000
set_option maxHeartbeats 4000000
/-! Z5: calls of classes with keywords, by **d; by data. -/
namespace G
open PySem PySem.Spec PyProof.Rows L2
theorem kv_zip : ∀ {kvs : List (Key × V)} {vs : List (Key × Value)} {ks : List Str}, KV kvs vs → kvs.map (·.1) = ks.map Sum.inr → ∃ us : List Value, vs = (ks.map Sum.inr).zip us ∧ Vals (kvs.map (·.2)) us ∧ us.length = ks.length
  | _, _, ks, .nil, e => by
    have : ks = [] := List.map_eq_nil_iff.mp e.symm
    subst this
    exact ⟨[], rfl, .nil, rfl⟩
  | _, _, [], .cons r t, e => by simp at e
  | _, _, k :: ks, .cons (a := p) (b := q) r t, e => by
    simp only [List.map_cons, List.cons.injEq] at e
    obtain ⟨us, e1, e2, e3⟩ := kv_zip t e.2
    refine ⟨q.2 :: us, ?_, .cons r.2 e2, by simp [e3]⟩
    rw [List.map_cons, List.zip_cons_cons, ← e1, ← e.1, r.1]
/-- calls of u with n values and the keywords ks are F -/
def CalK (C : List (V × D)) (X : Cx) (W : WX) (u : Value) (n : Nat) (ks : List Str) (F : FF) : Prop :=
  ∀ (pins : List (Addr × Obj)) (s : Shared) (σ : L2.St) (H : Hp) (Q : VK) (Z : Addr → Prop) (M : List Addr) (env : List Sl) (h ds es : List D) (vs zs : List V) (us ws : List Value),
    Inv X pins σ H s → SR X.K C X.pn Z M env h σ H → Reps X.K (zn Z M) M H ds vs → Vals vs us → ds.length = n → Reps X.K (zn Z M) M H es zs → Vals zs ws → es.length = ks.length → Got X.K C X.pn Z W σ env M H (F (ds ++ es) h) (fun M' H' d => ∀ v, Rep X.K (zn Z M') M' H' d v → Q v H') →
    wpAny (model X.prog X.w) X.A (call u us (ks.zip ws)) (EP X pins σ Q) X.xe s
section
variable {C : List (V × D)} {X : Cx} {W : WX}
theorem cal_makeK {k n : Nat} {c : Str} {f : Addr} {fd : FuncData} {ps ks : List Str} {F : FF} (tk : Takes X W) (MK : Mk X.K (He.ga X.K c) f) (FO : FnG X.prog X.w X.K X.mg X.base (L2.CX X.prog X.w) k f fd ps (spI X.K C ps.length F)) (hr : RG (k + 1) X.A)
    (hb : KBn X.K fd ps (n + 1) ks (fun us ws => us ++ ws) (fun vs zs => vs ++ zs)) (hn : ps.length = n + 1 + ks.length) : CalK C X W (.ref (He.ga X.K c)) n ks (mkF c F) := by
  intro pins s σ H Q Z M env h ds es vs zs us ws I sr rs r ln rs2 r2 ln2 g
  have hx : H (s.heap.objs.size + 1) = none := I.hok.fresh (Nat.le_succ _)
  have hdx : H s.heap.objs.size = none := I.hok.fresh (Nat.le_refl _)
  have hne : s.heap.objs.size ≠ s.heap.objs.size + 1 := Nat.ne_of_lt (Nat.lt_succ_self _)
  have I2 := Inv.made (C := He.ga X.K c) I
  have hx1 : upd H s.heap.objs.size (.own (s.heap.objs.size + 1)) (s.heap.objs.size + 1) = none := by rw [upd_ne hne.symm]; exact hx
  have ev1 : Evo M H M (upd H s.heap.objs.size (.own (s.heap.objs.size + 1))) := Evo.laid hdx
  have sh1 := sr.sh.laid (o := .own (s.heap.objs.size + 1)) hdx
  have ev2 := Evo.newloc (M := M) (o := .ins (He.ga X.K c) s.heap.objs.size []) hx1
  have sh2 := sh1.newloc (o := .ins (He.ga X.K c) s.heap.objs.size []) (d := .obj c [] []) hx1 ⟨s.heap.objs.size, [], upd_same, rfl, Reps.nil⟩
  have ev := ev1.trans ev2
  have g : Got X.K C X.pn Z W σ env M H ((F (.loc h.length :: (ds ++ es)) (h ++ [.obj c [] []])).bind fun d h1 => match d with
    | .non => .ok (.loc h.length) h1
    | _ => .bad) (fun M' H' d => ∀ v, Rep X.K (zn Z M') M' H' d v → Q v H') := g
  have rl : Reps X.K (zn Z (M ++ [s.heap.objs.size + 1])) (M ++ [s.heap.objs.size + 1]) _ (.loc h.length :: (ds ++ es)) (V.ref (s.heap.objs.size + 1) :: (vs ++ zs)) := Reps.cons (newLoc sh1) ((rs.append rs2).mono ev)
  have lz : (V.ref (s.heap.objs.size + 1) :: (vs ++ zs)).length = ps.length := by
    rw [List.length_cons, List.length_append, ← rs.1, ← rs2.1, ln, ln2, hn]; omega
  have hq : spI X.K C ps.length F (V.ref (s.heap.objs.size + 1) :: (vs ++ zs)) (upd (upd H s.heap.objs.size (.own (s.heap.objs.size + 1))) (s.heap.objs.size + 1) (.ins (He.ga X.K c) s.heap.objs.size [])) (fun v H2 => v = .non ∧ Q (.ref (s.heap.objs.size + 1)) H2) (WE W σ) := by
    refine ⟨Z, _, _, _, sh2, rl, ?_, ?_⟩
    · rw [rl.1]; exact lz
    · cases e : F (.loc h.length :: (ds ++ es)) (h ++ [.obj c [] []]) with
      | bad => rw [e] at g; exact g
      | exc c' ns ps h1 =>
        rw [e] at g
        intro M' H' dx ev' s' xr
        exact g M' H' dx (ev.trans ev') (sr.later (ev.trans ev') s') xr
      | ok d h1 =>
        rw [e] at g
        intro M' H' v ev' s' rv
        cases d with
        | non =>
          cases rv
          refine ⟨rfl, g M' H' (ev.trans ev') (sr.later (ev.trans ev') s') _ ?_⟩
          cases newLoc (Z' := Z) (H' := H) sh1 (p := s.heap.objs.size + 1) with
          | loc hm => exact .loc (ev'.get hm)
        | _ => exact False.elim g
  have r1 : Vals (V.ref (s.heap.objs.size + 1) :: vs) (Value.ref (s.heap.objs.size + 1) :: us) := .cons rfl r
  have n1 : (Value.ref (s.heap.objs.size + 1) :: us).length = n + 1 := by rw [List.length_cons, ← r.length, ← rs.1, ln]
  have n2 : ws.length = ks.length := by rw [← r2.length, ← rs2.1, ln2]
  refine wpAny_call (make_map (f := f) I.kIn MK.makes MK.init (beq_iff_eq.mp MK.fn) (codeAny_mono (FO.run _ X.stack _ _ ⟨Value.ref (s.heap.objs.size + 1) :: us, ks.zip ws⟩ ((Value.ref (s.heap.objs.size + 1) :: us) ++ ws) _ _ (WE W σ) (hr.make (He.ga X.K c) us (ks.zip ws))
    (I2.env0.make (He.ga X.K c) us (ks.zip ws)) (hb.to _ (Value.ref (s.heap.objs.size + 1) :: us) ws I2.kIn n1 n2) (r1.append r2) hq) fun r s' hq' => ?_))
  cases r with
  | error e => exact passAt tk σ pins _ _ e s' I2 hq'
  | ok fl =>
    cases fl with
    | ret u =>
      obtain ⟨v, H', I3, rv, ev, q3⟩ := I2.after hq'
      subst ev
      exact ⟨rv, ⟨V.ref (s.heap.objs.size + 1), H', I3, rfl, q3⟩⟩
    | next => exact False.elim hq'
    | brk => exact False.elim hq'
    | cont => exact False.elim hq'
end
/-- u(.., **e): e a dict with the keys ks -/
def cCallS (ks : List Str) (F : FF) (t : MA) (me : ME) : ME := fun env h => (t env h).bind fun ds h1 => (me env h1).bind fun d h2 => match dicOf h2 d with
  | some (kk, es) => bif decide (kk = ks.map Sum.inr) then F (ds ++ es) h2 else .bad
  | none => .bad
section
variable {prog : Program} {w : World} {A : Around} {E : Value → Shared → Prop} {s : Shared}
theorem evalArgs_ks {f : Value} {args : List (Bool × Sem Value)} {t : Sem Value} {Q : Args → Shared → Prop} (hns : args.any (·.1) = false)
    (h : wpAny (model prog w) A (spliced args) (fun us s1 => wpAny (model prog w) A (mergedKeywords f [(none, t)]) (fun d s2 => wpAny (model prog w) A (keywordsIn f d) (fun kw s3 => Q ⟨us, kw⟩ s3) E s2) E s1) E s) : wpAny (model prog w) A (evalArgs f true args [(none, t)]) Q E s := by
  unfold evalArgs
  rcases args with _ | ⟨⟨b, x⟩, rest⟩
  rotate_left
  cases b
  rotate_left
  · simp at hns
  all_goals
    refine wpAny_bind (wpAny_mono h (fun us s1 q => wpAny_bind (wpAny_pure ?_)) fun _ _ x => x)
    dsimp only
    refine wpAny_holding ?_
    rw [if_neg (by simp)]
    refine wpAny_bind (wpAny_mono q (fun d s2 q2 => ?_) fun _ _ x => x)
    refine wpAny_bind (wpAny_pure ?_)
    exact wpAny_bind (wpAny_holding (wpAny_mono q2 (fun kw s3 q3 => wpAny_pure q3) fun _ _ x => x))
end
section
variable {C : List (V × D)} {X : Cx} {W : WX} {pos : Pos}
/-- x(.., **e) -/
theorem se_callS {x : Str} {p kpos : Pos} {u : Value} {n : Nat} {e : Expr} {es : List Expr} {ks : List Str} {F : FF} {t : MA} {me : ME} (c : CalK C X W u n ks F) (nd : ks.Nodup) (hz : ks.length ≤ 100) (hg : Gl X x) (hm : X.mg x = some u) (hk : PySem.W.keepIn X.K u = true) (ha : SA C X W es t) (he : SE C X W e me)
    (hn : ∀ env h ds h', t env h = .ok ds h' → ds.length = n) (hdb : (x == ("__debug__" : Str)) = false := by decide) (hns : (backTo pos (starEach es X.env)).any (·.1) = false := by rfl) (hkw : keywordEach [⟨none, e, kpos⟩] X.env = [(none, eval e X.env)] := by rfl) :
    SE C X W (.Call (.Name x p) es [⟨none, e, kpos⟩] pos) (cCallS ks F t me) := by
  refine ⟨fun pins s σ H Q I ⟨Z, M, env, h, sr, g⟩ => ?_⟩
  refine wpAny_Call_Name_kw (ld_glob I hg hm ?_ hdb)
  have ek : backToKw pos (keywordEach [⟨none, e, kpos⟩] X.env) = [(none, do let v ← eval e X.env; standAt pos; pure v)] := by rw [hkw]; rfl
  rw [ek]
  refine callWith_starred (P := X.K.In) (by simp) (PySem.W.keeps_K hk) (evalArgs_ks hns ?_)
  refine thn (ha.run pos pins s σ H (fun vs H1 => ∃ M ds h, SR X.K C X.pn Z M env h σ H1 ∧ Reps X.K (zn Z M) M H1 ds vs ∧ ds.length = n ∧ Got X.K C X.pn Z W σ env M H1 ((me env h).bind fun d h2 => match dicOf h2 d with
    | some (kk, es) => bif decide (kk = ks.map Sum.inr) then F (ds ++ es) h2 else .bad
    | none => .bad) (fun M' H' d => ∀ v, Rep X.K (zn Z M') M' H' d v → Q v H')) I ?_) fun us s1 ⟨vs, H1, I1, r1, M1, ds, h1, s1', rs1, ln, g1⟩ => ?_
  · refine ⟨Z, M, env, h, sr, ?_⟩
    unfold cCallS at g
    cases et : t env h with
    | bad => rw [et] at g; exact g
    | exc c' ns ps h1 => rw [et] at g; exact g
    | ok ds h1 =>
      rw [et] at g
      intro M' H' ev s' vs rs
      exact ⟨M', ds, h1, s', rs, hn env h ds h1 et, Got.later ev g⟩
  · have np : H1 s1.heap.objs.size = none := I1.hok.fresh (Nat.le_refl _)
    have fp := I1.fpOk (b := s1.heap.objs.size) (Nat.le_refl _) np
    have I0 : Inv X pins σ H1 { s1 with heap := s1.heap.push { cls := .type "dict", data := .dict #[] } } := I1.kept (t' := s1.toks) fun b u q => Heap.get?_push_of_some _ q
    have hp0 : (s1.heap.push { cls := .type "dict", data := .dict #[] }).get? s1.heap.objs.size = some { cls := .type "dict", data := .dict #[] } := Heap.get?_push_size _ rfl
    have Ip : Inv X ((s1.heap.objs.size, { cls := .type "dict", data := .dict #[] }) :: pins) σ H1 { s1 with heap := s1.heap.push { cls := .type "dict", data := .dict #[] } } := { I0 with
      pin := fun p hp => by
        rcases List.mem_append.mp hp with hp | hp
        · exact I0.pin p (List.mem_append_left _ hp)
        · rcases List.mem_cons.mp hp with rfl | hp
          · exact ⟨hp0, np, fp.2.1, fp.2.2.1, fun v z => nomatch z⟩
          · exact I0.pin p (List.mem_append_right _ hp) }
    refine merged_kw nd (by rw [sizeLine_eq]; omega) ?_
    refine thn (he.run _ _ σ H1 (fun x H3 => ∃ M3 d h3, Evo M1 H1 M3 H3 ∧ SR X.K C X.pn Z M3 env h3 σ H3 ∧ Rep X.K (zn Z M3) M3 H3 d x ∧ Got X.K C X.pn Z W σ env M3 H3 (match dicOf h3 d with
      | some (kk, es) => bif decide (kk = ks.map Sum.inr) then F (ds ++ es) h3 else .bad
      | none => .bad) (fun M' H' d => ∀ v, Rep X.K (zn Z M') M' H' d v → Q v H')) Ip (tE.step s1' g1 fun M3 H3 h3 d v e3 s3 r3 g3 => ⟨M3, d, h3, e3, s3, r3, g3⟩)) fun v s3 ⟨x, H3, I3, rx, M3, d, h3, e3, sr3, r3, g3⟩ => ?_
    cases ed : dicOf h3 d with
    | none => rw [ed] at g3; exact False.elim g3
    | some kes =>
      obtain ⟨kk, es'⟩ := kes
      rw [ed] at g3
      dsimp only at g3
      cases ek' : decide (kk = ks.map Sum.inr) with
      | false => rw [ek'] at g3; exact False.elim g3
      | true =>
        rw [ek', cond_true] at g3
        obtain ⟨a, kvs, rfl, hr, ekk, rs⟩ := dicOf_rep sr3.sh ed r3
        obtain rfl : v = Value.ref a := rx
        have ekv : kvs.map (·.1) = ks.map Sum.inr := ekk.trans (of_decide_eq_true ek')
        obtain ⟨hz', low, vs', kv, D⟩ := dk_rd I3.hok hr
        obtain ⟨us', rfl, rv, lv⟩ := kv_zip kv ekv
        obtain ⟨pg, pn', _⟩ := I3.pin (s1.heap.objs.size, { cls := .type "dict", data := .dict #[] }) (List.mem_append_right _ List.mem_cons_self)
        have ne : s1.heap.objs.size ≠ a := fun z => by
          rcases hr with hr | ⟨_, hr⟩ <;> (rw [← z, pn'] at hr; cases hr)
        refine ⟨a, us', rfl, ne, low, lv, D, ⟨_, #[], 0, pg, ⟨rfl, rfl, rfl⟩, rfl, fun e he => by simp at he, .nil, by simp⟩, fun h' D' sb => ?_⟩
        have I3' : Inv X pins σ H3 s3 := { I3 with
          pin := fun p hp => by
            rcases List.mem_append.mp hp with hp | hp
            · exact I3.pin p (List.mem_append_left _ hp)
            · exact I3.pin p (List.mem_append_right _ (List.mem_cons_of_mem _ hp)) }
        have I4 : Inv X pins σ H3 { s3 with heap := h' } := I3'.turnedL (t' := s3.toks) (ch := [s1.heap.objs.size]) (fun b o hb q => (sb.2 b fun z => hb (by simp [z])).trans q) fun b hb => by
          rw [List.mem_singleton] at hb
          subst hb
          exact ⟨pn', fp.2⟩
        refine keywords_ok lv D' ⟨I4.kIn, ?_⟩
        have le : es'.length = ks.length := by
          have := rs.1
          rw [List.length_map] at this
          have l2 := congrArg List.length ekv
          rw [List.length_map, List.length_map] at l2
          omega
        exact c pins _ σ H3 Q Z M3 env h3 ds es' vs (kvs.map (·.2)) us us' I4 sr3 (rs1.mono e3) r1 ln rs rv le g3
end
end G

set_option Elab.async false
set_option linter.all false
set_option maxRecDepth 100000
set_option maxHeartbeats 4000000
/-! Z6: {**d, k: v}. -/
namespace G
open PySem PySem.Spec PyProof.Rows L2
section
variable {prog : Program} {w : World} {A : Around} {E : Value → Shared → Prop} {s : Shared}
/-- the display's way: a new dict, m merged into it, then one pair -/
theorem display_u {tm tk tv : Sem Value} {Q : Value → Shared → Prop}
    (h : wpAny (model prog w) A tm (fun m s1 => wpAny (model prog w) A (mergeMapping s.heap.objs.size m false) (fun _ s2 => wpAny (model prog w) A (subDict [(tk, tv)]) (fun sub s3 => wpAny (model prog w) A (mergeMapping s.heap.objs.size (.ref sub) false) (fun _ s4 => Q (.ref s.heap.objs.size) s4) (fun _ _ => False) s3) E s2)
      (fun e s2 => False) s1) E { s with heap := s.heap.push { cls := .type "dict", data := .dict #[] } }) :
    wpAny (model prog w) A (dictDisplay [(none, tm), (some tk, tv)]) Q E s := by
  unfold dictDisplay
  dsimp only
  rw [List.forIn_cons]
  refine wpAny_bind (wpAny_bind ?_)
  dsimp only
  rw [if_pos (show ([] : List (Sem Value × Sem Value)).isEmpty = true from rfl)]
  refine wpAny_bind (wpAny_pure ?_)
  dsimp only
  refine wpAny_bind (wpAny_alloc (wpAny_bind (wpAny_holding (wpAny_mono h (fun m s1 q => ?_) fun _ _ x => x))))
  refine wpAny_bind (wpAny_onRaise (wpAny_tryCatch (wpAny_onRaise (wpAny_holding (wpAny_mono q (fun _ s2 q2 => ?_) fun e s x => x.elim)))))
  refine wpAny_pure ?_
  dsimp only
  rw [List.forIn_cons]
  refine wpAny_bind ?_
  dsimp only
  rw [if_neg (by simp)]
  refine wpAny_pure ?_
  dsimp only
  rw [List.forIn_nil]
  refine wpAny_pure ?_
  dsimp only
  rw [if_neg (by simp)]
  refine wpAny_bind (wpAny_bind (wpAny_holding (wpAny_mono q2 (fun sub s3 q3 => ?_) fun _ _ x => x)))
  exact wpAny_bind (wpAny_onRaise (wpAny_holding (wpAny_mono q3 (fun _ s4 q4 => wpAny_pure (wpAny_pure q4)) fun _ _ x => x.elim)))
end
theorem Inv_pin {X : Cx} {pins : List (Addr × Obj)} {σ : L2.St} {H : Hp} {s : Shared} (I : Inv X pins σ H s) : Inv X ((s.heap.objs.size, { cls := .type "dict", data := .dict #[] }) :: pins) σ H { s with heap := s.heap.push { cls := .type "dict", data := .dict #[] } } := by
  have np : H s.heap.objs.size = none := I.hok.fresh (Nat.le_refl _)
  have fp := I.fpOk (b := s.heap.objs.size) (Nat.le_refl _) np
  have I0 : Inv X pins σ H { s with heap := s.heap.push { cls := .type "dict", data := .dict #[] } } := I.kept (t' := s.toks) fun b u q => Heap.get?_push_of_some _ q
  exact { I0 with
    pin := fun p hp => by
      rcases List.mem_append.mp hp with hp | hp
      · exact I0.pin p (List.mem_append_left _ hp)
      · rcases List.mem_cons.mp hp with rfl | hp
        · exact ⟨Heap.get?_push_size _ rfl, np, fp.2.1, fp.2.2.1, fun v z => nomatch z⟩
        · exact I0.pin p (List.mem_append_right _ hp) }
theorem Inv_unpin {X : Cx} {pins : List (Addr × Obj)} {q : Addr × Obj} {σ : L2.St} {H : Hp} {s : Shared} (I : Inv X (q :: pins) σ H s) : Inv X pins σ H s :=
  { I with
    pin := fun p hp => by
      rcases List.mem_append.mp hp with hp | hp
      · exact I.pin p (List.mem_append_left _ hp)
      · exact I.pin p (List.mem_append_right _ (List.mem_cons_of_mem _ hp)) }
/-- {**m, k: v} -/
def cDisU (m k v : ME) : ME := fun env h => (m env (h ++ [.dic [] []])).bind fun d h1 => match dicOf h1 d, h1[h.length]? with
  | some (ks, ds), some (.dic [] []) => bif decide (0 < ks.length) && decide (ks.length < 1000) then (k env (h1.set h.length (.dic ks ds))).bind fun y h2 => (v env h2).bind fun z h3 => match keyOf y, h3[h.length]? with
    | some j, some (.dic ks' ds') => bif decide (ks'.length < 1000) then .ok (.loc h.length) (h3.set h.length (.dic (kput ks' ds' j z).1 (kput ks' ds' j z).2)) else .bad
    | _, _ => .bad else .bad
  | _, _ => .bad
section
variable {C : List (V × D)} {X : Cx} {W : WX} {pos : Pos}
theorem se_disU {m k v : Expr} {mm mk mv : ME} (hm : SE C X W m mm) (hk : SE C X W k mk) (hv : SE C X W v mv)
    (hs : (evalEachOpt [none, some k] X.env).zip ((evalEach [m, v] X.env).map fun v => do let x ← v; standAt pos; pure x) = [(none, do let x ← eval m X.env; standAt pos; pure x), (some (eval k X.env), do let x ← eval v X.env; standAt pos; pure x)] := by rfl) :
    SE C X W (.Dict [none, some k] [m, v] pos) (cDisU mm mk mv) := by
  refine ⟨fun pins s σ H Q I ⟨Z, M, env, h, sr, g⟩ => ?_⟩
  rw [arm_eval_Dict, hs]
  refine wpAny_bind (wpAny_standAt (display_u ?_))
  have np : H s.heap.objs.size = none := I.hok.fresh (Nat.le_refl _)
  have big := I.big
  have I0 : Inv X pins σ (upd H s.heap.objs.size (.dK [])) { s with heap := s.heap.push { cls := .type "dict", data := .dict #[] } } := I.laid (a := s.heap.objs.size) (o := .dK []) (t' := s.toks) (fun _ _ q => Heap.get?_push_of_some _ q) (Nat.le_refl _) (dk_empty s.heap I.big)
  have ev0 := Evo.newloc (M := M) (o := .dK []) np
  have sh0 := sr.sh.newloc (o := .dK []) (d := .dic [] []) np ⟨[], upd_same, rfl, Reps.nil⟩
  have sr0 := sr.later ev0 sh0
  have hM : (M ++ [s.heap.objs.size])[h.length]? = some s.heap.objs.size := by rw [← sr.sh.len]; simp
  generalize s.heap.objs.size = p at *
  have g0 := Got.later ev0 g
  unfold cDisU at g0
  refine wpAny_bind (thn (hm.run pins _ σ _ (fun x H1 => ∃ M1 d h1, Evo (M ++ [p]) (upd H p (.dK [])) M1 H1 ∧ SR X.K C X.pn Z M1 env h1 σ H1 ∧ Rep X.K (zn Z M1) M1 H1 d x ∧ Got X.K C X.pn Z W σ env M1 H1 (match dicOf h1 d, h1[h.length]? with
    | some (ks, ds), some (.dic [] []) => bif decide (0 < ks.length) && decide (ks.length < 1000) then (mk env (h1.set h.length (.dic ks ds))).bind fun y h2 => (mv env h2).bind fun z h3 => match keyOf y, h3[h.length]? with
      | some j, some (.dic ks' ds') => bif decide (ks'.length < 1000) then .ok (.loc h.length) (h3.set h.length (.dic (kput ks' ds' j z).1 (kput ks' ds' j z).2)) else .bad
      | _, _ => .bad else .bad
    | _, _ => .bad) (fun M' H' d => ∀ v, Rep X.K (zn Z M') M' H' d v → Q v H')) I0 (tE.step sr0 g0 fun M1 H1 h1 d v e1 s1 r1 g1 => ⟨M1, d, h1, e1, s1, r1, g1⟩)) fun u s1 ⟨x, H1, I1, rx, M1, d, h1, e1, sr1, r1, g1⟩ => wpAny_bind (wpAny_standAt (wpAny_pure ?_)))
  have hM1 := e1.get hM
  cases ed : dicOf h1 d with
  | none => rw [ed] at g1; exact False.elim g1
  | some kd =>
    obtain ⟨ks, ds⟩ := kd
    rw [ed] at g1
    cases ec : h1[h.length]? with
    | none => rw [ec] at g1; exact False.elim g1
    | some cell =>
      rw [ec] at g1
      obtain ⟨rfl⟩ : cell = .dic [] [] := by
        match cell, g1 with
        | .dic [] [], _ => rfl
      dsimp only at g1
      cases eb : decide (0 < ks.length) && decide (ks.length < 1000) with
      | false => rw [eb] at g1; exact False.elim g1
      | true =>
        rw [eb, cond_true] at g1
        rw [Bool.and_eq_true, decide_eq_true_eq, decide_eq_true_eq] at eb
        obtain ⟨a, kvs, rfl, hr, ek, rs⟩ := dicOf_rep sr1.sh ed r1
        obtain rfl : u = Value.ref a := rx
        obtain ⟨kv0, hp1, ek0, _⟩ := sr1.sh.cel h.length p _ hM1 ec
        have kv0e : kv0 = [] := List.map_eq_nil_iff.mp ek0
        subst kv0e
        have lk : kvs.length = ks.length := by rw [← ek, List.length_map]
        have ne : p ≠ a := fun z => by
          rcases hr with hr | ⟨_, hr⟩
          · rw [← z, hp1] at hr; cases hr; simp at lk; omega
          · rw [← z, hp1] at hr; cases hr
        obtain ⟨hz', low, vs, kv, D⟩ := dk_rd I1.hok hr
        obtain ⟨_, low0, vs0, kvn, D0⟩ := dk_of I1.hok hp1
        have vs0e : vs0 = [] := by cases kvn; rfl
        subst vs0e
        have nokey : ∀ (k : Key) (key : Value), (mixKind X.prog X.w).is k key = true → ∀ a, key ≠ .ref a := fun k key hk b e => by
          rcases keyIs_shape (show keyIs k key = true from hk) with ⟨_, _, _, e2⟩ | ⟨_, _, _, e2⟩ <;> (rw [e2] at e; cases e)
        have lv : vs.length = kvs.length := (Paired.length kv).symm
        refine merge_ok (knd := mixKind X.prog X.w) ne low D0 D nokey (fun z => nomatch z) (fun h' D' _ sb => ?_) (by rw [sizeLine_eq]; simp; omega)
        rw [merged_nil_of_nodup _ (by obtain ⟨_, _, _, _, _, _, _, _, q⟩ := D; exact q)] at D'
        have he' : ∃ q, h'.get? p = some q := let ⟨q, _, _, hq, _⟩ := D'; ⟨q, hq⟩
        have I2 : Inv X pins σ (upd H1 p (.dK kvs)) { s1 with heap := h' } := d_write I1 (t' := s1.toks) (by rw [hp1]; exact True.intro) sb he' (dk_new (by rw [sizeLine_eq]; omega) low0 kv D')
        have nf : ∀ u w, H1 p ≠ some (.frz u w) := fun u w z => by rw [hp1] at z; cases z
        have ev2 := sr1.sh.evw (o := .dK kvs) hM1 nf
        have sh2 := sr1.sh.write (o := .dK kvs) (d := .dic ks ds) hM1 nf ⟨kvs, upd_same, ek, rs.mono ev2⟩
        have sr2 := sr1.later ev2 sh2
        have g2 := Got.later ev2 g1
        refine wpAny_subDict (knd := mixKind X.prog X.w) (by simp) ?_
        have Ip := Inv_pin I2
        have q0 : (upd H1 p (.dK kvs)) h'.objs.size = none := I2.hok.fresh (Nat.le_refl _)
        have fp := I2.fpOk (b := h'.objs.size) (Nat.le_refl _) q0
        have big2 : (h'.objs.size == sysModules) = false := beq_eq_false_iff_ne.mpr (Ne.symm (Nat.ne_of_lt I2.big))
        have hpq : p ≠ h'.objs.size := fun z => by rw [← z, upd_same] at q0; cases q0
        unfold evalPairs
        refine wpAny_bind (thn (hk.run _ _ σ _ (fun x H2 => ∃ M2 y h2, Evo M1 (upd H1 p (.dK kvs)) M2 H2 ∧ SR X.K C X.pn Z M2 env h2 σ H2 ∧ Rep X.K (zn Z M2) M2 H2 y x ∧ Got X.K C X.pn Z W σ env M2 H2 ((mv env h2).bind fun z h3 => match keyOf y, h3[h.length]? with
          | some j, some (.dic ks' ds') => bif decide (ks'.length < 1000) then .ok (.loc h.length) (h3.set h.length (.dic (kput ks' ds' j z).1 (kput ks' ds' j z).2)) else .bad
          | _, _ => .bad) (fun M' H' d => ∀ v, Rep X.K (zn Z M') M' H' d v → Q v H')) Ip (tE.step sr2 g2 fun M2 H2 h2 y v e2 s2 r2 g2 => ⟨M2, y, h2, e2, s2, r2, g2⟩)) fun ku s2 ⟨x2, H2, I2', rx2, M2, y, h2, e2, sr2', r2, g2'⟩ => ?_)
        refine wpAny_bind (wpAny_holding (wpAny_bind (thn (hv.run _ s2 σ _ (fun x H3 => ∃ M3 z h3, Evo M2 H2 M3 H3 ∧ SR X.K C X.pn Z M3 env h3 σ H3 ∧ Rep X.K (zn Z M3) M3 H3 z x ∧ Got X.K C X.pn Z W σ env M3 H3 (match keyOf y, h3[h.length]? with
          | some j, some (.dic ks' ds') => bif decide (ks'.length < 1000) then .ok (.loc h.length) (h3.set h.length (.dic (kput ks' ds' j z).1 (kput ks' ds' j z).2)) else .bad
          | _, _ => .bad) (fun M' H' d => ∀ v, Rep X.K (zn Z M') M' H' d v → Q v H')) I2' (tE.step sr2' g2' fun M3 H3 h3 z v e3 s3 r3 g3 => ⟨M3, z, h3, e3, s3, r3, g3⟩)) fun vu s3 ⟨x3, H3, I3, rx3, M3, z, h3, e3, sr3, r3, g3⟩ => wpAny_bind (wpAny_standAt (wpAny_pure ?_)))))
        unfold evalPairs
        refine wpAny_bind (wpAny_holding (wpAny_pure (wpAny_pure ?_)))
        have hM3 := e3.get (e2.get hM1)
        cases ej : keyOf y with
        | none => rw [ej] at g3; exact False.elim g3
        | some j =>
          rw [ej] at g3
          cases ec3 : h3[h.length]? with
          | none => rw [ec3] at g3; exact False.elim g3
          | some cell =>
            rw [ec3] at g3
            cases cell with
            | dic ks' ds' =>
              dsimp only at g3
              cases eb3 : decide (ks'.length < 1000) with
              | false => rw [eb3] at g3; exact False.elim g3
              | true =>
                rw [eb3, cond_true] at g3
                have lt3 := of_decide_eq_true eb3
                obtain ⟨kv3, hp3, ek3, rs3⟩ := sr3.sh.cel h.length p _ hM3 ec3
                have l3 : kv3.length = ks'.length := by rw [← ek3, List.length_map]
                obtain ⟨pg, pn3, _⟩ := I3.pin (h'.objs.size, { cls := .type "dict", data := .dict #[] }) (List.mem_append_right _ List.mem_cons_self)
                have vy := keyOf_rep ej r2
                subst vy
                refine ⟨[(j, vu)], ⟨kV_is (P := X.prog) (w := X.w) rx2, rfl, trivial⟩, ⟨_, #[], 0, pg, ⟨rfl, rfl, rfl⟩, rfl, fun e he => by simp at he, .nil, by simp⟩, fun h'' D'' sb'' => ?_⟩
                have I4 : Inv X pins σ H3 { s3 with heap := h'', toks := s3.toks + [(ku, vu)].length } := (Inv_unpin I3).turnedL (t' := s3.toks + [(ku, vu)].length) (ch := [h'.objs.size]) (fun b o hb q => (sb''.2 b fun z => hb (by simp [z])).trans q) fun b hb => by
                  rw [List.mem_singleton] at hb
                  subst hb
                  exact ⟨pn3, fp.2⟩
                obtain ⟨_, _, vs4, kv4, D4⟩ := dk_of I4.hok hp3
                have l4 : vs4.length = kv3.length := (Paired.length kv4).symm
                refine merge_ok (knd := mixKind X.prog X.w) hpq big2 D4 D'' nokey (fun z => nomatch z) (fun h5 D5 _ sb5 => ?_) (by rw [sizeLine_eq]; simp [merged, stored]; omega)
                have em : merged vs4 (merged [] [(j, vu)]) = stored vs4 j vu := by simp [merged, stored]
                rw [em] at D5
                have lp : (putK kv3 j x3).length ≤ sizeLine := by
                  have := length_putK kv3 j x3
                  rw [sizeLine_eq]; omega
                have he5 : ∃ q, h5.get? p = some q := let ⟨q, _, _, hq, _⟩ := D5; ⟨q, hq⟩
                have I5 := d_write I4 (t' := s3.toks + [(ku, vu)].length) (by rw [hp3]; exact True.intro) sb5 he5 (dk_new lp low0 (kv4.put j rx3) D5)
                have nf3 : ∀ u w, H3 p ≠ some (.frz u w) := fun u w z => by rw [hp3] at z; cases z
                have ev5 := sr3.sh.evw (o := .dK (putK kv3 j x3)) hM3 nf3
                obtain ⟨q1, q2⟩ := kput_ok (k := j) (r3.mono ev5) (rs3.mono ev5)
                rw [ek3] at q1 q2
                have sh5 := sr3.sh.write (o := .dK (putK kv3 j x3)) (d := .dic (kput ks' ds' j z).1 (kput ks' ds' j z).2) hM3 nf3 ⟨_, upd_same, q1, q2⟩
                exact ⟨.ref p, _, I5, rfl, g3 M3 _ ev5 (sr3.later ev5 sh5) _ (.loc hM3)⟩
            | _ => exact False.elim g3
end
end G

set_option Elab.async false
set_option linter.all false
set_option maxRecDepth 100000
set_option maxHeartbeats 4000000
/-! G23: dicts of the module with tuples in them, in, [..]; zip(D, list); dict == dict; tuple(x), list(x); xs[::-1]. -/
namespace G
open PySem PySem.Spec PyProof.Rows L2
/-- a table's value: a plain one, or a tuple of plain ones -/
inductive Dk where
  | c (x : Dc) | t (l : List Dc)
def Dk.d : Dk → D
  | .c x => x.d
  | .t l => .tup (l.map Dc.d)
def tupAt (K : PySem.W.Frag) (a : Addr) (l : List Dc) : Bool := match K.lookup a with
  | some o => (match o.data with
    | .seq its _ => decide (o.cls = .type "tuple") && (decide (its.size ≤ sizeLine) && He.relAll (l.map Dc.v) its.toList)
    | _ => false)
  | none => false
def dkB (K : PySem.W.Frag) (q : Dk) (u : Value) : Bool := match q, u with
  | .c x, u => He.relB x.v u
  | .t l, .ref a => tupAt K a l
  | _, _ => false
def tblBk (K : PySem.W.Frag) (a : Addr) (t : List (Str × Dk)) : Bool := t.all fun q => match PySem.W.nsIn K a q.1 with
  | some (some u) => dkB K q.2 u
  | _ => false
theorem lookup_mapk {t : List (Str × Dk)} {z : Str} : (t.map fun q => (q.1, q.2.d)).lookup z = (t.lookup z).map Dk.d := by
  induction t with
  | nil => rfl
  | cons p t ih =>
    rw [List.map_cons, List.lookup_cons, List.lookup_cons]
    cases h : z == p.1 with
    | true => rfl
    | false => exact ih
theorem lookup_nonek {t : List (Str × Dk)} {z : Str} (h : t.lookup z = none) : z ∉ t.map (·.1) := by
  induction t with
  | nil => simp
  | cons p t ih =>
    rw [List.lookup_cons] at h
    cases hz : z == p.1 with
    | true => rw [hz] at h; cases h
    | false =>
      rw [hz] at h
      rw [List.map_cons, List.mem_cons]
      rintro (e | m)
      · rw [e, beq_self_eq_true] at hz; cases hz
      · exact ih h m
theorem dk_rep {K : PySem.W.Frag} {q : Dk} {u : Value} (h : dkB K q u = true) : ∃ v, RelV v u ∧ ∀ Z M H, Rep K Z M H q.d v := by
  cases q with
  | c x => exact ⟨x.v, He.relB_ok h, fun Z M H => x.rep⟩
  | t l =>
    cases u with
    | ref a =>
      refine ⟨.ref a, rfl, fun Z M H => ?_⟩
      have h : tupAt K a l = true := h
      unfold tupAt at h
      cases hl : K.lookup a with
      | none => rw [hl] at h; cases h
      | some o =>
        rw [hl] at h
        dsimp only at h
        cases hd : o.data with
        | seq its n =>
          rw [hd] at h
          simp only [Bool.and_eq_true, decide_eq_true_eq] at h
          refine .tup (vs := l.map Dc.v) (.inr (.inr ⟨o, its, n, hl, h.1, hd, h.2.1, He.relAll_ok h.2.2⟩)) (by simp) fun i d v h1 h2 => ?_
          rw [List.getElem?_map] at h1 h2
          cases hi : l[i]? with
          | none => rw [hi] at h1; cases h1
          | some c => rw [hi] at h1 h2; cases h1; cases h2; exact c.rep
        | _ => rw [hd] at h; cases h
    | _ => cases h
theorem tbl_okk {K : PySem.W.Frag} {w : World} {a : Addr} {t : List (Str × Dk)} (h : He.dicW K a = some (He.keysIn w.params (t.map (·.1)))) (hv : tblBk K a t = true) : Tbl K w a (t.map fun q => (q.1, q.2.d)) := by
  refine ⟨He.dicW_ok h, fun z => ?_⟩
  rw [lookup_mapk]
  cases hl : t.lookup z with
  | none => exact nsIn_miss h (lookup_nonek hl)
  | some c =>
    have q := List.all_eq_true.mp hv (z, c) (lookup_in hl)
    dsimp only at q
    cases hn : PySem.W.nsIn K a z with
    | none => rw [hn] at q; cases q
    | some o =>
      cases o with
      | none => rw [hn] at q; cases q
      | some u =>
        rw [hn] at q
        obtain ⟨v, r, rp⟩ := dk_rep q
        exact ⟨u, v, rfl, r, rp⟩
theorem kkeys_of {K : PySem.W.Frag} {w : World} {a : Addr} {ks : List Str} (h : He.dicW K a = some (He.keysIn w.params ks)) : KKeys K w a ks := by
  obtain ⟨es, n, D⟩ := He.dicW_ok h
  unfold He.dicW at h
  rw [D.at_] at h
  have h : (match decide (("dict" : String) = "dict") && ((#[] : Array (Option Value)).isEmpty && !(a == sysModules)) with
    | true => some (es.toList.map He.keyOf)
    | false => none) = some (He.keysIn w.params ks) := h
  cases hb : decide (("dict" : String) = "dict") && ((#[] : Array (Option Value)).isEmpty && !(a == sysModules)) with
  | false => rw [hb] at h; cases h
  | true =>
    rw [hb] at h
    have h : es.toList.map He.keyOf = He.keysIn w.params ks := Option.some.inj h
    have hlen : es.size = ks.length := by
      have := congrArg List.length h
      unfold He.keysIn at this
      simpa using this
    refine ⟨es, n, D, hlen, fun i k hk => ?_⟩
    have hi : i < es.size := by rw [hlen]; exact (List.getElem?_eq_some_iff.mp hk).1
    refine ⟨es[i], ?_⟩
    have q := congrArg (fun l => l[i]?) h
    unfold He.keysIn at q
    rw [List.getElem?_map, List.getElem?_map, hk] at q
    have e1 : es.toList[i]? = some es[i] := by rw [Array.getElem?_toList]; exact Array.getElem?_eq_getElem hi
    rw [e1] at q
    have q := Option.some.inj q
    unfold He.keyOf at q
    cases hkey : es[i].key with
    | str x t =>
      rw [hkey] at q
      have e : x = k := congrArg Prod.fst (Option.some.inj q)
      subst e
      exact ⟨t, Array.getElem?_eq_getElem hi, rfl⟩
    | _ => rw [hkey] at q; cases q

section
variable {C : List (V × D)} {X : Cx} {W : WX} {pos : Pos}
/-! ### x in D, D[x] -/
def cInK (tbl : List (Str × D)) (neg : Bool) (m : ME) : ME := fun env h => (m env h).bind fun d h1 => match d with
  | .str z => .ok (.bl (if neg then !(tbl.lookup z).isSome else (tbl.lookup z).isSome)) h1
  | _ => .bad
theorem tbl_find {a : Addr} {tbl : List (Str × D)} (T : Tbl X.K X.w a tbl) (z : Str) : ∃ r : Option Value, PySem.W.nsIn X.K a z = some r ∧ r.isSome = (tbl.lookup z).isSome := by
  have q := T.2 z
  cases hl : tbl.lookup z with
  | none => rw [hl] at q; exact ⟨none, q, rfl⟩
  | some d => rw [hl] at q; obtain ⟨u, v, e, _, _⟩ := q; exact ⟨some u, e, rfl⟩
theorem inK_step {tbl : List (Str × D)} {neg : Bool} {m : ME} {σ : L2.St} {H : Hp} {Q : VK} {a : Addr} (T : Tbl X.K X.w a tbl) (t : tE X.K C X.pn W (cInK tbl neg m) σ H Q) :
    tOp (fun x y H Q => ∃ (z : Str) (r : Option Value), x = .str z ∧ y = .ref a ∧ PySem.W.nsIn X.K a z = some r ∧ Q (.bl (if neg then !r.isSome else r.isSome)) H) (tE X.K C X.pn W m) (tC (.ref a)) σ H Q := by
  obtain ⟨Z, M, env, h, s, g⟩ := t
  refine tE.step s g fun M1 H1 h1 d v e1 s1 r1 g1 => ?_
  cases r1 with
  | str z =>
    obtain ⟨r, e, er⟩ := tbl_find T z
    exact ⟨z, r, rfl, rfl, e, by rw [er]; exact Got.now g1 s1 _ (.bl _)⟩
  | _ => exact False.elim g1
theorem se_inK {x : Str} {e : Expr} {m : ME} {p : Pos} {a : Addr} {tbl : List (Str × D)} (hg : Gl X x) (hm : X.mg x = some (.ref a)) (T : Tbl X.K X.w a tbl) (he : SE C X W e m) (hd : (x == ("__debug__" : Str)) = false := by decide) (hmk : behindInMarks .In (.Name x p) = false := by rfl) :
    SE C X W (.Compare e [.In] [.Name x p] pos) (cInK tbl false m) := by
  obtain ⟨es, n, D⟩ := T.1
  exact PE.weak (pe_cmpR (op_in_kd D) he (pe_glob (v := .ref a) hg hm rfl hd) hmk) fun σ H Q t => inK_step T t
theorem se_notinK {x : Str} {e : Expr} {m : ME} {p : Pos} {a : Addr} {tbl : List (Str × D)} (hg : Gl X x) (hm : X.mg x = some (.ref a)) (T : Tbl X.K X.w a tbl) (he : SE C X W e m) (hd : (x == ("__debug__" : Str)) = false := by decide) (hmk : behindInMarks .NotIn (.Name x p) = false := by rfl) :
    SE C X W (.Compare e [.NotIn] [.Name x p] pos) (cInK tbl true m) := by
  obtain ⟨es, n, D⟩ := T.1
  exact PE.weak (pe_cmpR (op_notIn_kd D) he (pe_glob (v := .ref a) hg hm rfl hd) hmk) fun σ H Q t => inK_step T t
theorem st_inK {x : Str} {e : Expr} {m : ME} {p : Pos} {a : Addr} {tbl : List (Str × D)} (hg : Gl X x) (hm : X.mg x = some (.ref a)) (T : Tbl X.K X.w a tbl) (he : SE C X W e m) (hd : (x == ("__debug__" : Str)) = false := by decide) (hmk : behindInMarks .In (.Name x p) = false := by rfl) :
    ST C X W (.Compare e [.In] [.Name x p] pos) (cB (cInK tbl false m)) := by
  obtain ⟨es, n, D⟩ := T.1
  refine PT.weak (pt_cmpR (op_in_kd D) he (pe_glob (v := .ref a) hg hm rfl hd) hmk) fun σ H Q t => ?_
  exact inK_step (neg := false) T (tB_of t)
theorem st_notinK {x : Str} {e : Expr} {m : ME} {p : Pos} {a : Addr} {tbl : List (Str × D)} (hg : Gl X x) (hm : X.mg x = some (.ref a)) (T : Tbl X.K X.w a tbl) (he : SE C X W e m) (hd : (x == ("__debug__" : Str)) = false := by decide) (hmk : behindInMarks .NotIn (.Name x p) = false := by rfl) :
    ST C X W (.Compare e [.NotIn] [.Name x p] pos) (cB (cInK tbl true m)) := by
  obtain ⟨es, n, D⟩ := T.1
  refine PT.weak (pt_cmpR (op_notIn_kd D) he (pe_glob (v := .ref a) hg hm rfl hd) hmk) fun σ H Q t => ?_
  exact inK_step (neg := true) T (tB_of t)
def cIxK (tbl : List (Str × D)) (m : ME) : ME := fun env h => (m env h).bind fun d h1 => match d with
  | .str z => (match tbl.lookup z with
    | some x => .ok x h1
    | none => .bad)
  | _ => .bad
theorem se_ixK {x : Str} {e : Expr} {m : ME} {p : Pos} {a : Addr} {tbl : List (Str × D)} (hg : Gl X x) (hm : X.mg x = some (.ref a)) (T : Tbl X.K X.w a tbl) (he : SE C X W e m) (hd : (x == ("__debug__" : Str)) = false := by decide) (hs : PlainIx e := by intro _ _; rfl) :
    SE C X W (.Subscript (.Name x p) e pos) (cIxK tbl m) := by
  obtain ⟨es, n, D⟩ := T.1
  refine PE.weak (pe_ix ix_kdict (pe_glob (v := .ref a) hg hm rfl hd) he hs) fun σ H Q ⟨Z, M, env, h, s, g⟩ => ?_
  show tE X.K C X.pn W m σ H _
  refine tE.step s g fun M1 H1 h1 d v e1 s1 r1 g1 => ?_
  cases r1 with
  | str z =>
    dsimp only at g1
    have q := T.2 z
    cases hl : tbl.lookup z with
    | none => rw [hl] at g1; exact False.elim g1
    | some d =>
      rw [hl] at q g1
      obtain ⟨u, v, e, r, rp⟩ := q
      exact ⟨a, z, v, rfl, rfl, ⟨es, n, u, D.at_, D.lit, e, r⟩, Got.now g1 s1 _ (rp _ _ _)⟩
  | _ => exact False.elim g1

/-! ### zip(D, e) -/
def iZipK (ks : List Str) (m : ME) : MA := fun env h => (m env h).bind fun d h1 => match d with
  | .lst xs => .ok ((ks.zip xs).map fun p => .tup [.str p.1, p.2]) h1
  | _ => .bad
theorem itr_zipD {a : Addr} {ks : List Str} {xs : List D} {vs : List V} : ItR X.K C (ItzD X.K ks a) ((ks.zip xs).map fun p => .tup [.str p.1, p.2]) (fun Z M H => zn Z M a ∧ H a = some (.lst vs) ∧ Reps X.K (zn Z M) M H xs vs) where
  go := fun i Z M H hi ⟨z, h, r⟩ => by
    simp only [List.length_map, List.length_zip] at hi
    exact ⟨by omega, vs, vs[i]'(by rw [← r.1]; omega), SqL.of h, List.getElem?_eq_getElem _⟩
  stop := fun Z M H ⟨z, h, r⟩ => ⟨vs, SqL.of h, by simp only [List.length_map, List.length_zip]; rw [← r.1]; omega⟩
  yld := fun i Z M h H x H' d ⟨z, e, r⟩ sh ⟨T, k, y, ex, hT, eH, hk, hy⟩ hd => by
    subst ex eH
    have hy := hy vs (SqL.of e)
    have hi : i < xs.length := by rw [r.1]; exact (List.getElem?_eq_some_iff.mp hy).1
    have hz : (ks.zip xs)[i]? = some (k, xs[i]) := List.getElem?_zip_eq_some.mpr ⟨hk, List.getElem?_eq_getElem hi⟩
    rw [List.getElem?_map, hz] at hd
    cases hd
    refine ⟨Evo.laid hT, sh.laid hT, newTup sh (Reps.cons (.str k) (Reps.cons (r.2 i _ _ (List.getElem?_eq_getElem _) hy) Reps.nil)) hT⟩
  mono := fun Z M H M' H' ⟨z, h, r⟩ e => ⟨(e.zone z h).1, (e.zone z h).2, r.mono e⟩
  zone := fun Z Z' M H ⟨z, h, r⟩ k => ⟨zsub k z (.inl h), h, r.sub k⟩
  poke := fun Z M H p us ys ⟨z, h, r⟩ nz hp => ⟨z, by rw [upd_ne (fun e : a = p => nz (by rw [← e]; exact z.1))]; exact h, r.poke nz hp⟩
theorem si_zipD {x : Str} {e2 : Expr} {m : ME} {p px pos tpos : Pos} {elts : List Expr} {kk : Nat} {d : Addr} {ks : List Str} (hg : Gl X "zip") (hm : X.mg "zip" = none) (hgx : Gl X x) (hmx : X.mg x = some (.ref d)) (KK : KKeys X.K X.w d ks) (he : SE C X W e2 m)
    (hdb : (x == ("__debug__" : Str)) = false := by decide)
    (hs : starEach [.Name x px, e2] X.env = (false, eval (.Name x px) X.env) :: starEach [e2] X.env := by rfl) (hs2 : starEach [e2] X.env = (false, eval e2 X.env) :: starEach [] X.env := by rfl) (hpl : (backTo pos (starEach [e2] X.env)).any (·.1) = false := by rfl) :
    SI C X W (.Tuple elts kk tpos) (.Call (.Name "zip" p) [.Name x px, e2] [] pos) (iZipK ks m) := by
  refine PI.weak (pi_zipD hg hm hgx hmx KK he hdb hs hs2 hpl) fun σ H R ⟨Z, M, env, h, s, g⟩ => ?_
  show tE X.K C X.pn W m σ H _
  refine tE.step s g fun M1 H1 h1 d v e1 s1 r1 g1 => ?_
  cases r1 with
  | @lst xs vs a z e l q => exact ⟨a, vs, rfl, SqL.of e, Got.now g1 s1 _ _ itr_zipD ⟨z, e, ⟨l, q⟩⟩⟩
  | _ => exact False.elim g1

/-! ### tuple(x), list(x), xs[::-1] -/
def cTupOf (m : ME) : ME := fun env h => (m env h).bind fun d h1 => match d with
  | .tup xs => .ok (.tup xs) h1
  | _ => match lstOf h1 d with
    | some xs => .ok (.tup xs) h1
    | none => .bad
theorem se_tupOf {e : Expr} {m : ME} {p : Pos} (hg : Gl X "tuple") (hm : X.mg "tuple" = none) (he : SE C X W e m) (na : starEach [e] X.env = (false, eval e X.env) :: starEach [] X.env := by rfl) : SE C X W (.Call (.Name "tuple" p) [e] [] pos) (cTupOf m) := by
  refine PE.weak (pe_tupleOf hg hm he na) fun σ H Q ⟨Z, M, env, h, s, g⟩ => ?_
  refine tE.step s g fun M1 H1 h1 d v e1 s1 r1 g1 => ?_
  have go : ∀ xs, lstOf h1 d = some xs → Got X.K C X.pn Z W σ env M1 H1 (.ok (.tup xs) h1) (fun M' H' d => ∀ v, Rep X.K (zn Z M') M' H' d v → Q v H') → kTup X.K v H1 Q := fun xs hx g2 => by
    obtain ⟨p, vs, rfl, hq, rs⟩ := lstOf_rep s1.sh hx r1
    exact .inl ⟨p, vs, rfl, hq, fun q hq => Got.laid g2 s1 hq (newTup s1.sh rs hq)⟩
  cases d with
  | tup xs =>
    cases r1 with
    | tup t l q => exact .inr ⟨_, _, rfl, t.sq, Got.now g1 s1 _ (.tup t l q)⟩
  | lst xs => exact go xs rfl g1
  | scr xs => exact go _ rfl g1
  | loc n =>
    dsimp only at g1
    cases hx : lstOf h1 (.loc n) with
    | none => rw [hx] at g1; exact False.elim g1
    | some xs => rw [hx] at g1; exact go xs hx g1
  | _ => exact False.elim g1
def listD : D → List D → R D := fun d h => match seqOf h d with
  | some xs => .ok (.lst xs) h
  | none => .bad
theorem kc_list {K : PySem.W.Frag} : OkC C K (fun xs H Q => ∃ p ys, xs = [.ref p] ∧ (SqL K H p ys ∨ SqT K H p ys) ∧ ∀ l, H l = none → Q (.ref l) (upd H l (.lst ys))) (f1 listD) := okc1 fun pn Z W σ env M H h d v Q s r g => by
  unfold listD at g
  cases hx : seqOf h d with
  | none => rw [hx] at g; exact False.elim g
  | some xs =>
    rw [hx] at g
    obtain ⟨p, vs, rfl, hq, rs⟩ := seqOf_rep s.sh hx r
    exact ⟨p, vs, rfl, hq, fun l hl => Got.laid g s hl (newLst s.sh rs hl)⟩
def cRev (m : ME) : ME := fun env h => (m env h).bind fun d h1 => match lstOf h1 d with
  | some xs => .ok (.lst xs.reverse) h1
  | none => .bad
theorem Reps.reverse {K : PySem.W.Frag} {Z : Addr → Prop} {M : List Addr} {H : Hp} {xs : List D} {vs : List V} (r : Reps K Z M H xs vs) : Reps K Z M H xs.reverse vs.reverse := by
  refine ⟨by simp [r.1], fun i d v h1 h2 => ?_⟩
  have hi : i < xs.length := by simpa using (List.getElem?_eq_some_iff.mp h1).1
  rw [List.getElem?_reverse hi] at h1
  rw [List.getElem?_reverse (by rw [← r.1]; exact hi), ← r.1] at h2
  exact r.2 _ d v h1 h2
theorem se_rev {e : Expr} {m : ME} {k : Nat} {p1 p2 p3 : Pos} (he : SE C X W e m) : SE C X W (.Subscript e (.Slice none none (some (.UnaryOp .USub (.Constant (.int 1) k p1) p2)) p3) pos) (cRev m) := by
  refine PE.weak (pe_revL he) fun σ H Q ⟨Z, M, env, h, s, g⟩ => ?_
  refine tE.step s g fun M1 H1 h1 d v e1 s1 r1 g1 => ?_
  cases hx : lstOf h1 d with
  | none => rw [hx] at g1; exact False.elim g1
  | some xs =>
    rw [hx] at g1
    obtain ⟨p, vs, rfl, hq, rs⟩ := lstOf_rep s1.sh hx r1
    exact ⟨p, vs, rfl, hq, fun l hl => Got.laid g1 s1 hl (newLst s1.sh rs.reverse hl)⟩
end
end G

set_option Elab.async false
set_option linter.all false
set_option maxRecDepth 100000
set_option maxHeartbeats 4000000
/-! G24: for k in d (d locked the while); {k: v, ..}; dict == dict; replace. -/
namespace G
open PySem PySem.Spec PyProof.Rows L2
/-! ### for k in d -/
def unS (n : Nat) : RS → RS
  | .nx env h => (match h[n]? with
    | some (.lck ks ds) => .nx env (h.set n (.dic ks ds))
    | _ => .bad)
  | .br env h => (match h[n]? with
    | some (.lck ks ds) => .br env (h.set n (.dic ks ds))
    | _ => .bad)
  | .ct env h => (match h[n]? with
    | some (.lck ks ds) => .ct env (h.set n (.dic ks ds))
    | _ => .bad)
  | .rt d h => (match h[n]? with
    | some (.lck ks ds) => .rt d (h.set n (.dic ks ds))
    | _ => .bad)
  | _ => .bad
def sForDic (m : ME) (T : Asg) (b : MS) : MS := fun env h => match m env h with
  | .ok (.loc n) _ => (match h[n]? with
    | some (.dic ks ds) => unS n (sFor (iKeysD n m) T b env (h.set n (.lck ks ds)))
    | _ => .bad)
  | _ => .bad
section
variable {K : PySem.W.Frag} {C : List (V × D)} {pn : List (Addr × Obj)} {Z : Addr → Prop} {M M' : List Addr} {H H' : Hp} {env : List Sl} {h h' : List D} {σ σ' : L2.St}
theorem unlock_ok {a : Addr} {n : Nat} {od : Obj} {kvs : List (Key × V)} {ks' : List Key} {ds' : List D} (hm : M[n]? = some a) (ha : H a = some (.dK kvs)) (ev : Evo M (upd H a (.frz od (.dK kvs))) M' H') (s' : SR K C pn Z M' env h' σ' H') (hn : h'[n]? = some (.lck ks' ds')) :
    H' a = some (.frz od (.dK kvs)) ∧ Evo M H M' (upd H' a (.dK kvs)) ∧ SR K C pn Z M' env (h'.set n (.dic ks' ds')) σ' (upd H' a (.dK kvs)) := by
  have mem := List.mem_of_getElem? hm
  have hfz : H' a = some (.frz od (.dK kvs)) := ev.fz a _ _ upd_same
  have hm' : M'[n]? = some a := ev.get hm
  obtain ⟨kvs', o', q1, q2, q3⟩ := s'.sh.cel n a _ hm' hn
  rw [hfz] at q1
  cases q1
  have nl : ∀ o xs, H' a ≠ some (.frz o (.lst xs)) := fun o xs z => by rw [hfz] at z; cases z
  have mem' := List.mem_of_getElem? hm'
  have s2 := s'.force (u := .dK kvs) (c := .dic ks' ds') hm' nl ⟨kvs, upd_same, q2, q3.pokeM mem' nl⟩
  have ne : ∀ b, b ∉ M → b ≠ a := fun b nb e => nb (by rw [e]; exact mem)
  refine ⟨hfz, ⟨ev.pre, fun b m1 m2 => ?_, fun b o hb m2 => ?_, fun b o u hb => ?_⟩, s2⟩
  · have := ev.new b m1 m2
    rw [upd_ne (ne b m2)] at this
    exact this
  · rw [upd_ne (ne b m2)]
    exact ev.keep b o (by rw [upd_ne (ne b m2)]; exact hb) m2
  · have nb : b ≠ a := fun e => by rw [e, ha] at hb; cases hb
    rw [upd_ne nb]
    exact ev.fz b o u (by rw [upd_ne nb]; exact hb)
end
section
variable {C : List (V × D)} {X : Cx} {W : WX} {pos : Pos}
theorem forDic_ok {m : ME} {T : Asg} {b : MS} {D' : Ends} {σ : L2.St} {H : Hp} (t : tS X.K C X.pn W (sForDic m T b) D' σ H) : ∃ n, tLock (tS X.K C X.pn W (sFor (iKeysD n m) T b)) D' σ H := by
  obtain ⟨Z, M, env, h, s, g⟩ := t
  unfold sForDic at g
  cases em : m env h with
  | bad => rw [em] at g; exact False.elim g
  | exc c ns ds h1 => rw [em] at g; exact False.elim g
  | ok d h0 =>
    rw [em] at g
    cases d with
    | loc n =>
      dsimp only at g
      cases hn : h[n]? with
      | none => rw [hn] at g; exact False.elim g
      | some c =>
        rw [hn] at g
        cases c with
        | dic ks ds =>
          dsimp only at g
          refine ⟨n, ?_⟩
          have hl := (List.getElem?_eq_some_iff.mp hn).1
          have hl' : n < M.length := by rw [s.sh.len]; exact hl
          have hm : M[n]? = some M[n] := List.getElem?_eq_getElem hl'
          obtain ⟨kvs, ha, hk, rs⟩ := s.sh.cel n _ _ hm hn
          generalize ea : M[n] = a at hm ha
          have mem := List.mem_of_getElem? hm
          refine ⟨a, .dK kvs, ha, by trivial, fun od => ?_⟩
          have nf : ∀ u w, H a ≠ some (.frz u w) := fun u w z => by rw [ha] at z; cases z
          have evL := s.sh.evw (o := .frz od (.dK kvs)) hm nf
          have sL : SR X.K C X.pn Z M env (h.set n (.lck ks ds)) σ (upd H a (.frz od (.dK kvs))) := s.later evL (s.sh.write hm nf ⟨kvs, od, upd_same, hk, rs.mono evL⟩)
          refine ⟨Z, M, env, _, sL, ?_⟩
          cases er : sFor (iKeysD n m) T b env (h.set n (.lck ks ds)) with
          | bad => rw [er] at g; exact False.elim g
          | exc c ns ds env' h1 => rw [er] at g; exact False.elim g
          | nx env' h1 =>
            rw [er] at g
            unfold unS at g
            dsimp only at g
            cases hx : h1[n]? with
            | none => rw [hx] at g; exact False.elim g
            | some c =>
              rw [hx] at g
              cases c with
              | lck ks' ds' =>
                intro M' σ' H' ev s'
                obtain ⟨q1, q2, q3⟩ := unlock_ok hm ha ev s' hx
                exact ⟨q1, g M' σ' _ q2 q3⟩
              | _ => exact False.elim g
          | br env' h1 =>
            rw [er] at g
            unfold unS at g
            dsimp only at g
            cases hx : h1[n]? with
            | none => rw [hx] at g; exact False.elim g
            | some c =>
              rw [hx] at g
              cases c with
              | lck ks' ds' =>
                intro M' σ' H' ev s'
                obtain ⟨q1, q2, q3⟩ := unlock_ok hm ha ev s' hx
                exact ⟨q1, g M' σ' _ q2 q3⟩
              | _ => exact False.elim g
          | ct env' h1 =>
            rw [er] at g
            unfold unS at g
            dsimp only at g
            cases hx : h1[n]? with
            | none => rw [hx] at g; exact False.elim g
            | some c =>
              rw [hx] at g
              cases c with
              | lck ks' ds' =>
                intro M' σ' H' ev s'
                obtain ⟨q1, q2, q3⟩ := unlock_ok hm ha ev s' hx
                exact ⟨q1, g M' σ' _ q2 q3⟩
              | _ => exact False.elim g
          | rt d h1 =>
            rw [er] at g
            unfold unS at g
            dsimp only at g
            cases hx : h1[n]? with
            | none => rw [hx] at g; exact False.elim g
            | some c =>
              rw [hx] at g
              cases c with
              | lck ks' ds' =>
                intro M' H' v ev s' r
                have s0 : SR X.K C X.pn Z M' [] h1 [] H' := ⟨s', fun i d hd => by simp at hd, fun i c ns ds hd => by simp at hd, rfl⟩
                obtain ⟨q1, q2, q3⟩ := unlock_ok hm ha ev s0 hx
                have nl : ∀ o xs, H' a ≠ some (.frz o (.lst xs)) := fun o xs z => by rw [q1] at z; cases z
                exact ⟨q1, g M' _ v q2 q3.sh (r.pokeM (List.mem_of_getElem? (ev.get hm)) nl)⟩
              | _ => exact False.elim g
        | _ => exact False.elim g
    | _ => exact False.elim g
theorem ss_forDic {tg iter : Expr} {body : List Stmt} {m : ME} {T : Asg} {ts : List Nat} {b : MS} (hp : PassesOwn (model X.prog X.w) X.A X.env X.xe) (hc : X.calm = true) (hi : SE C X W iter m) (hg : SG C X tg T ts) (hb : SB C X W body b)
    (hs : ∀ x, foldedSetIterable iter X.env x = pure x := by intro _; rfl) : SS C X W (.For tg iter body [] pos) (sForDic m T b) := by
  refine ⟨fun pins s σ H D I t => ?_⟩
  obtain ⟨n, q⟩ := forDic_ok t
  exact (ps_lock (ss_for hp hc (si_keysD n hi) hg hb hs)).run pins s σ H D I q

/-! ### {k: v, ..} -/
def aPs : List (ME × ME) → Mn (List (D × D))
  | [] => fun _ h => .ok [] h
  | p :: r => fun env h => (p.1 env h).bind fun x h1 => (p.2 env h1).bind fun y h2 => (aPs r env h2).bind fun ps h3 => .ok ((x, y) :: ps) h3
def keysOf : List (D × D) → Option (List (Key × D))
  | [] => some []
  | (x, y) :: r => match keyOf x, keysOf r with
    | some k, some t => some ((k, y) :: t)
    | _, _ => none
def mergeD (ks : List Key) (ds : List D) : List (Key × D) → List Key × List D
  | [] => (ks, ds)
  | (k, d) :: r => mergeD (kput ks ds k d).1 (kput ks ds k d).2 r
def cDis (ps : List (ME × ME)) : ME := fun env h => (aPs ps env (h ++ [.dic [] []])).bind fun qs h1 => match keysOf qs, h1[h.length]? with
  | some kds, some (.dic [] []) => bif decide (kds.length ≤ 15) then .ok (.loc h.length) (h1.set h.length (.dic (mergeD [] [] kds).1 (mergeD [] [] kds).2)) else .bad
  | _, _ => .bad
inductive SPp (C : List (V × D)) (X : Cx) (W : WX) : List (Option Expr) → List Expr → List (ME × ME) → Prop where
  | nil : SPp C X W [] [] []
  | cons {k v : Expr} {mk mv : ME} {ks : List (Option Expr)} {vs : List Expr} {ms : List (ME × ME)} (hk : SE C X W k mk) (hv : SE C X W v mv) (r : SPp C X W ks vs ms) : SPp C X W (some k :: ks) (v :: vs) ((mk, mv) :: ms)
theorem SPp.pps {ks : List (Option Expr)} {vs : List Expr} {ms : List (ME × ME)} (h : SPp C X W ks vs ms) : PPs X pos ks vs (ms.map fun p => (tE X.K C X.pn W p.1, tE X.K C X.pn W p.2)) := by
  induction h with
  | nil => exact pps_nil
  | cons hk hv r ih => exact pps_cons hk hv ih
theorem aPs_ok {K : PySem.W.Frag} {pn : List (Addr × Obj)} {Z : Addr → Prop} {σ : L2.St} {env : List Sl} : ∀ (ms : List (ME × ME)) {M : List Addr} {H : Hp} {h : List D} {Q : List (V × V) → Hp → Prop}, SR K C pn Z M env h σ H →
    Got K C pn Z W σ env M H (aPs ms env h) (fun M' H' qs => ∀ vs, Reps K (zn Z M') M' H' (qs.map (·.1)) (vs.map (·.1)) → Reps K (zn Z M') M' H' (qs.map (·.2)) (vs.map (·.2)) → Q vs H') → tPairs (ms.map fun p => (tE K C pn W p.1, tE K C pn W p.2)) σ H Q
  | [], M, H, h, Q, s, g => Got.now g s [] Reps.nil Reps.nil
  | p :: r, M, H, h, Q, s, g => by
    show tE K C pn W p.1 σ H _
    refine tE.step s g fun M1 H1 h1 d v e1 s1 r1 g1 => ?_
    refine tE.step s1 g1 fun M2 H2 h2 d2 v2 e2 s2 r2 g2 => ?_
    refine aPs_ok r (h := h2) s2 ?_
    cases e : aPs r env h2 with
    | bad => rw [e] at g2; exact g2
    | exc c ns ds h3 => rw [e] at g2; exact g2
    | ok qs h3 =>
      rw [e] at g2
      intro M3 H3 ev s3 vs q1 q2
      exact g2 M3 H3 ev s3 ((v, v2) :: vs) (Reps.cons (r1.mono (e2.trans ev)) q1) (Reps.cons (r2.mono ev) q2)
theorem keysOf_ok {K : PySem.W.Frag} {Z : Addr → Prop} {M : List Addr} {H : Hp} : ∀ {qs : List (D × D)} {kds : List (Key × D)} {vs : List (V × V)}, keysOf qs = some kds → Reps K Z M H (qs.map (·.1)) (vs.map (·.1)) → Reps K Z M H (qs.map (·.2)) (vs.map (·.2)) →
    ∃ kvs : List (Key × V), vs = kvs.map (fun kv => (kV kv.1, kv.2)) ∧ kds.map (·.1) = kvs.map (·.1) ∧ Reps K Z M H (kds.map (·.2)) (kvs.map (·.2))
  | [], kds, vs, e, r1, r2 => by
    cases e
    have : vs = [] := List.map_eq_nil_iff.mp r1.cases_nil
    subst this
    exact ⟨[], rfl, rfl, Reps.nil⟩
  | (x, y) :: qs, kds, vs, e, r1, r2 => by
    unfold keysOf at e
    cases ek : keyOf x with
    | none => rw [ek] at e; cases e
    | some k =>
      rw [ek] at e
      cases et : keysOf qs with
      | none => rw [et] at e; cases e
      | some t =>
        rw [et] at e
        cases e
        cases vs with
        | nil => have := r1.1; simp at this
        | cons p vs =>
          obtain ⟨v, ws, e1, a1, a2⟩ := Reps.cases_cons r1
          obtain ⟨v', ws', e2, b1, b2⟩ := Reps.cases_cons r2
          simp only [List.map_cons, List.cons.injEq] at e1 e2
          obtain ⟨rfl, rfl⟩ := e1
          obtain ⟨rfl, rfl⟩ := e2
          obtain ⟨kvs, q1, q2, q3⟩ := keysOf_ok et a2 b2
          refine ⟨(k, p.2) :: kvs, ?_, by simp [q2], Reps.cons b1 q3⟩
          rw [List.map_cons, ← q1, ← keyOf_rep ek a1]
theorem mergeD_ok {K : PySem.W.Frag} {Z : Addr → Prop} {M : List Addr} {H : Hp} : ∀ {kds : List (Key × D)} {kvs : List (Key × V)} {acc : List (Key × V)} {ds : List D}, kds.map (·.1) = kvs.map (·.1) → Reps K Z M H (kds.map (·.2)) (kvs.map (·.2)) → Reps K Z M H ds (acc.map (·.2)) →
    (mergeK acc kvs).map (·.1) = (mergeD (acc.map (·.1)) ds kds).1 ∧ Reps K Z M H (mergeD (acc.map (·.1)) ds kds).2 ((mergeK acc kvs).map (·.2))
  | [], [], acc, ds, e, r, ra => ⟨rfl, ra⟩
  | [], _ :: _, acc, ds, e, r, ra => by simp at e
  | _ :: _, [], acc, ds, e, r, ra => by simp at e
  | (k, d) :: kds, (k', v) :: kvs, acc, ds, e, r, ra => by
    simp only [List.map_cons, List.cons.injEq] at e
    obtain ⟨rfl, e⟩ := e
    obtain ⟨v', ws, e1, a1, a2⟩ := Reps.cases_cons r
    simp only [List.map_cons, List.cons.injEq] at e1
    obtain ⟨rfl, rfl⟩ := e1
    obtain ⟨q1, q2⟩ := kput_ok (k := k) a1 ra
    have := mergeD_ok (acc := putK acc k v) (ds := (kput (acc.map (·.1)) ds k d).2) e a2 q2
    rw [q1] at this
    exact this
theorem se_dis {ks : List (Option Expr)} {vs : List Expr} {ms : List (ME × ME)} (h : SPp C X W ks vs ms) (hall : ks.all (·.isSome) = true := by rfl) (hl : ks.length = vs.length := by rfl) (h0 : ks ≠ [] := by intro z; cases z) (h15 : ks.length ≤ 15 := by decide) : SE C X W (.Dict ks vs pos) (cDis ms) := by
  refine PE.weak (pe_disp h.pps hall hl h0 h15) fun σ H Q ⟨Z, M, env, h, s, g⟩ p hp => ?_
  have ev0 := Evo.newloc (M := M) (o := .dK []) hp
  have s0 := s.later ev0 (s.sh.newloc (o := .dK []) (d := .dic [] []) hp ⟨[], upd_same, rfl, Reps.nil⟩)
  have hM : (M ++ [p])[h.length]? = some p := by rw [← s.sh.len]; simp
  refine aPs_ok ms s0 ?_
  have g := Got.later ev0 g
  unfold cDis at g
  cases e : aPs ms env (h ++ [.dic [] []]) with
  | bad => rw [e] at g; exact g
  | exc c ns ds h3 => rw [e] at g; exact g
  | ok qs h1 =>
    rw [e] at g
    dsimp only [R.bind_ok] at g
    intro M1 H1 ev s1 ws q1 q2
    cases ek : keysOf qs with
    | none => rw [ek] at g; exact False.elim g
    | some kds =>
      rw [ek] at g
      cases ec : h1[h.length]? with
      | none => rw [ec] at g; exact False.elim g
      | some cell =>
        rw [ec] at g
        obtain ⟨rfl⟩ : cell = .dic [] [] := by
          match cell, g with
          | .dic [] [], _ => rfl
        dsimp only at g
        cases eb : decide (kds.length ≤ 15) with
        | false => rw [eb] at g; exact False.elim g
        | true =>
          rw [eb, cond_true] at g
          have hM1 := ev.get hM
          obtain ⟨kv0, hp1, ek0, _⟩ := s1.sh.cel h.length p _ hM1 ec
          have kv0e : kv0 = [] := List.map_eq_nil_iff.mp ek0
          subst kv0e
          obtain ⟨kvs, rfl, z1, z2⟩ := keysOf_ok ek q1 q2
          have nf : ∀ u w, H1 p ≠ some (.frz u w) := fun u w z => by rw [hp1] at z; cases z
          have ev2 := s1.sh.evw (o := .dK (mergeK [] kvs)) hM1 nf
          obtain ⟨y1, y2⟩ := mergeD_ok (acc := []) (ds := []) z1 (z2.mono ev2) Reps.nil
          have sh2 := s1.sh.write (o := .dK (mergeK [] kvs)) (d := .dic (mergeD [] [] kds).1 (mergeD [] [] kds).2) hM1 nf ⟨_, upd_same, y1, y2⟩
          refine ⟨hp1, kvs, rfl, ?_, ?_⟩
          · have := congrArg List.length z1
            simp only [List.length_map] at this
            rw [← this]
            exact of_decide_eq_true eb
          · exact g M1 _ (ev.trans ev2) (s1.later ev2 sh2) _ (.loc (ev2.get hM1))

/-! ### dict == dict: only where they are equal -/
def flEq : D → D → Bool
  | .non, .non => true
  | .bl a, .bl b => a == b
  | .int a, .int b => decide (a = b)
  | .str a, .str b => decide (a = b)
  | _, _ => false
def dicH (h : List D) : D → Option (List Key × List D)
  | .loc n => match h[n]? with
    | some (.dic ks ds) => some (ks, ds)
    | _ => none
  | _ => none
def oEqDic : D → D → List D → R D := fun x y h => match dicH h x, dicH h y with
  | some (ks, ds), some (ls, es) => bif decide (ks.length = ls.length) && (decide (ks.length = ds.length) && ((ks.zip ds).all fun p => match kget ls es p.1 with
    | some e => flEq p.2 e
    | none => false)) then .ok (.bl true) h else .bad
  | _, _ => .bad
theorem flEq_rep {K : PySem.W.Frag} {Z : Addr → Prop} {M : List Addr} {H : Hp} {d e : D} {v w : V} (q : flEq d e = true) (r : Rep K Z M H d v) (r' : Rep K Z M H e w) : w = v ∧ flatB v = true := by
  cases d with
  | non => cases e with
    | non => cases r; cases r'; exact ⟨rfl, rfl⟩
    | _ => cases q
  | bl a => cases e with
    | bl b => cases r; cases r'; rw [eq_of_beq (show (a == b) = true from q)]; exact ⟨rfl, rfl⟩
    | _ => cases q
  | int a => cases e with
    | int b => cases r; cases r'; rw [of_decide_eq_true (show decide (a = b) = true from q)]; exact ⟨rfl, rfl⟩
    | _ => cases q
  | str a => cases e with
    | str b => cases r; cases r'; rw [of_decide_eq_true (show decide (a = b) = true from q)]; exact ⟨rfl, rfl⟩
    | _ => cases q
  | _ => cases q
theorem dicH_rep {K : PySem.W.Frag} {Z : Addr → Prop} {M : List Addr} {H : Hp} {h : List D} {d : D} {v : V} (s : Sh K C Z M h H) {ks : List Key} {ds : List D} (e : dicH h d = some (ks, ds)) (r : Rep K (zn Z M) M H d v) : ∃ a kvs, v = .ref a ∧ H a = some (.dK kvs) ∧ kvs.map (·.1) = ks ∧ Reps K (zn Z M) M H ds (kvs.map (·.2)) := by
  cases r with
  | loc hm =>
    rename_i n a
    unfold dicH at e
    dsimp only at e
    cases hx : h[n]? with
    | none => rw [hx] at e; cases e
    | some c =>
      rw [hx] at e
      cases c with
      | dic ks' ds' =>
        cases e
        obtain ⟨kvs, q1, q2, q3⟩ := s.cel n a _ hm hx
        exact ⟨a, kvs, rfl, q1, q2, q3⟩
      | _ => cases e
  | _ => cases e
theorem k_eqDic {K : PySem.W.Frag} : Ok2 C K rEqDA oEqDic := fun pn Z W σ env M H h x y v w Q s r r' g => by
  unfold oEqDic at g
  cases e1 : dicH h x with
  | none => rw [e1] at g; exact False.elim g
  | some p =>
    obtain ⟨ks, ds⟩ := p
    cases e2 : dicH h y with
    | none => rw [e1, e2] at g; exact False.elim g
    | some q =>
      obtain ⟨ls, es⟩ := q
      rw [e1, e2] at g
      dsimp only at g
      obtain ⟨a, kvs, rfl, ha, rfl, rs⟩ := dicH_rep s.sh e1 r
      obtain ⟨b, lvs, rfl, hb, rfl, rs'⟩ := dicH_rep s.sh e2 r'
      cases eb : decide ((kvs.map (·.1)).length = (lvs.map (·.1)).length) && (decide ((kvs.map (·.1)).length = ds.length) && (((kvs.map (·.1)).zip ds).all fun p => match kget (lvs.map (·.1)) es p.1 with
        | some e => flEq p.2 e
        | none => false)) with
      | false => rw [eb] at g; exact False.elim g
      | true =>
        rw [eb, cond_true] at g
        simp only [Bool.and_eq_true, decide_eq_true_eq, List.length_map] at eb
        refine ⟨a, b, kvs, lvs, rfl, rfl, ha, hb, eb.1, fun p hp => ?_, Got.now g s _ (.bl true)⟩
        obtain ⟨i, hi, rfl⟩ := List.getElem_of_mem hp
        have hd : i < ds.length := eb.2.1 ▸ hi
        have hz : ((kvs.map (·.1)).zip ds)[i]? = some (kvs[i].1, ds[i]) := List.getElem?_zip_eq_some.mpr ⟨by rw [List.getElem?_map, List.getElem?_eq_getElem hi]; rfl, List.getElem?_eq_getElem hd⟩
        have q := List.all_eq_true.mp eb.2.2 _ (List.mem_of_getElem? hz)
        dsimp only at q
        cases ek : kget (lvs.map (·.1)) es kvs[i].1 with
        | none => rw [ek] at q; cases q
        | some e =>
          rw [ek] at q
          obtain ⟨u, q1, q2⟩ := kget_some rs' ek
          obtain ⟨z1, z2⟩ := flEq_rep q (rs.2 i _ _ (List.getElem?_eq_getElem hd) (by rw [List.getElem?_map, List.getElem?_eq_getElem hi]; rfl)) q2
          rw [q1, z1]
          exact ⟨rfl, z2⟩
end
end G

set_option Elab.async false
set_option linter.all false
set_option maxRecDepth 100000
set_option maxHeartbeats 4000000
/-! G25: replace (a token must be out). -/
namespace G
open PySem PySem.Spec PyProof.Rows L2
/-- behind e a token is out -/
def PEb (X : Cx) (e : Expr) (t : TE) : Prop := ∀ (pins : List (Addr × Obj)) (s : Shared) (σ : L2.St) (H : Hp) (Q : VK), Inv X pins σ H s → t σ H Q → wpAny (model X.prog X.w) X.A (eval e X.env) (fun v s' => 1 ≤ s'.toks ∧ EP X pins σ Q v s') X.xe s
theorem PEb.weak {X : Cx} {e : Expr} {t t' : TE} (p : PEb X e t) (h : ∀ σ H Q, t' σ H Q → t σ H Q) : PEb X e t' := fun pins s σ H Q I q => p pins s σ H Q I (h σ H Q q)
section
variable {X : Cx} {pos apos : Pos} {a b o e : Expr} {ta tb to te : TE}
theorem peb_str {x : Str} {j : Nat} : PEb X (.Constant (.str x) j pos) (tC (.str x)) := fun _ s _ H _ I h => Calls.Constant_str ⟨by show 1 ≤ s.toks + 1; omega, .str x, H, I.tok _, ⟨_, rfl⟩, h⟩
theorem peb_int {x : Int} {j : Nat} : PEb X (.Constant (.int x) j pos) (tC (.int x)) := fun _ s _ H _ I h => wpAny_Constant_int ⟨by show 1 ≤ s.toks + 1; omega, .int x, H, I.tok _, ⟨_, rfl⟩, h⟩
theorem peb_ix {r : R2} (hr : IxR X r) (ha : PE X a ta) (hb : PEb X b tb) (hs : PlainIx b) : PEb X (.Subscript a b pos) (tOp r ta tb) := by
  intro pins s σ H Q I h
  refine Subscript_ (thn (ha.run pins s σ H _ I h) fun v s1 ⟨x, H1, I1, r1, q1⟩ => thn (hb pins s1 σ H1 _ I1 q1) fun u s2 ⟨hk, y, H2, I2, r2, q2⟩ => ?_)
  exact wpAny_mono (PySem.wpAny_toks (hr a b pins s2 σ H2 x y v u Q I2 r1 r2 q2 (hs _ _))) (fun _ s3 q => ⟨Nat.le_trans hk q.1, q.2⟩) fun _ _ z => z.2
theorem peb_m1 {id : String} {name : Str} {r : V → List V → Hp → VK → Prop} (slot : Slot "str" name id) (ty : typeOf (.builtin id) = pure (.type "method_descriptor")) (rule : MtR X id r) (ho : PE X o to) (he : PEb X e te)
    (hs : starEach [e] X.env = [(false, eval e X.env)] := by rfl) (hbase : attributeBase o name X.env (eval o X.env) = eval o X.env := by rfl) (hline : (apos.endLine == pos.line) = true := by rfl) :
    PEb X (.Call (.Attribute o name apos) [e] [] pos) (tM1 r to te) := by
  intro pins s σ H Q I h
  refine PySem.Call_method1 hbase hs hline (thn (ho.run pins s σ H _ I h) fun v s1 ⟨x, H1, I1, r1, q1⟩ => ?_)
  obtain ⟨⟨a, rfl⟩, q1⟩ := q1
  obtain ⟨t, rfl⟩ := _root_.id r1
  refine ⟨"str", _, F.plainAttrs_str, slot, ty, typeIs_str _ _ _, (fun _ e => nomatch e), Calls.callWith_builtin rfl (Calls.evalArgs_plain (Calls.spliced_cons ?_))⟩
  refine thn (he pins s1 σ H1 _ I1 q1) fun u s2 ⟨hk, y, H2, I2, r2, q2⟩ => Calls.spliced_nil ?_
  exact wpAny_mono (PySem.wpAny_toks (rule pins s2 σ H2 _ [y] _ [u] Q I2 r1 (.cons r2 .nil) q2)) (fun _ s3 q => ⟨Nat.le_trans hk q.1, q.2⟩) fun _ _ z => z.2
open CwR in
theorem pe_replB {y z : Str} {j k : Nat} {c0 c1 : Pos} (ho : PEb X o to) (hyz : (y == z) = false := by decide)
    (hst : starEach [.Constant (.str y) j c0, .Constant (.str z) k c1] X.env = [(false, eval (.Constant (.str y) j c0) X.env), (false, eval (.Constant (.str z) k c1) X.env)] := by rfl)
    (hbase : attributeBase o "replace" X.env (eval o X.env) = eval o X.env := by rfl) (hline : (apos.endLine == pos.line) = true := by rfl) :
    PE X (.Call (.Attribute o "replace" apos) [.Constant (.str y) j c0, .Constant (.str z) k c1] [] pos) (tReplC to y z) := by
  refine ⟨fun pins s σ H Q I h => ?_⟩
  refine PySem.Call_method2 hbase hst hline (wpAny_mono (ho pins s σ H _ I h) (fun v s1 q => ?_) fun _ _ z => z)
  obtain ⟨hk, v', H1, I1, r1, x, e1, hb, q⟩ := q
  subst e1
  obtain ⟨tx, e2⟩ := r1
  subst e2
  refine ⟨"str", _, PySem.F.plainAttrs_str, PySem.F.slot_str_replace, PySem.F.type_str_replace, typeIs_str _ _ _, (fun _ e => nomatch e), Calls.callWith_builtin rfl (Calls.evalArgs_plain (Calls.spliced_cons ?_))⟩
  refine Calls.Constant_str (Calls.spliced_cons (Calls.Constant_str (Calls.spliced_nil ?_)))
  exact PySem.SC.replace (by show s1.toks ≠ 0; omega) (by show s1.toks + 1 ≠ 0; omega) (by show s1.toks ≠ s1.toks + 1; omega) hyz hb fun t' k => ⟨.str (Txt.replace x y z), H1, I1.tok k, ⟨t', rfl⟩, q⟩
end
def cRepl (y z : Str) (m : ME) : ME := fun env h => (m env h).bind fun d h1 => match d with
  | .str x => bif decide (x.length + (x.length + 1) * z.length ≤ 16777216) then .ok (.str (Txt.replace x y z)) h1 else .bad
  | _ => .bad
section
variable {C : List (V × D)} {X : Cx} {W : WX} {pos apos : Pos} {o e a b : Expr} {mo me ma mb : ME}
def SEb (C : List (V × D)) (X : Cx) (W : WX) (e : Expr) (m : ME) : Prop := PEb X e (tE X.K C X.pn W m)
theorem seb_str {x : Str} {j : Nat} : SEb C X W (.Constant (.str x) j pos) (cC (.str x)) := PEb.weak peb_str fun σ H Q ⟨Z, M, env, h, s, g⟩ => Got.now g s _ (.str x)
theorem seb_int {x : Int} {j : Nat} : SEb C X W (.Constant (.int x) j pos) (cC (.int x)) := PEb.weak peb_int fun σ H Q ⟨Z, M, env, h, s, g⟩ => Got.now g s _ (.int x)
theorem seb_ix (hu : X.A.units + 1 < cLine) (ha : SE C X W a ma) (hb : SEb C X W b mb) (hs : PlainIx b := by intro _ _; rfl) : SEb C X W (.Subscript a b pos) (c2 oIx ma mb) :=
  PEb.weak (peb_ix (ix_any hu) ha hb hs) fun σ H Q t => t2_of k_ix t
theorem seb_split (ho : SE C X W o mo) (he : SEb C X W e me) (hs : starEach [e] X.env = [(false, eval e X.env)] := by rfl) (hbase : attributeBase o "split" X.env (eval o X.env) = eval o X.env := by rfl) (hline : (apos.endLine == pos.line) = true := by rfl) :
    SEb C X W (.Call (.Attribute o "split" apos) [e] [] pos) (cSplit mo me) := by
  refine PEb.weak (peb_m1 (r := fun x xs H Q => ∃ a b, x = .str a ∧ xs = [.str b] ∧ (b.length == 0) = false ∧ a.length + 2 ≤ sizeLine ∧ rNewStrs (Txt.split a b) H Q) F.slot_str_split F.type_str_split mt_split ho he hs hbase hline) fun σ H Q ⟨Z, M, env, h, s, g⟩ => ?_
  refine tE.step s g fun M1 H1 h1 x v e1 s1 r1 g1 => ?_
  cases r1 with
  | str a =>
    refine ⟨⟨a, rfl⟩, tE.step s1 g1 fun M2 H2 h2 y w e2 s2 r2 g2 => ?_⟩
    cases r2 with
    | str b =>
      cases hb : decide (0 < b.length) && decide (a.length + 2 ≤ sizeLine) with
      | false => dsimp only at g2; rw [hb] at g2; exact False.elim g2
      | true =>
        dsimp only at g2
        rw [hb] at g2
        rw [Bool.and_eq_true, decide_eq_true_eq, decide_eq_true_eq] at hb
        exact ⟨a, b, rfl, rfl, ne0_of hb.1, hb.2, fun p hp => Got.laid g2 s2 hp (newLst s2.sh (reps_strs _) hp)⟩
    | _ => exact False.elim g2
  | _ => exact False.elim g1
theorem repl_step {y z : Str} {σ : L2.St} {H : Hp} {Q : VK} (t : tE X.K C X.pn W (cRepl y z mo) σ H Q) : CwR.tReplC (tE X.K C X.pn W mo) y z σ H Q := by
  obtain ⟨Z, M, env, h, s, g⟩ := t
  refine tE.step s g fun M1 H1 h1 x v e1 s1 r1 g1 => ?_
  cases r1 with
  | str a =>
    dsimp only at g1
    cases hb : decide (a.length + (a.length + 1) * z.length ≤ 16777216) with
    | false => rw [hb] at g1; exact False.elim g1
    | true => rw [hb] at g1; exact ⟨a, rfl, of_decide_eq_true hb, Got.now g1 s1 _ (.str _)⟩
  | _ => exact False.elim g1
/-- o.replace(y, z), a token is out behind o -/
theorem se_replB {y z : Str} {j k : Nat} {c0 c1 : Pos} (ho : SEb C X W o mo) (hyz : (y == z) = false := by decide)
    (hst : starEach [.Constant (.str y) j c0, .Constant (.str z) k c1] X.env = [(false, eval (.Constant (.str y) j c0) X.env), (false, eval (.Constant (.str z) k c1) X.env)] := by rfl)
    (hbase : attributeBase o "replace" X.env (eval o X.env) = eval o X.env := by rfl) (hline : (apos.endLine == pos.line) = true := by rfl) :
    SE C X W (.Call (.Attribute o "replace" apos) [.Constant (.str y) j c0, .Constant (.str z) k c1] [] pos) (cRepl y z mo) := PE.weak (pe_replB ho hyz hst hbase hline) fun σ H Q t => repl_step t

/-! ### a token is out -/
def SET (C : List (V × D)) (X : Cx) (W : WX) (e : Expr) (m : ME) : Prop := PET X e (tE X.K C X.pn W m)
def SAT (C : List (V × D)) (X : Cx) (W : WX) (es : List Expr) (m : MA) : Prop := PAT X es (tA X.K C X.pn W m)
def SST (C : List (V × D)) (X : Cx) (W : WX) (st : Stmt) (m : MS) : Prop := PST X st (tS X.K C X.pn W m)
def SBT (C : List (V × D)) (X : Cx) (W : WX) (st : List Stmt) (m : MS) : Prop := PSsT X st (tS X.K C X.pn W m)
theorem set_of (h : SE C X W e me) : SET C X W e me := CwR.PET.of h
theorem set_repl {y z : Str} {j k : Nat} {c0 c1 : Pos} (ho : SE C X W o mo) (hyz : (y == z) = false := by decide)
    (hst : starEach [.Constant (.str y) j c0, .Constant (.str z) k c1] X.env = [(false, eval (.Constant (.str y) j c0) X.env), (false, eval (.Constant (.str z) k c1) X.env)] := by rfl)
    (hbase : attributeBase o "replace" X.env (eval o X.env) = eval o X.env := by rfl) (hline : (apos.endLine == pos.line) = true := by rfl) :
    SET C X W (.Call (.Attribute o "replace" apos) [.Constant (.str y) j c0, .Constant (.str z) k c1] [] pos) (cRepl y z mo) := fun pins s σ H Q h0 I t => CwR.pet_replC ho hyz hst hbase hline pins s σ H Q h0 I (repl_step t)
theorem set_op {op : Operator} {r : R2} {f : D → D → List D → R D} (ho : OpR X (binaryOp op) r) (k : Ok2 C X.K r f) (ha : SET C X W a ma) (hb : SET C X W b mb) : SET C X W (.BinOp a op b pos) (c2 f ma mb) :=
  fun pins s σ H Q h0 I t => CwR.pet_op ho ha hb pins s σ H Q h0 I (t2_of k t)
theorem sat_nil : SAT C X W [] aNil := fun pos pins s σ H Q h0 I ⟨Z, M, env, h, sr, g⟩ => pat_nil pos pins s σ H Q h0 I (Got.now g sr [] Reps.nil)
theorem sat_cons {es : List Expr} {t : MA} (ha : SET C X W e me) (hr : SAT C X W es t) (hs : starEach (e :: es) X.env = (false, eval e X.env) :: starEach es X.env := by rfl) : SAT C X W (e :: es) (aCons me t) := by
  intro pos pins s σ H Q h0 I ⟨Z, M, env, h, sr, g⟩
  refine pat_cons ha hr hs pos pins s σ H Q h0 I ?_
  refine tE.step sr g fun M1 H1 h1 d v e1 s1 r1 g1 => ?_
  refine tA.step s1 g1 fun M2 H2 h2 ds vs e2 s2 r2 g2 => ?_
  exact Got.now g2 s2 _ (Reps.cons (r1.mono e2) r2)
theorem set_lst {es : List Expr} {t : MA} (ha : SAT C X W es t) : SET C X W (.List es pos) (cLst t) := by
  intro pins s σ H Q h0 I ⟨Z, M, env, h, sr, g⟩
  refine pet_lst ha pins s σ H Q h0 I ?_
  refine tA.step sr g fun M1 H1 h1 ds vs e1 s1 r1 g1 => ?_
  by_cases hz : ds.length ≤ sizeLine
  · rw [if_pos hz] at g1
    exact ⟨r1.1 ▸ hz, fun p hp => g1 M1 _ (Evo.laid hp) (s1.later (Evo.laid hp) (s1.sh.laid hp)) _ (newLst s1.sh r1 hp)⟩
  · rw [if_neg hz] at g1
    exact False.elim g1
theorem sst_of {st : Stmt} {m : MS} (h : SS C X W st m) : SST C X W st m := PST.of h
theorem sst_ret (he : SET C X W e me) : SST C X W (.Return (some e) pos) (sRet me) := by
  intro pins s σ H D h0 I ⟨Z, M, env, h, sr, g⟩
  refine CwR.pst_ret he pins s σ H D h0 I ?_
  exact tE.stepS sr g fun M1 H1 h1 d v e1 s1 r1 g1 => g1 M1 H1 v (.refl M1 H1) s1.sh r1
theorem sst_set {i : Nat} {x : Str} {pos' : Pos} (hN : X.N.Nodup) (hi : X.N[i]? = some x) (hx : Loc X.env.scope x) (he : SET C X W e me) (hs : swapsWith e (some (.Name x pos')) pos.line X.env = pure false := by rfl)
    (hf : X.fn x = true ∨ X.env.scope.names.lookup x = some .local := by first | exact .inl rfl | exact .inr rfl | assumption) : SST C X W (.Assign [.Name x pos'] e pos) (sSet i me) := by
  intro pins s σ H D h0 I ⟨Z, M, env, h, sr, g⟩
  refine wpAny_Assign_Name (thn (he pins s σ H (fun v H1 => D.nx (σ.set i (some v)) H1) h0 I ?_) fun v s1 ⟨y, H1, I1, r1, q1⟩ => ?_) hs
  · exact tE.stepS sr g fun M1 H1 h1 d v e1 s1 r1 g1 => g1 M1 _ H1 (.refl M1 H1) (s1.set r1)
  · exact store_ok I1 hN hi hx r1 (fun s2 I2 => ⟨_, H1, I2, q1⟩) hf
theorem sbt_of {st : List Stmt} {m : MS} (h : SB C X W st m) : SBT C X W st m := PSsT.of h
theorem seq_step {a b : MS} {D : Ends} {σ : L2.St} {H : Hp} (t : tS X.K C X.pn W (sSeq a b) D σ H) : tSeq (tS X.K C X.pn W a) (tS X.K C X.pn W b) D σ H := by
  obtain ⟨Z, M, env, h, s, g⟩ := t
  refine ⟨Z, M, env, h, s, ?_⟩
  unfold sSeq at g
  cases e : a env h with
  | nx env' h' =>
    rw [e] at g
    exact fun M' σ' H' ev s' => ⟨Z, M', env', h', s', GotS.later ev g⟩
  | br env' h' => rw [e] at g; exact g
  | ct env' h' => rw [e] at g; exact g
  | rt d h' => rw [e] at g; exact g
  | exc c ns ds env' h' => rw [e] at g; exact g
  | bad => rw [e] at g; exact g
theorem sbt_cons {st : Stmt} {rest : List Stmt} {a b : MS} (h1 : SST C X W st a) (h2 : SBT C X W rest b) : SBT C X W (st :: rest) (sSeq a b) :=
  fun pins s σ H D h0 I t => psst_cons h1 h2 pins s σ H D h0 I (seq_step t)
theorem sbt_one {st : Stmt} {a : MS} (h1 : SST C X W st a) : SBT C X W [st] a := CwR.psst_one h1
/-- x = e, behind e a token is out; the rest may want it -/
theorem sb_T {i : Nat} {x : Str} {pos' : Pos} {rest : List Stmt} {b : MS} (hN : X.N.Nodup) (hi : X.N[i]? = some x) (hx : Loc X.env.scope x) (he : SEb C X W e me) (h2 : SBT C X W rest b) (hs : swapsWith e (some (.Name x pos')) pos.line X.env = pure false := by rfl)
    (hf : X.fn x = true ∨ X.env.scope.names.lookup x = some .local := by first | exact .inl rfl | exact .inr rfl | assumption) : SB C X W (.Assign [.Name x pos'] e pos :: rest) (sSeq (sSet i me) b) := by
  refine ⟨fun pins s σ H D I t => ?_⟩
  have q := seq_step t
  obtain ⟨Z, M, env, h, sr, g⟩ := q
  refine wpAny_execs_cons (wpAny_Assign_Name (wpAny_mono (he pins s σ H (fun v H1 => tS X.K C X.pn W b D (σ.set i (some v)) H1) I ?_) (fun v s1 ⟨hk, y, H1, I1, r1, q1⟩ => ?_) fun _ _ z => z) hs)
  · exact tE.stepS sr g fun M1 H1 h1 d v e1 s1 r1 g1 => g1 M1 _ H1 (.refl M1 H1) (s1.set r1)
  · refine wpAny_mono (PySem.wpAny_toks (store_ok (Q := fun _ s2 => Inv X pins (σ.set i (some y)) H1 s2) I1 hN hi hx r1 (fun _ I2 => I2) hf)) (fun _ s2 q => ?_) fun _ _ z => z.2
    exact h2 pins s2 _ H1 D (Nat.le_trans hk q.1) q.2 q1
end
/-- o.f, a property: a token is out -/
theorem seb_prop {X : Cx} {W : WX} {pos : Pos} {o : Expr} {mo : ME} {c f : Str} {p gt : Addr} {k : Nat} {F : FF} (ho : SE [] X W o mo) (cl : Cls X.K (He.ga X.K c)) (hp : PropOf X.K (He.ga X.K c) f p gt) (i : Is X.prog X.w X.K X.mg X.base k gt ["self"] F) (hr : RG (k + 1) X.A)
    (hab : attributeBase o f X.env (eval o X.env) = eval o X.env := by rfl) : SEb [] X W (.Attribute o f pos) (cProp c F mo) := by
  intro pins s σ H Q I ⟨Z, M, env, h, sr, g⟩
  obtain ⟨fd, FO, hb, hkp, hlen⟩ := i
  refine attr_of hab (thn (ho.run pins s σ H (fun x H1 => ∃ M1 d h1, SR X.K [] X.pn Z M1 env h1 σ H1 ∧ Rep X.K (zn Z M1) M1 H1 d x ∧ Got X.K [] X.pn Z W σ env M1 H1 (match objOf h1 d with
    | some (c', _, _) => bif decide (c' = c) then (F [d] h1).noexc else .bad
    | none => .bad) (fun M' H' d => ∀ v, Rep X.K (zn Z M') M' H' d v → Q v H')) I (tE.step sr g fun M1 H1 h1 d v e1 s1 r1 g1 => ⟨M1, d, h1, s1, r1, g1⟩)) fun u s1 ⟨x, H1, I1, rx, M1, d, h1, sr1, r1, g1⟩ => ?_)
  cases eo : objOf h1 d with
  | none => rw [eo] at g1; exact False.elim g1
  | some q =>
    obtain ⟨c', ns, ds⟩ := q
    rw [eo] at g1
    dsimp only at g1
    cases ec : decide (c' = c) with
    | false => rw [ec] at g1; exact False.elim g1
    | true =>
      rw [ec, cond_true] at g1
      obtain rfl := of_decide_eq_true ec
      obtain ⟨a, dx, fs, rfl, ea, _⟩ := objOf_rep sr1.sh eo r1
      obtain rfl : u = Value.ref a := rx
      obtain ⟨mA, O, _, _, _, _⟩ := ins_get I1.hok ea
      obtain ⟨od, J, _⟩ := O.look
      obtain ⟨rest, hrec⟩ := hp.rec_
      have I2 := I1.tok (s1.toks + 1)
      have hc : (PySem.W.clsIn X.K (He.ga X.K c')).isSome = true := by
        obtain ⟨cd, hc, _⟩ := PySem.W.any_some cl.hd
        rw [hc]
        rfl
      have hq : spI X.K [] 1 F [V.ref a] H1 Q (fun _ _ _ => False) := by
        refine ⟨Z, M1, h1, [d], sr1.sh, Reps.cons r1 Reps.nil, rfl, ?_⟩
        cases eF : F [d] h1 with
        | bad => rw [eF] at g1; exact g1
        | exc c' ns ds h2 => rw [eF] at g1; exact False.elim g1
        | ok z h2 =>
          rw [eF] at g1
          intro M' H' v ev sh' rv
          exact g1 M' H' ev (sr1.later ev sh') v rv
      refine PySem.W.get_bind I1.kIn J (PySem.W.plainGet_of (cl.get f)).1 (PySem.W.findObj_data hc hp.at_ hp.get hp.tak) (PySem.W.plainGet_of (cl.get f)).2 (PySem.wpAny_with_toks (n := 1) (by show 1 ≤ s1.toks + 1; omega) (wpAny_call (PySem.W.prop_get (s := { s1 with toks := s1.toks + 1 }) I1.kIn hrec ?_)))
      refine codeAny_mono (FO.run X.A.in1 X.stack { s1 with toks := s1.toks + 1 } H1 ⟨[.ref a], []⟩ [.ref a] [V.ref a] Q (fun _ _ _ => False) hr.in1 I2.env0.in1 (hb _ [.ref a] I2.kIn (by rw [List.append_nil]; rfl)) (.cons rfl .nil) hq) fun r s' hq' => ?_
      cases r with
      | error er =>
        obtain ⟨_, _, _, _, _, _, _, _, _, _, _, _, z⟩ := (show L2.CX X.prog X.w X.stack H1 { s1 with toks := s1.toks + 1 } (fun _ _ _ => False) er s' from hq')
        exact z.elim
      | ok fl =>
        cases fl with
        | ret u =>
          obtain ⟨v, H', I3, rv, q3⟩ := I2.after hq'
          intro hk
          show wpAny _ _ (handedOut u) _ _ _
          rw [PySem.W.handedOut_of (handed_of rv)]
          exact wpAny_pure ⟨hk, v, H', I3, rv, q3⟩
        | next => exact False.elim hq'
        | brk => exact False.elim hq'
        | cont => exact False.elim hq'
end G

set_option Elab.async false
set_option linter.all false
set_option maxRecDepth 100000
set_option maxHeartbeats 4000000
/-! G26: defs with keyword-only parameters that have defaults. -/
namespace G
open PySem PySem.Spec PyProof.Rows L2
/-- f is a def with F as its function of all parameters; n of them by position, the others (ks) are keyword-only, dd their defaults -/
def IsK (P : Program) (w : World) (K : PySem.W.Frag) (mg : Str → Option Value) (base : Heap) (k : Nat) (f : Addr) (ps : List Str) (n : Nat) (ks : List Str) (dd : List D) (F : FF) : Prop :=
  ∃ fd, FnG P w K mg base (L2.CX P w) k f fd ps (spI K [] ps.length F) ∧ (∃ (ds : List Value) (dvs : List V), Vals dvs ds ∧ Binds K fd ps ds ∧ ∀ Z M H, Reps K Z M H dd dvs) ∧ KBn K fd ps (n + 1) ks (fun us ws => us ++ ws) (fun vs zs => vs ++ zs) ∧ ps.length = n + 1 + ks.length ∧ PySem.W.keepIn K (.ref f) = true ∧ ∀ d h, F d h ≠ .bad → d.length = ps.length
section
variable {X : Cx} {W : WX} {k n : Nat} {c : Str} {f : Addr} {ps ks : List Str} {dd : List D} {F : FF}
/-- C(..): all defaults -/
theorem IsK.mk (i : IsK X.prog X.w X.K X.mg X.base k f ps n ks dd F) (tk : Takes X W) (MK : Mk X.K (He.ga X.K c) f) (hr : RG (k + 1) X.A) : Cal [] X W (.ref (He.ga X.K c)) (mkF c fun es h => F (es ++ dd) h) := by
  obtain ⟨fd, FO, ⟨ds, dvs, r, hb, rp⟩, _, _, _, hn⟩ := i
  exact cal_make (C := []) tk MK FO hr hb r dd rp hn
/-- C(.., **d) -/
theorem IsK.mkK (i : IsK X.prog X.w X.K X.mg X.base k f ps n ks dd F) (tk : Takes X W) (MK : Mk X.K (He.ga X.K c) f) (hr : RG (k + 1) X.A) : CalK [] X W (.ref (He.ga X.K c)) n ks (mkF c F) := by
  obtain ⟨fd, FO, _, kb, hl, _, _⟩ := i
  exact cal_makeK tk MK FO hr kb hl
end
theorem reps_dc {K : PySem.W.Frag} {Z : Addr → Prop} {M : List Addr} {H : Hp} (l : List Dc) : Reps K Z M H (l.map Dc.d) (l.map Dc.v) := by
  refine ⟨by simp, fun i d v h1 h2 => ?_⟩
  rw [List.getElem?_map] at h1 h2
  cases hi : l[i]? with
  | none => rw [hi] at h1; cases h1
  | some c => rw [hi] at h1 h2; cases h1; cases h2; exact c.rep
/-- a def by its body's judgement; kws: the keyword-only parameters and their defaults -/
theorem isk_mk {P : Program} {w : World} {K : PySem.W.Frag} {mg : Str → Option Value} {base : Heap} {x qual : Str} {params : Arguments} {body : List Stmt} {scope : Scope} {f : Addr} {fd : FuncData} {N ps : List Str} {k n : Nat} {kws : List (Str × Dc)} {m : MS}
    (F : FunD K x qual params body scope [] (kws.map fun q => (q.1, q.2.v)) f fd) (S : FnScope N ps scope) (hk : kws ≠ []) (hl : ps.length = n + 1 + kws.length)
    (hb : ∀ (D : Addr) (doc pm : Value) (an : Option Addr) (cdv ct : Value) (us ks : List Value), us.length = n + 1 → ks.length = kws.length → KwChain D ((kws.map (·.1)).zip ks) (bindArgs (PySem.W.fnOf x qual params body scope .none (.ref D) doc pm an cdv ct) ⟨us, []⟩) (ps.zip (us ++ ks)))
    (hw : ∀ (D : Addr) (doc pm : Value) (an : Option Addr) (cdv ct : Value) (us ws : List Value), us.length = n + 1 → ws.length = kws.length → bindArgs (PySem.W.fnOf x qual params body scope .none (.ref D) doc pm an cdv ct) ⟨us, (kws.map (·.1)).zip ws⟩ = pure (ps.zip (us ++ ws)))
    (h : ∀ (cdv : Value) (A : Around) (outer : List Env) (s : Shared) (H : Hp) (E : XK) (W : WX), RG k (A.deeper (envOfC qual scope s.heap.objs.size f cdv)) → Takes (cxOf (L2.CX P w) P w K mg base N qual scope f cdv A outer s H E) W → SB [] (cxOf (L2.CX P w) P w K mg base N qual scope f cdv A outer s H E) W body m) :
    IsK P w K mg base (k + 1) f ps n (kws.map (·.1)) (kws.map fun q => q.2.d) (runF m ps.length N.length) := by
  have e1 : (kws.map fun q => (q.1, q.2.v)).map (·.1) = kws.map (·.1) := by rw [List.map_map] <;> rfl
  have e2 : (kws.map fun q => (q.1, q.2.v)).map (·.2) = (kws.map (·.2)).map Dc.v := by rw [List.map_map, List.map_map] <;> rfl
  have e3 : (kws.map fun q => q.2.d) = (kws.map (·.2)).map Dc.d := by rw [List.map_map] <;> rfl
  have hk' : (kws.map fun q => (q.1, q.2.v)) ≠ [] := fun z => hk (List.map_eq_nil_iff.mp z)
  refine ⟨fd, fn_mk F S h, ?_, ?_, by rw [List.length_map]; exact hl, F.kp, fun d h e => runF_len e⟩
  · obtain ⟨ds, r, b⟩ := F.binds0 (ps := ps) (n + 1) hk' (by rw [List.length_map, hl]) (fun D doc pm an cdv ct us ks h1 h2 => by rw [e1]; exact hb D doc pm an cdv ct us ks h1 (by simpa using h2))
    rw [e2] at r
    refine ⟨ds, _, r, b, fun Z M H => ?_⟩
    rw [e3]
    exact reps_dc _
  · obtain ⟨mv, b⟩ := F.kbinds0 (ps := ps) (n + 1) (kws.map (·.1)) [] (fun us _ ws => us ++ ws) hk' (fun q hq => by cases hq) (fun r1 _ r3 => r1.append r3) (fun D doc pm an cdv ct us mv ws h1 _ h3 => hw D doc pm an cdv ct us ws h1 (by simpa using h3))
    exact b
end G

set_option Elab.async false
set_option linter.all false
set_option maxRecDepth 100000
set_option maxHeartbeats 4000000
/-! G27: the head's facts, with defs that stand elsewhere (a property's getter). -/
namespace G
open PySem PySem.Spec PyProof.Rows L2
structure DefZ where
  at_ : PySem.W.Frag → Addr
  d : He.DefD
def fnWA (K : PySem.W.Frag) (a : Addr) : He.FnW := match K.lookup a with
  | some ⟨_, _, .func fd, _⟩ => some (fd.name, fd.qualname, fd.params, fd.body, fd.scope, fd.globals, fd.closure, fd.builtins)
  | _ => none
def okA (K : PySem.W.Frag) (a : Addr) (d : He.DefD) : Bool := PySem.W.keepIn K (.ref a) && (match K.lookup a with
  | some ⟨_, _, .func fd, _⟩ => PySem.W.codeIn K fd.code d.qual && (He.dflB K fd.defaults (d.dvs K) && He.kwdB K fd.kwdefaults (d.kws K))
  | _ => false)
theorem funD_at {K : PySem.W.Frag} {a : Addr} {d : He.DefD} (e : fnWA K a = d.val) (c : okA K a d = true) : ∃ fd, FunD K d.name d.qual d.params d.body d.scope (d.dvs K) (d.kws K) a fd := by
  unfold okA at c
  rw [Bool.and_eq_true] at c
  obtain ⟨kp, c2⟩ := c
  unfold fnWA at e
  cases q : K.lookup a with
  | none =>
    rw [q] at c2
    cases c2
  | some o =>
    obtain ⟨oc, od, dt, osl⟩ := o
    rw [q] at c2 e
    cases dt with
    | func fd =>
      obtain ⟨n1, n2, n3, n4, n5, n6, n7, n8, n9, n10, n11, n12, n13, n14, n15⟩ := fd
      have e2 : (some (n1, n2, n3, n4, n5, n6, n7, n15) : He.FnW) = some (d.name, d.qual, d.params, .stmts d.body, d.scope, mainGlobals, [], builtinsNs) := e
      simp only [Option.some.injEq, Prod.mk.injEq] at e2
      obtain ⟨h1, h2, h3, h4, h5, h6, h7, h8⟩ := e2
      subst h1 h2 h3 h4 h5 h6 h7 h8
      have c3 : (PySem.W.codeIn K n13 d.qual && (He.dflB K n8 (d.dvs K) && He.kwdB K n9 (d.kws K))) = true := c2
      rw [Bool.and_eq_true, Bool.and_eq_true] at c3
      obtain ⟨k1, k3, k4⟩ := c3
      exact ⟨_, ⟨oc, od, n8, n9, n10, n11, n12, n13, n14, osl, rfl, q, k1, He.dflB_ok k3, He.kwdB_ok k4⟩, kp⟩
    | _ => cases c2
def exZ (fz : List DefZ) (ex : PySem.W.Frag → Bool) (K : PySem.W.Frag) : Bool := ex K && fz.all fun d => okA K (d.at_ K) d.d
abbrev AlZ : Type := He.AlX × List He.FnW
structure SaysZ (fa : List He.Fa) (fn : List He.DefD) (fz : List DefZ) (ts : List He.Tab) (ex : PySem.W.Frag → Bool) (w : World) (K : PySem.W.Frag) : Prop where
  y : SaysY fa fn ts (exZ fz ex) w K
  z : (fz.map fun d => fnWA K (d.at_ K)) = fz.map fun d => d.d.val
def valZ (fn : List He.DefD) (fz : List DefZ) (ts : List He.Tab) (w : World) : AlZ := (He.valX fn ts w, fz.map fun d => d.d.val)
def obsZ (n : Nat) (fa : List He.Fa) (fn : List He.DefD) (fz : List DefZ) (ts : List He.Tab) (ex : PySem.W.Frag → Bool) (g : Addr → Option Obj) : AlZ := (obsY n fa fn ts (exZ fz ex) g, fz.map fun d => fnWA (frY g n) (d.at_ (frY g n)))
def hookZ (n : Nat) (fa : List He.Fa) (fn : List He.DefD) (fz : List DefZ) (ts : List He.Tab) (ex : PySem.W.Frag → Bool) : PySem.W.Hook where
  α := AlZ
  obs := fun s => obsZ n fa fn fz ts ex s.heap.get?
  val := fun w => valZ fn fz ts w
  says := fun w h => ∃ K : PySem.W.Frag, K.In h ∧ SaysZ fa fn fz ts ex w K
  of := fun w s e => ⟨frY s.heap.get? n, He.frG_in, ⟨congrArg (fun z : AlZ => z.1.1) e, congrArg (fun z : AlZ => z.1.2) e⟩, congrArg (fun z : AlZ => z.2) e⟩
  keeps := fun _ _ _ ⟨K, hK, c⟩ k => ⟨K, PySem.W.Frag.In.keeps hK k, c⟩
theorem obsZ_eq {n : Nat} {fa : List He.Fa} {fn : List He.DefD} {fz : List DefZ} {ts : List He.Tab} {ex : PySem.W.Frag → Bool} {g : Addr → Option Obj} {s : Shared} (h : ∀ a, g a = s.heap.get? a) : obsZ n fa fn fz ts ex g = (hookZ n fa fn fz ts ex).obs s := by
  have e : g = s.heap.get? := funext h
  rw [e] <;> rfl
section
variable {fa : List He.Fa} {fn : List He.DefD} {fz : List DefZ} {ts : List He.Tab} {ex : PySem.W.Frag → Bool} {w : World} {K : PySem.W.Frag}
theorem SaysZ.more (c : SaysZ fa fn fz ts ex w K) : ex K = true := (Bool.and_eq_true_iff.mp (show (ex K && fz.all fun d => okA K (d.at_ K) d.d) = true from c.y.more)).1
theorem SaysZ.defz (c : SaysZ fa fn fz ts ex w K) (i : Nat) {d : DefZ} (h : fz[i]? = some d) : ∃ fd, FunD K d.d.name d.d.qual d.d.params d.d.body d.d.scope (d.d.dvs K) (d.d.kws K) (d.at_ K) fd := by
  have c2 := (Bool.and_eq_true_iff.mp (show (ex K && fz.all fun d => okA K (d.at_ K) d.d) = true from c.y.more)).2
  have e2 : (fz.map fun d => fnWA K (d.at_ K))[i]? = (fz.map fun d => d.d.val)[i]? := by rw [c.z]
  rw [List.getElem?_map, List.getElem?_map, h] at e2
  exact funD_at (Option.some.inj e2) (List.all_eq_true.mp c2 d (List.mem_of_getElem? h))
end
end G

set_option Elab.async false
set_option linter.all false
set_option maxRecDepth 100000
set_option maxHeartbeats 4000000
/-! G28: isinstance's tables as Bools. -/
namespace G
open PySem PySem.Spec PyProof.Rows L2
def isiT (tys : List (String × Bool)) (own : List (Str × Bool)) : List (Tk × Bool) := (tys.map fun p => (.inl p.1, p.2)) ++ own.map fun p => (.inr p.1, p.2)
def isiB (K : PySem.W.Frag) (tys : List (String × Bool)) (own : List (Str × Bool)) (us : List Value) : Bool := (own.all fun p => kcB K (He.ga K p.1)) && (isiT tys own).all fun q => decide (PySem.W.kitAny K (tkV K q.1) us = some q.2)
def isiB1 (K : PySem.W.Frag) (tys : List (String × Bool)) (own : List (Str × Bool)) (u : Value) : Bool := (own.all fun p => kcB K (He.ga K p.1)) && (isiT tys own).all fun q => decide (PySem.W.kitOne K (tkV K q.1) u = some q.2)
theorem isi_tk {K : PySem.W.Frag} {tys : List (String × Bool)} {own : List (Str × Bool)} (h : (own.all fun p => kcB K (He.ga K p.1)) = true) (hc : ∀ p ∈ own, Cls K (He.ga K p.1)) {q : Tk × Bool} (hq : q ∈ isiT tys own) : TkOk K q.1 := by
  unfold isiT at hq
  rcases List.mem_append.mp hq with hq | hq
  · obtain ⟨p, _, rfl⟩ := List.mem_map.mp hq
    exact True.intro
  · obtain ⟨p, hp, rfl⟩ := List.mem_map.mp hq
    exact kcB_ok (hc p hp) (List.all_eq_true.mp h p hp)
theorem isi_any {K : PySem.W.Frag} {tys : List (String × Bool)} {own : List (Str × Bool)} {us : List Value} (h : isiB K tys own us = true) (hc : ∀ p ∈ own, Cls K (He.ga K p.1)) : ∀ q ∈ isiT tys own, TkOk K q.1 ∧ PySem.W.kitAny K (tkV K q.1) us = some q.2 := fun q hq => by
  unfold isiB at h
  rw [Bool.and_eq_true] at h
  exact ⟨isi_tk h.1 hc hq, of_decide_eq_true (List.all_eq_true.mp h.2 q hq)⟩
theorem isi_one {K : PySem.W.Frag} {tys : List (String × Bool)} {own : List (Str × Bool)} {u : Value} (h : isiB1 K tys own u = true) (hc : ∀ p ∈ own, Cls K (He.ga K p.1)) : ∀ q ∈ isiT tys own, TkOk K q.1 ∧ PySem.W.kitOne K (tkV K q.1) u = some q.2 := fun q hq => by
  unfold isiB1 at h
  rw [Bool.and_eq_true] at h
  exact ⟨isi_tk h.1 hc hq, of_decide_eq_true (List.all_eq_true.mp h.2 q hq)⟩
theorem no_own {K : PySem.W.Frag} : ∀ p ∈ ([] : List (Str × Bool)), Cls K (He.ga K p.1) := fun _ h => absurd h List.not_mem_nil
end G

set_option Elab.async false
set_option linter.all false
set_option maxRecDepth 100000
set_option maxHeartbeats 4000000
/-! G29: name = {.. for ..} on one line. -/
namespace G
open PySem PySem.Spec PyProof.Rows L2
theorem sw_trueD {kx vx : Expr} {gs : List Comprehension} {scope : Scope} {pos py : Pos} {y : Str} {l : Nat} {env : Env} (hk : env.scope.kind = .function) (hy : env.scope.names.lookup y = some .local) (hl : (py.line == pos.line) = true)
    (ha : (scope.names.any fun (n, k) => n == y && (k == .local || k == .cell)) = false) : swapsWith (.DictComp kx vx gs scope pos) (some (.Name y py)) l env = pure true := by
  have ky : env.kindOf y = some .local := hy
  have hb : env.blockKind = .function := by unfold Env.blockKind; rw [hk]; rfl
  unfold swapsWith
  simp only [hb, ky, ha, Expr.pos, hl]
  rfl
theorem ps_setDc {X : Cx} {i : Nat} {y : Str} {py : Pos} {kx vx tg iter : Expr} {ifs : List Expr} {scope : Scope} {own : List (Str × Nat)} {pos spos : Pos} {wi : TI} {g : TG} {tt : TT} {tk tv : TE} (hc : X.calm = true) (hN : X.N.Nodup) (hy : X.N[i]? = some y) (hyl : X.env.scope.names.lookup y = some .local)
    (hsw : swapsWith (.DictComp kx vx [⟨tg, iter, ifs, 0⟩] scope pos) (some (.Name y py)) spos.line X.env = pure true) (hi : PI X tg iter wi) (ok : BlkOk X.N X.env.scope scope own)
    (hg : ∀ (s : Shared) (H : Hp) (C : Addr) (cl : List (Str × Addr)) (fp : List Addr), PG (X.blk s H scope (compEnvC scope cl C X.env) fp) tg g) (ht : ∀ (s : Shared) (H : Hp) (C : Addr) (cl : List (Str × Addr)) (fp : List Addr), PTs (X.blk s H scope (compEnvC scope cl C X.env) fp) ifs tt)
    (hk : ∀ (s : Shared) (H : Hp) (C : Addr) (cl : List (Str × Addr)) (fp : List Addr), PE (X.blk s H scope (compEnvC scope cl C X.env) fp) kx tk)
    (he : ∀ (s : Shared) (H : Hp) (C : Addr) (cl : List (Str × Addr)) (fp : List Addr), PE (X.blk s H scope (compEnvC scope cl C X.env) fp) vx tv) (hs : ∀ x, foldedSetIterable iter X.env x = pure x := by intro _; rfl) :
    PS X (.Assign [.Name y py] (.DictComp kx vx [⟨tg, iter, ifs, 0⟩] scope pos) spos) (tAsg (tDc wi g tt tk tv (own.map (·.2))) (gName i)) := by
  refine ⟨fun pins s σ H D I h => ?_⟩
  rw [exec_Assign_Name_used _ _ _ _ hsw]
  refine wpAny_bind (wpAny_standAt (wpAny_bind ?_))
  show wpAny _ X.A (do let _ ← comprehension (.DictComp kx vx [⟨tg, iter, ifs, 0⟩] scope pos) scope X.env (firstIterPos [⟨tg, iter, ifs, 0⟩] pos) newDict false (eval iter X.env) (some (assign (.Name y py) X.env))) _ _ s
  have h : tDc wi g tt tk tv (own.map (·.2)) σ H (fun x H1 => gName i x σ H1 D.nx) := h
  refine wpAny_bind (thn (dc_core (Qf := fun _ s' => SP X pins D .next s') hc hN I hi ok hg ht hk he hs h fun L C s' m H' I' q hn f => ?_) fun _ s' hq => wpAny_pure (wpAny_pure hq))
  show wpAny _ _ (assign (.Name y py) X.env (.ref L)) _ _ _
  refine wpAny_assign_Name (store_ok2 (v := V.ref L) I' hN hy (.inl hyl) rfl (fun s2 I2 ⟨a, sb, ha⟩ => ?_) (.inr hyl))
  obtain ⟨f0, f1, f2, f3, f4, f5⟩ := f
  have haC : C ≠ a := by
    rcases ha with z | z
    · rw [z]; exact f1
    · exact fun e => f4 y a z e.symm
  exact ⟨m, hn.sameBut sb haC, fun h3 sb3 => ⟨_, H', I2.turned (t' := s2.toks) (fun b o hb e => (sb3.2 b hb).trans e) f0 f1 f3 f4 f5, q⟩⟩
theorem ss_setDc {C : List (V × D)} {X : Cx} {W : WX} {i : Nat} {y : Str} {py : Pos} {kx vx tg iter : Expr} {ifs : List Expr} {scope : Scope} {own : List (Str × Nat)} {pos spos : Pos} {src : MA} {T : Asg} {ts : List Nat} {tt : MT} {mk mv : ME} (hc : X.calm = true) (hN : X.N.Nodup) (hy : X.N[i]? = some y) (hyl : X.env.scope.names.lookup y = some .local)
    (hsw : swapsWith (.DictComp kx vx [⟨tg, iter, ifs, 0⟩] scope pos) (some (.Name y py)) spos.line X.env = pure true) (hi : SI C X W tg iter src) (ok : BlkOk X.N X.env.scope scope own)
    (hg : ∀ (s : Shared) (H : Hp) (Ca : Addr) (cl : List (Str × Addr)) (fp : List Addr), SG C (X.blk s H scope (compEnvC scope cl Ca X.env) fp) tg T ts)
    (ht : ∀ (s : Shared) (H : Hp) (Ca : Addr) (cl : List (Str × Addr)) (fp : List Addr), STs C (X.blk s H scope (compEnvC scope cl Ca X.env) fp) (fun _ _ _ _ => False) ifs tt)
    (hk : ∀ (s : Shared) (H : Hp) (Ca : Addr) (cl : List (Str × Addr)) (fp : List Addr), SE C (X.blk s H scope (compEnvC scope cl Ca X.env) fp) (fun _ _ _ _ => False) kx mk)
    (he : ∀ (s : Shared) (H : Hp) (Ca : Addr) (cl : List (Str × Addr)) (fp : List Addr), SE C (X.blk s H scope (compEnvC scope cl Ca X.env) fp) (fun _ _ _ _ => False) vx mv)
    (sub : ∀ j ∈ ts, j ∈ own.map (·.2)) (hs : ∀ x, foldedSetIterable iter X.env x = pure x := by intro _; rfl) : SS C X W (.Assign [.Name y py] (.DictComp kx vx [⟨tg, iter, ifs, 0⟩] scope pos) spos) (sSet i (cDc src T tt mk mv (own.map (·.2)))) := by
  refine PS.weak (ps_setDc (g := tG X.K C [] T ts) (tt := tT X.K C [] (fun _ _ _ _ => False) tt) (tk := tE X.K C [] (fun _ _ _ _ => False) mk) (tv := tE X.K C [] (fun _ _ _ _ => False) mv) hc hN hy hyl hsw hi ok hg ht hk he hs) fun D' σ H ⟨Z, M, env, h, s, g⟩ => ?_
  exact dc_step sub (tE.stepS s g fun M1 H1 h1 d v e1 s1 r1 g1 => g1 M1 _ H1 (.refl M1 H1) (s1.set r1))
end G

set_option Elab.async false
set_option linter.all false
set_option maxRecDepth 100000
set_option maxHeartbeats 0
/-! the text of addednames_k82_books_and_places_as_texts: printed by gen.py -/
namespace G
open PySem PySem.Spec PyProof.Rows L2
def top (i : Nat) : Stmt := PySem.Challenge.pw_addednames_k82_books_and_places_as_texts.main.body.getD i (.Pass ⟨0, 0, 0, 0⟩)
def tb_PARTS : List (Str × Dk) := [("order", Dk.t [.str "own=named=all", .str "own=named all", .str "own=all named", .str "own named=all", .str "own named all", .str "own all named", .str "named=all own", .str "named own=all", .str "named own all", .str "all own=named", .str "all own named", .str "named all own", .str "all named own"]), ("given", Dk.t [.str "own", .str "both"]), ("alls", Dk.t [.str "use", .str "once", .str "first", .str "last"]), ("bodies", Dk.t [.str "ahead", .str "behind", .str "never"]), ("spreads", Dk.t [.str "member", .str "spread", .str "tie"]), ("near", Dk.t [.bl true, .bl false]), ("marks", Dk.t [.bl true, .bl false])]
def tb_NEARS : List (Str × Dk) := [("near", Dk.c (.bl true)), ("far", Dk.c (.bl false))]
def tb_MARKS : List (Str × Dk) := [("marked", Dk.c (.bl true)), ("free", Dk.c (.bl false))]
def tb_LENGTHS : List (Str × Dk) := [("name", Dk.c (.int 3)), ("member", Dk.c (.int 3)), ("spread", Dk.c (.int 4))]
def lcSc : Expr → Scope
  | .ListComp _ _ sc _ => sc
  | .DictComp _ _ _ sc _ => sc
  | _ => defScope (top 0)
def asgE : Stmt → Expr
  | .Assign _ e _ => e
  | _ => .Name "" ⟨0, 0, 0, 0⟩
def io0_t : List (String × Bool) := []
def io0_o : List (Str × Bool) := [("Book", true)]
def io1_t : List (String × Bool) := [("bool", true), ("int", false), ("str", true), ("NoneType", false)]
def io1_o : List (Str × Bool) := []
def io2_t : List (String × Bool) := [("NoneType", false), ("bool", false), ("int", false), ("str", true), ("tuple", false), ("list", false), ("dict", false)]
def io2_o : List (Str × Bool) := [("Book", false)]
def kws_Book___init__ : List (Str × Dc) := [("order", .str "own named all"), ("given", .str "own"), ("alls", .str "use"), ("bodies", .str "ahead"), ("spreads", .str "member"), ("near", .bl true), ("marks", .bl false)]
def ty_str : List (String × Bool) := [("NoneType", false), ("bool", false), ("int", false), ("str", true), ("tuple", false), ("list", false), ("dict", false)]
theorem tk_str : ∀ q ∈ ty_str, kitB q.1 "str" = some q.2 := by decide +kernel
def ty_tuple : List (String × Bool) := [("NoneType", false), ("bool", false), ("int", false), ("str", false), ("tuple", true), ("list", false), ("dict", false)]
theorem tk_tuple : ∀ q ∈ ty_tuple, kitB q.1 "tuple" = some q.2 := by decide +kernel
theorem bt_str : bootBuiltins "str" = some (.type "str") := by decide +kernel
theorem bt_bool : bootBuiltins "bool" = some (.type "bool") := by decide +kernel
theorem bt_int : bootBuiltins "int" = some (.type "int") := by decide +kernel
theorem bt_len : bootBuiltins "len" = some (.builtin "len") := by decide +kernel
theorem bt_sum : bootBuiltins "sum" = some (.builtin "sum") := by decide +kernel
theorem bt_abs : bootBuiltins "abs" = some (.builtin "abs") := by decide +kernel
theorem bt_all : bootBuiltins "all" = some (.builtin "all") := by decide +kernel
theorem bt_tuple : bootBuiltins "tuple" = some (.type "tuple") := by decide +kernel
theorem bt_list : bootBuiltins "list" = some (.type "list") := by decide +kernel
structure Ev (w : World) (K : PySem.W.Frag) (mg : Str → Option Value) : Prop where
  g_law : mg "law" = some (.ref (He.ga K "law"))
  d_Book___eq__ : ∃ fd, FunD K "__eq__" "Book.__eq__" (defArgs (inClass (top 17) 10)) (defBody (inClass (top 17) 10)) (defScope (inClass (top 17) 10)) [] [] (He.fAd K ("Book", some "__eq__")) fd
  d_law_book_text : ∃ fd, FunD K "_law_book_text" "_law_book_text" (defArgs (top 33)) (defBody (top 33)) (defScope (top 33)) [] [] (He.fAd K ("_law_book_text", none)) fd
  d_BadPart___init__ : ∃ fd, FunD K "__init__" "BadPart.__init__" (defArgs (inClass (top 3) 0)) (defBody (inClass (top 3) 0)) (defScope (inClass (top 3) 0)) [] [] (He.fAd K ("BadPart", some "__init__")) fd
  d_is_value : ∃ fd, FunD K "is_value" "is_value" (defArgs (top 16)) (defBody (top 16)) (defScope (top 16)) [] [] (He.fAd K ("is_value", none)) fd
  d_Book___init__ : ∃ fd, FunD K "__init__" "Book.__init__" (defArgs (inClass (top 17) 0)) (defBody (inClass (top 17) 0)) (defScope (inClass (top 17) 0)) [] (kws_Book___init__.map fun q => (q.1, q.2.v)) (He.fAd K ("Book", some "__init__")) fd
  d_is_book_part : ∃ fd, FunD K "is_book_part" "is_book_part" (defArgs (top 15)) (defBody (top 15)) (defScope (top 15)) [] [] (He.fAd K ("is_book_part", none)) fd
  d_Book_changed : ∃ fd, FunD K "changed" "Book.changed" (defArgs (inClass (top 17) 12)) (defBody (inClass (top 17) 12)) (defScope (inClass (top 17) 12)) [] [] (He.fAd K ("Book", some "changed")) fd
  d_law_made_book : ∃ fd, FunD K "_law_made_book" "_law_made_book" (defArgs (top 32)) (defBody (top 32)) (defScope (top 32)) [] [] (He.fAd K ("_law_made_book", none)) fd
  d_law_draw : ∃ fd, FunD K "_law_draw" "_law_draw" (defArgs (top 28)) (defBody (top 28)) (defScope (top 28)) [] [] (He.fAd K ("_law_draw", none)) fd
  d_law_pick : ∃ fd, FunD K "_law_pick" "_law_pick" (defArgs (top 29)) (defBody (top 29)) (defScope (top 29)) [] [] (He.fAd K ("_law_pick", none)) fd
  d_law_names_of : ∃ fd, FunD K "_law_names_of" "_law_names_of" (defArgs (top 30)) (defBody (top 30)) (defScope (top 30)) [] [] (He.fAd K ("_law_names_of", none)) fd
  d_law_pool_of : ∃ fd, FunD K "_law_pool_of" "_law_pool_of" (defArgs (top 27)) (defBody (top 27)) (defScope (top 27)) [] [] (He.fAd K ("_law_pool_of", none)) fd
  d_BadText___init__ : ∃ fd, FunD K "__init__" "BadText.__init__" (defArgs (inClass (top 4) 0)) (defBody (inClass (top 4) 0)) (defScope (inClass (top 4) 0)) [] [] (He.fAd K ("BadText", some "__init__")) fd
  d_book_from : ∃ fd, FunD K "book_from" "book_from" (defArgs (top 22)) (defBody (top 22)) (defScope (top 22)) [] [] (He.fAd K ("book_from", none)) fd
  d_read_book : ∃ fd, FunD K "read_book" "read_book" (defArgs (top 23)) (defBody (top 23)) (defScope (top 23)) [] [] (He.fAd K ("read_book", none)) fd
  d_is_name : ∃ fd, FunD K "is_name" "is_name" (defArgs (top 8)) (defBody (top 8)) (defScope (top 8)) [] [] (He.fAd K ("is_name", none)) fd
  d_is_place : ∃ fd, FunD K "is_place" "is_place" (defArgs (top 11)) (defBody (top 11)) (defScope (top 11)) [] [] (He.fAd K ("is_place", none)) fd
  d_read_place : ∃ fd, FunD K "read_place" "read_place" (defArgs (top 25)) (defBody (top 25)) (defScope (top 25)) [] [] (He.fAd K ("read_place", none)) fd
  d_law_refused : ∃ fd, FunD K "_law_refused" "_law_refused" (defArgs (top 34)) (defBody (top 34)) (defScope (top 34)) [] [] (He.fAd K ("_law_refused", none)) fd
  d_law_rules_of : ∃ fd, FunD K "_law_rules_of" "_law_rules_of" (defArgs (top 31)) (defBody (top 31)) (defScope (top 31)) [] [] (He.fAd K ("_law_rules_of", none)) fd
  d_law_spoilt : ∃ fd, FunD K "_law_spoilt" "_law_spoilt" (defArgs (top 35)) (defBody (top 35)) (defScope (top 35)) [] [] (He.fAd K ("_law_spoilt", none)) fd
  d_Book_alls : ∃ fd, FunD K "alls" "Book.alls" (defArgs (inClass (top 17) 3)) (defBody (inClass (top 17) 3)) (defScope (inClass (top 17) 3)) [] [] (prG K (He.ga K "Book") "alls") fd
  d_Book_bodies : ∃ fd, FunD K "bodies" "Book.bodies" (defArgs (inClass (top 17) 4)) (defBody (inClass (top 17) 4)) (defScope (inClass (top 17) 4)) [] [] (prG K (He.ga K "Book") "bodies") fd
  d_Book_given : ∃ fd, FunD K "given" "Book.given" (defArgs (inClass (top 17) 2)) (defBody (inClass (top 17) 2)) (defScope (inClass (top 17) 2)) [] [] (prG K (He.ga K "Book") "given") fd
  d_Book_marks : ∃ fd, FunD K "marks" "Book.marks" (defArgs (inClass (top 17) 7)) (defBody (inClass (top 17) 7)) (defScope (inClass (top 17) 7)) [] [] (prG K (He.ga K "Book") "marks") fd
  d_Book_near : ∃ fd, FunD K "near" "Book.near" (defArgs (inClass (top 17) 6)) (defBody (inClass (top 17) 6)) (defScope (inClass (top 17) 6)) [] [] (prG K (He.ga K "Book") "near") fd
  d_Book_order : ∃ fd, FunD K "order" "Book.order" (defArgs (inClass (top 17) 1)) (defBody (inClass (top 17) 1)) (defScope (inClass (top 17) 1)) [] [] (prG K (He.ga K "Book") "order") fd
  d_Book_spreads : ∃ fd, FunD K "spreads" "Book.spreads" (defArgs (inClass (top 17) 5)) (defBody (inClass (top 17) 5)) (defScope (inClass (top 17) 5)) [] [] (prG K (He.ga K "Book") "spreads") fd
  d_write_book : ∃ fd, FunD K "write_book" "write_book" (defArgs (top 21)) (defBody (top 21)) (defScope (top 21)) [] [] (He.fAd K ("write_book", none)) fd
  d_write_place : ∃ fd, FunD K "write_place" "write_place" (defArgs (top 24)) (defBody (top 24)) (defScope (top 24)) [] [] (He.fAd K ("write_place", none)) fd
  d_law : ∃ fd, FunD K "law" "law" (defArgs (top 36)) (defBody (top 36)) (defScope (top 36)) [] [] (He.fAd K ("law", none)) fd
  cls_Book : Cls K (He.ga K "Book")
  isi_io0_t_Book : ∀ q ∈ isiT io0_t io0_o, TkOk K q.1 ∧ PySem.W.kitOne K (tkV K q.1) (.ref (He.ga K "Book")) = some q.2
  g_Book : mg "Book" = some (.ref (He.ga K "Book"))
  n_isinstance : mg "isinstance" = none
  na_Book_parts : NoAttr K (He.ga K "Book") "parts"
  cr_NamesError : ClX.CRead K (He.ga K "NamesError") (.type "type")
  vv_NamesError : PySem.W.findCls K (.ref (He.ga K "NamesError")) (.type "type") "__init__" = some (.val (.builtin "ValueError.__init__"))
  g_NamesError : mg "NamesError" = some (.ref (He.ga K "NamesError"))
  isi_io1_t_str_bool : ∀ q ∈ isiT io1_t io1_o, TkOk K q.1 ∧ PySem.W.kitAny K (tkV K q.1) [.type "str", .type "bool"] = some q.2
  n_str : mg "str" = none
  n_bool : mg "bool" = none
  g_PARTS : mg "PARTS" = some (.ref (He.ga K "PARTS"))
  tbl_PARTS : Tbl K w (He.ga K "PARTS") (tb_PARTS.map fun q => (q.1, q.2.d))
  n_zip : mg "zip" = none
  kk_PARTS : KKeys K w (He.ga K "PARTS") (tb_PARTS.map (·.1))
  g_is_value : mg "is_value" = some (.ref (He.ga K "is_value"))
  kp_is_value : PySem.W.keepIn K (.ref (He.ga K "is_value")) = true
  me_BadPart_DinitD : Meth K (He.ga K "BadPart") "__init__" (He.ma K (He.ga K "BadPart") "__init__")
  oex_BadPart : OexC K (He.ga K "BadPart")
  hno_BadPart_part : PySem.W.findIn K (.ref (He.ga K "BadPart")) "part" = some none
  g_BadPart : mg "BadPart" = some (.ref (He.ga K "BadPart"))
  na_Book_rows : NoAttr K (He.ga K "Book") "rows"
  g_is_book_part : mg "is_book_part" = some (.ref (He.ga K "is_book_part"))
  kp_is_book_part : PySem.W.keepIn K (.ref (He.ga K "is_book_part")) = true
  mk_Book : Mk K (He.ga K "Book") (He.ma K (He.ga K "Book") "__init__")
  kp_Book : PySem.W.keepIn K (.ref (He.ga K "Book")) = true
  me_Book_changed : Meth K (He.ga K "Book") "changed" (He.ma K (He.ga K "Book") "changed")
  n_int : mg "int" = none
  n_len : mg "len" = none
  g_law_draw : mg "_law_draw" = some (.ref (He.ga K "_law_draw"))
  kp_law_draw : PySem.W.keepIn K (.ref (He.ga K "_law_draw")) = true
  g_law_pick : mg "_law_pick" = some (.ref (He.ga K "_law_pick"))
  kp_law_pick : PySem.W.keepIn K (.ref (He.ga K "_law_pick")) = true
  n_range : mg "range" = none
  n_sum : mg "sum" = none
  n_abs : mg "abs" = none
  g_NEARS : mg "NEARS" = some (.ref (He.ga K "NEARS"))
  tbl_NEARS : Tbl K w (He.ga K "NEARS") (tb_NEARS.map fun q => (q.1, q.2.d))
  g_MARKS : mg "MARKS" = some (.ref (He.ga K "MARKS"))
  tbl_MARKS : Tbl K w (He.ga K "MARKS") (tb_MARKS.map fun q => (q.1, q.2.d))
  n_all : mg "all" = none
  isi_io2_t_str : ∀ q ∈ isiT io2_t io2_o, TkOk K q.1 ∧ PySem.W.kitOne K (tkV K q.1) (.type "str") = some q.2
  g_book_from : mg "book_from" = some (.ref (He.ga K "book_from"))
  kp_book_from : PySem.W.keepIn K (.ref (He.ga K "book_from")) = true
  me_BadText_DinitD : Meth K (He.ga K "BadText") "__init__" (He.ma K (He.ga K "BadText") "__init__")
  oex_BadText : OexC K (He.ga K "BadText")
  hno_BadText_index : PySem.W.findIn K (.ref (He.ga K "BadText")) "index" = some none
  g_BadText : mg "BadText" = some (.ref (He.ga K "BadText"))
  i_MOST_LETTERS : ∃ t, mg "MOST_LETTERS" = some (.int 8 t)
  s_LETTERS : ∃ t, mg "LETTERS" = some (.str "abcdefghijklmnopqrstuvwxyz" t)
  n_tuple : mg "tuple" = none
  g_LENGTHS : mg "LENGTHS" = some (.ref (He.ga K "LENGTHS"))
  tbl_LENGTHS : Tbl K w (He.ga K "LENGTHS") (tb_LENGTHS.map fun q => (q.1, q.2.d))
  g_is_name : mg "is_name" = some (.ref (He.ga K "is_name"))
  kp_is_name : PySem.W.keepIn K (.ref (He.ga K "is_name")) = true
  g_is_place : mg "is_place" = some (.ref (He.ga K "is_place"))
  kp_is_place : PySem.W.keepIn K (.ref (He.ga K "is_place")) = true
  g_read_book : mg "read_book" = some (.ref (He.ga K "read_book"))
  kp_read_book : PySem.W.keepIn K (.ref (He.ga K "read_book")) = true
  g_read_place : mg "read_place" = some (.ref (He.ga K "read_place"))
  kp_read_place : PySem.W.keepIn K (.ref (He.ga K "read_place")) = true
  xm_BadText_NamesError : PySem.W.exmOne K (.ref (He.ga K "BadText")) (.ref (He.ga K "NamesError")) = some true
  xm_BadPart_NamesError : PySem.W.exmOne K (.ref (He.ga K "BadPart")) (.ref (He.ga K "NamesError")) = some true
  xm_NamesError_NamesError : PySem.W.exmOne K (.ref (He.ga K "NamesError")) (.ref (He.ga K "NamesError")) = some true
  xm_BadText_BadText : PySem.W.exmOne K (.ref (He.ga K "BadText")) (.ref (He.ga K "BadText")) = some true
  xm_BadPart_BadText : PySem.W.exmOne K (.ref (He.ga K "BadPart")) (.ref (He.ga K "BadText")) = some false
  xm_NamesError_BadText : PySem.W.exmOne K (.ref (He.ga K "NamesError")) (.ref (He.ga K "BadText")) = some false
  xf_BadText : XfC K (He.ga K "BadText")
  pr_Book_order : PropOf K (He.ga K "Book") "order" (He.ma K (He.ga K "Book") "order") (prG K (He.ga K "Book") "order")
  pr_Book_marks : PropOf K (He.ga K "Book") "marks" (He.ma K (He.ga K "Book") "marks") (prG K (He.ga K "Book") "marks")
  pr_Book_near : PropOf K (He.ga K "Book") "near" (He.ma K (He.ga K "Book") "near") (prG K (He.ga K "Book") "near")
  pr_Book_spreads : PropOf K (He.ga K "Book") "spreads" (He.ma K (He.ga K "Book") "spreads") (prG K (He.ga K "Book") "spreads")
  pr_Book_bodies : PropOf K (He.ga K "Book") "bodies" (He.ma K (He.ga K "Book") "bodies") (prG K (He.ga K "Book") "bodies")
  pr_Book_alls : PropOf K (He.ga K "Book") "alls" (He.ma K (He.ga K "Book") "alls") (prG K (He.ga K "Book") "alls")
  pr_Book_given : PropOf K (He.ga K "Book") "given" (He.ma K (He.ga K "Book") "given") (prG K (He.ga K "Book") "given")
  g_law_spoilt : mg "_law_spoilt" = some (.ref (He.ga K "_law_spoilt"))
  kp_law_spoilt : PySem.W.keepIn K (.ref (He.ga K "_law_spoilt")) = true
  g_law_refused : mg "_law_refused" = some (.ref (He.ga K "_law_refused"))
  kp_law_refused : PySem.W.keepIn K (.ref (He.ga K "_law_refused")) = true
  g_write_place : mg "write_place" = some (.ref (He.ga K "write_place"))
  kp_write_place : PySem.W.keepIn K (.ref (He.ga K "write_place")) = true
  n_list : mg "list" = none
  g_write_book : mg "write_book" = some (.ref (He.ga K "write_book"))
  kp_write_book : PySem.W.keepIn K (.ref (He.ga K "write_book")) = true
  eqc_Book : EqC K (He.ga K "Book") (He.ma K (He.ga K "Book") "__eq__")
  g_law_made_book : mg "_law_made_book" = some (.ref (He.ga K "_law_made_book"))
  kp_law_made_book : PySem.W.keepIn K (.ref (He.ga K "_law_made_book")) = true
  g_law_book_text : mg "_law_book_text" = some (.ref (He.ga K "_law_book_text"))
  kp_law_book_text : PySem.W.keepIn K (.ref (He.ga K "_law_book_text")) = true
  g_law_names_of : mg "_law_names_of" = some (.ref (He.ga K "_law_names_of"))
  kp_law_names_of : PySem.W.keepIn K (.ref (He.ga K "_law_names_of")) = true
  g_law_pool_of : mg "_law_pool_of" = some (.ref (He.ga K "_law_pool_of"))
  kp_law_pool_of : PySem.W.keepIn K (.ref (He.ga K "_law_pool_of")) = true
  g_law_rules_of : mg "_law_rules_of" = some (.ref (He.ga K "_law_rules_of"))
  kp_law_rules_of : PySem.W.keepIn K (.ref (He.ga K "_law_rules_of")) = true
section
variable {P : Program} {w : World} {K : PySem.W.Frag} {mg : Str → Option Value} {base : Heap}
def N_Book___eq__ : List Str := ["self", "other"]
def m_Book___eq__ : MS := sRet (cAndV (cIsiO (isiT io0_t io0_o) (cVar 1)) (c2 oEqDic (cFld "Book" "parts" (cVar 0)) (cFld "Book" "parts" (cVar 1))))
def F_Book___eq__ : FF := runF m_Book___eq__ 2 2

theorem sc_Book___eq__ : FnScope N_Book___eq__ ["self", "other"] (defScope (inClass (top 17) 10)) := ⟨rfl, rfl, rfl, by decide +kernel, rfl, by decide +kernel, by decide +kernel⟩
theorem s_Book___eq__ (e : Ev w K mg) : Is P w K mg base (1 + 1) (He.fAd K ("Book", some "__eq__")) ["self", "other"] F_Book___eq__ := by
  obtain ⟨fd, F⟩ := e.d_Book___eq__
  have nd := sc_Book___eq__.nd
  have B : Binds K fd ["self", "other"] [] := F.bindsN fun _ _ _ _ _ _ us hl => match us, hl with | [_, _], _ => rfl
  have R : Is P w K mg base (1 + 1) (He.fAd K ("Book", some "__eq__")) ["self", "other"] (runF m_Book___eq__ 2 2) := by
    refine is_mk (k := 1) (m := m_Book___eq__) (N := N_Book___eq__) F sc_Book___eq__ B fun cdv A outer s H E W hr tk => ?_
    exact (sb_one (ss_ret (se_and (se_isiO rfl e.n_isinstance (se_var (i := 1) rfl (by first | exact Or.inl rfl | exact Or.inr (Or.inl rfl) | exact Or.inr (Or.inr rfl))) (pe_glob (v := .ref (He.ga K "Book")) rfl e.g_Book rfl (by decide)) (.own _) e.isi_io0_t_Book) (se_one (se_cmp (op_eq_dictA (Nat.lt_of_succ_lt hr.u1)) k_eqDic (se_fld (se_var (i := 0) rfl (by first | exact Or.inl rfl | exact Or.inr (Or.inl rfl) | exact Or.inr (Or.inr rfl))) e.cls_Book e.na_Book_parts) (se_fld (se_var (i := 1) rfl (by first | exact Or.inl rfl | exact Or.inr (Or.inl rfl) | exact Or.inr (Or.inr rfl))) e.cls_Book e.na_Book_parts) (nomark _))))))
  exact R

def N_law_book_text : List Str := ["_law_rules", "_law_words"]
def m_law_book_text : MS := sSeq (sSet 1 (cLst (aCons (cRepl " " "." (c2 oIx (cVar 0) (cC (.str "order")))) (aCons (c2 oIx (cVar 0) (cC (.str "given"))) (aCons (c2 oIx (cVar 0) (cC (.str "alls"))) (aCons (c2 oIx (cVar 0) (cC (.str "bodies"))) (aCons (c2 oIx (cVar 0) (cC (.str "spreads"))) (aNil))))))))
  (sSeq (sSet 1 (c2 oPlus (cVar 1) (cLst (aCons (cIf (cB (c2 oIx (cVar 0) (cC (.str "near")))) (cC (.str "near")) (cC (.str "far"))) (aCons (cIf (cB (c2 oIx (cVar 0) (cC (.str "marks")))) (cC (.str "marked")) (cC (.str "free"))) (aNil))))))
  (sRet (cJoin (cC (.str " ")) (cVar 1))))
def F_law_book_text : FF := runF m_law_book_text 1 2

theorem sc_law_book_text : FnScope N_law_book_text ["_law_rules"] (defScope (top 33)) := ⟨rfl, rfl, rfl, by decide +kernel, rfl, by decide +kernel, by decide +kernel⟩
theorem s_law_book_text (e : Ev w K mg) : Is P w K mg base (1 + 1) (He.fAd K ("_law_book_text", none)) ["_law_rules"] F_law_book_text := by
  obtain ⟨fd, F⟩ := e.d_law_book_text
  have nd := sc_law_book_text.nd
  have B : Binds K fd ["_law_rules"] [] := F.bindsN fun _ _ _ _ _ _ us hl => match us, hl with | [_], _ => rfl
  have R : Is P w K mg base (1 + 1) (He.fAd K ("_law_book_text", none)) ["_law_rules"] (runF m_law_book_text 1 2) := by
    refine is_mk (k := 1) (m := m_law_book_text) (N := N_law_book_text) F sc_law_book_text B fun cdv A outer s H E W hr tk => ?_
    exact (sb_cons (ss_set (i := 1) nd rfl (by first | exact Or.inl rfl | exact Or.inr rfl) (se_lst (sa_cons (se_replB (seb_ix hr.u1 (se_var (i := 0) rfl (by first | exact Or.inl rfl | exact Or.inr (Or.inl rfl) | exact Or.inr (Or.inr rfl))) seb_str) (by decide +kernel)) (sa_cons (se_ix hr.u1 (se_var (i := 0) rfl (by first | exact Or.inl rfl | exact Or.inr (Or.inl rfl) | exact Or.inr (Or.inr rfl))) se_str) (sa_cons (se_ix hr.u1 (se_var (i := 0) rfl (by first | exact Or.inl rfl | exact Or.inr (Or.inl rfl) | exact Or.inr (Or.inr rfl))) se_str) (sa_cons (se_ix hr.u1 (se_var (i := 0) rfl (by first | exact Or.inl rfl | exact Or.inr (Or.inl rfl) | exact Or.inr (Or.inr rfl))) se_str) (sa_cons (se_ix hr.u1 (se_var (i := 0) rfl (by first | exact Or.inl rfl | exact Or.inr (Or.inl rfl) | exact Or.inr (Or.inr rfl))) se_str) sa_nil)))))))
  (sb_cons (ss_set (i := 1) nd rfl (by first | exact Or.inl rfl | exact Or.inr rfl) (se_op op_plus k_plus (se_var (i := 1) rfl (by first | exact Or.inl rfl | exact Or.inr (Or.inl rfl) | exact Or.inr (Or.inr rfl))) (se_lst (sa_cons (se_ifExp (st_val (se_ix hr.u1 (se_var (i := 0) rfl (by first | exact Or.inl rfl | exact Or.inr (Or.inl rfl) | exact Or.inr (Or.inr rfl))) se_str)) se_str se_str) (sa_cons (se_ifExp (st_val (se_ix hr.u1 (se_var (i := 0) rfl (by first | exact Or.inl rfl | exact Or.inr (Or.inl rfl) | exact Or.inr (Or.inr rfl))) se_str)) se_str se_str) sa_nil)))))
  (sb_one (ss_ret (se_join se_str (se_var (i := 1) rfl (by first | exact Or.inl rfl | exact Or.inr (Or.inl rfl) | exact Or.inr (Or.inr rfl))))))))
  exact R

theorem sc_BadPart___init__ : FnScope ["self", "part"] ["self", "part"] (defScope (inClass (top 3) 0)) := ⟨rfl, rfl, rfl, by decide +kernel, rfl, by decide +kernel, by decide +kernel⟩
theorem s_BadPart___init__ (e : Ev w K mg) : ∃ fd, FnOk P w K mg base (L2.CX P w) 2 (He.fAd K ("BadPart", some "__init__")) fd ["self", "part"] (spX K "part") ∧ Binds K fd ["self", "part"] [] := by
  obtain ⟨fd, F⟩ := e.d_BadPart___init__
  have S := sc_BadPart___init__
  refine ⟨fd, fn_excInit (t := "a part, or the value of a part, is unknown") F S fun cdv A outer s H E => ?_, F.bindsN fun _ _ _ _ _ _ us hl => match us, hl with | [_, _], _ => rfl⟩
  exact pss_cons (ps_expr (pe_baseinit rfl e.g_NamesError e.cr_NamesError e.vv_NamesError (pa_cons (pv 0) (pa_cons pe_str pa_nil)))) (pss_one (ps_ost (pv 0) (pv 1)))

def N_is_value : List Str := ["part", "value"]
def m_is_value : MS := sRet (cAndV (cIsiO (isiT io1_t io1_o) (cVar 1)) (c2 (oIn false) (cVar 1) (cIxK (tb_PARTS.map fun q => (q.1, q.2.d)) (cVar 0))))
def F_is_value : FF := runF m_is_value 2 2

theorem sc_is_value : FnScope N_is_value ["part", "value"] (defScope (top 16)) := ⟨rfl, rfl, rfl, by decide +kernel, rfl, by decide +kernel, by decide +kernel⟩
theorem s_is_value (e : Ev w K mg) : Is P w K mg base (1 + 1) (He.fAd K ("is_value", none)) ["part", "value"] F_is_value := by
  obtain ⟨fd, F⟩ := e.d_is_value
  have nd := sc_is_value.nd
  have B : Binds K fd ["part", "value"] [] := F.bindsN fun _ _ _ _ _ _ us hl => match us, hl with | [_, _], _ => rfl
  have R : Is P w K mg base (1 + 1) (He.fAd K ("is_value", none)) ["part", "value"] (runF m_is_value 2 2) := by
    refine is_mk (k := 1) (m := m_is_value) (N := N_is_value) F sc_is_value B fun cdv A outer s H E W hr tk => ?_
    exact (sb_one (ss_ret (se_and (se_isiT2 rfl e.n_isinstance (se_var (i := 1) rfl (by first | exact Or.inl rfl | exact Or.inr (Or.inl rfl) | exact Or.inr (Or.inr rfl))) rfl e.n_str bt_str (by decide) (by decide) rfl e.n_bool bt_bool (by decide) (by decide) e.isi_io1_t_str_bool) (se_one (se_cmp (op_inA hr.u1) (k_in false) (se_var (i := 1) rfl (by first | exact Or.inl rfl | exact Or.inr (Or.inl rfl) | exact Or.inr (Or.inr rfl))) (se_ixK rfl e.g_PARTS e.tbl_PARTS (se_var (i := 0) rfl (by first | exact Or.inl rfl | exact Or.inr (Or.inl rfl) | exact Or.inr (Or.inr rfl)))) (by with_unfolding_all rfl))))))
  exact R

def N_Book___init__ : List Str := ["self", "order", "given", "alls", "bodies", "spreads", "near", "marks", "values", "part", "value", "row"]
def m_Book___init__ : MS := sSeq (sSet 8 (cLst (aCons (cVar 1) (aCons (cVar 2) (aCons (cVar 3) (aCons (cVar 4) (aCons (cVar 5) (aCons (cVar 6) (aCons (cVar 7) (aNil))))))))))
  (sSeq (sFor (iZipK (tb_PARTS.map (·.1)) (cVar 8)) (gT 2 (gsC (gN 9) (gsC (gN 10) (gsN))))
  (sIf (cNot (cB (cCall F_is_value (aCons (cVar 9) (aCons (cVar 10) (aNil)))))) (sRaise "BadPart" "part" (cVar 9))
  (sNil)))
  (sSeq (sFldS "Book" "parts" (cVar 0) (cDc (iZipK (tb_PARTS.map (·.1)) (cVar 8)) (gT 2 (gsC (gN 9) (gsC (gN 10) (gsN)))) (mYes) (cVar 9) (cVar 10) [9, 10]))
  (sFldS "Book" "rows" (cVar 0) (cLc (iSeq (cSplit (cVar 1) (cC (.str " ")))) (gN 11) (mYes) (cSplit (cVar 11) (cC (.str "="))) [11]))))
def F_Book___init__ : FF := runF m_Book___init__ 8 12

theorem sc_Book___init__ : FnScope N_Book___init__ ["self", "order", "given", "alls", "bodies", "spreads", "near", "marks"] (defScope (inClass (top 17) 0)) := ⟨rfl, rfl, rfl, by decide +kernel, rfl, by decide +kernel, by decide +kernel⟩
theorem s_Book___init__ (e : Ev w K mg) : IsK P w K mg base (5 + 1) (He.fAd K ("Book", some "__init__")) ["self", "order", "given", "alls", "bodies", "spreads", "near", "marks"] 0 (kws_Book___init__.map (·.1)) (kws_Book___init__.map fun q => q.2.d) F_Book___init__ := by
  obtain ⟨fd, F⟩ := e.d_Book___init__
  have i_is_value := s_is_value (P := P) (base := base) e
  have i_BadPart___init__ := s_BadPart___init__ (P := P) (base := base) e
  have nd := sc_Book___init__.nd
  have R : IsK P w K mg base (5 + 1) (He.fAd K ("Book", some "__init__")) ["self", "order", "given", "alls", "bodies", "spreads", "near", "marks"] 0 (kws_Book___init__.map (·.1)) (kws_Book___init__.map fun q => q.2.d) (runF m_Book___init__ 8 12) := by
    refine isk_mk (k := 5) (n := 0) (m := m_Book___init__) (N := N_Book___init__) (kws := kws_Book___init__) F sc_Book___init__ (by intro z; cases z) rfl (fun D doc pm an cdv ct us ks h1 h2 => ?_) (fun D doc pm an cdv ct us ws h1 h2 => ?_) fun cdv A outer s H E W hr tk => ?_
    · match us, ks, h1, h2 with
      | [_], [_, _, _, _, _, _, _], _, _ => exact ⟨_, _, _, _, _, _, rfl, rfl, ⟨_, _, _, _, _, _, rfl, rfl, ⟨_, _, _, _, _, _, rfl, rfl, ⟨_, _, _, _, _, _, rfl, rfl, ⟨_, _, _, _, _, _, rfl, rfl, ⟨_, _, _, _, _, _, rfl, rfl, ⟨_, _, _, _, _, _, rfl, rfl, rfl⟩⟩⟩⟩⟩⟩⟩
    · match us, ws, h1, h2 with
      | [_], [_, _, _, _, _, _, _], _, _ => rfl
    exact (sb_cons (ss_set (i := 8) nd rfl (by first | exact Or.inl rfl | exact Or.inr rfl) (se_lst (sa_cons (se_var (i := 1) rfl (by first | exact Or.inl rfl | exact Or.inr (Or.inl rfl) | exact Or.inr (Or.inr rfl))) (sa_cons (se_var (i := 2) rfl (by first | exact Or.inl rfl | exact Or.inr (Or.inl rfl) | exact Or.inr (Or.inr rfl))) (sa_cons (se_var (i := 3) rfl (by first | exact Or.inl rfl | exact Or.inr (Or.inl rfl) | exact Or.inr (Or.inr rfl))) (sa_cons (se_var (i := 4) rfl (by first | exact Or.inl rfl | exact Or.inr (Or.inl rfl) | exact Or.inr (Or.inr rfl))) (sa_cons (se_var (i := 5) rfl (by first | exact Or.inl rfl | exact Or.inr (Or.inl rfl) | exact Or.inr (Or.inr rfl))) (sa_cons (se_var (i := 6) rfl (by first | exact Or.inl rfl | exact Or.inr (Or.inl rfl) | exact Or.inr (Or.inr rfl))) (sa_cons (se_var (i := 7) rfl (by first | exact Or.inl rfl | exact Or.inr (Or.inl rfl) | exact Or.inr (Or.inr rfl))) sa_nil)))))))))
  (sb_cons (ss_for (passes_of rfl) rfl (si_zipD rfl e.n_zip rfl e.g_PARTS e.kk_PARTS (se_var (i := 8) rfl (by first | exact Or.inl rfl | exact Or.inr (Or.inl rfl) | exact Or.inr (Or.inr rfl)))) (sg_tup (n := 2) rfl (sgs_cons (sg_name (i := 9) nd rfl (by first | exact Or.inl rfl | exact Or.inr rfl)) (sgs_cons (sg_name (i := 10) nd rfl (by first | exact Or.inl rfl | exact Or.inr rfl)) sgs_nil)))
  (sb_one (ss_if (st_not (st_val (se_call (i_is_value.cal tk (hr.mono (by decide))) rfl e.g_is_value e.kp_is_value (sa_cons (se_var (i := 9) rfl (by first | exact Or.inl rfl | exact Or.inr (Or.inl rfl) | exact Or.inr (Or.inr rfl))) (sa_cons (se_var (i := 10) rfl (by first | exact Or.inl rfl | exact Or.inr (Or.inl rfl) | exact Or.inr (Or.inr rfl))) sa_nil))))) (sb_one (ss_raise (k := 2) rfl tk e.oex_BadPart e.hno_BadPart_part e.me_BadPart_DinitD.at_ (beq_iff_eq.mp e.me_BadPart_DinitD.fn) i_BadPart___init__.choose_spec.1 (hr.rm.mono (by decide)) i_BadPart___init__.choose_spec.2 rfl e.g_BadPart (se_var (i := 9) rfl (by first | exact Or.inl rfl | exact Or.inr (Or.inl rfl) | exact Or.inr (Or.inr rfl)))))
  sb_nil)))
  (sb_cons (ss_fld (se_var (i := 0) rfl (by first | exact Or.inl rfl | exact Or.inr (Or.inl rfl) | exact Or.inr (Or.inr rfl))) (se_dc (own := [("part", 9), ("value", 10)]) rfl nd (si_zipD rfl e.n_zip rfl e.g_PARTS e.kk_PARTS (se_var (i := 8) rfl (by first | exact Or.inl rfl | exact Or.inr (Or.inl rfl) | exact Or.inr (Or.inr rfl)))) (blkOk_by (own := [("part", 9), ("value", 10)]) (N := N_Book___init__) (sc := (defScope (inClass (top 17) 0))) (by decide +kernel)) (fun _ _ _ _ _ => (sg_tup (n := 2) rfl (sgs_cons (sg_name (i := 9) nd rfl (by first | exact Or.inl rfl | exact Or.inr rfl)) (sgs_cons (sg_name (i := 10) nd rfl (by first | exact Or.inl rfl | exact Or.inr rfl)) sgs_nil)))) (fun _ _ _ _ _ => sts_nil) (fun _ _ _ _ _ => (se_var (i := 9) rfl (by first | exact Or.inl rfl | exact Or.inr (Or.inl rfl) | exact Or.inr (Or.inr rfl)))) (fun _ _ _ _ _ => (se_var (i := 10) rfl (by first | exact Or.inl rfl | exact Or.inr (Or.inl rfl) | exact Or.inr (Or.inr rfl)))) (by decide)) e.cls_Book e.na_Book_parts)
  (sb_one (ss_fld (se_var (i := 0) rfl (by first | exact Or.inl rfl | exact Or.inr (Or.inl rfl) | exact Or.inr (Or.inr rfl))) (se_lc (own := [("row", 11)]) rfl nd (si_list (se_split (se_var (i := 1) rfl (by first | exact Or.inl rfl | exact Or.inr (Or.inl rfl) | exact Or.inr (Or.inr rfl))) se_str)) (blkOk_by (own := [("row", 11)]) (N := N_Book___init__) (sc := (defScope (inClass (top 17) 0))) (by decide +kernel)) (fun _ _ _ _ _ => (sg_name (i := 11) nd rfl (by first | exact Or.inl rfl | exact Or.inr rfl))) (fun _ _ _ _ _ => sts_nil) (fun _ _ _ _ _ => (se_split (se_var (i := 11) rfl (by first | exact Or.inl rfl | exact Or.inr (Or.inl rfl) | exact Or.inr (Or.inr rfl))) se_str)) (by decide)) e.cls_Book e.na_Book_rows)))))
  exact R

def N_is_book_part : List Str := ["value"]
def m_is_book_part : MS := sRet (cAndV (cIsi ty_str (cVar 0)) (cInK (tb_PARTS.map fun q => (q.1, q.2.d)) false (cVar 0)))
def F_is_book_part : FF := runF m_is_book_part 1 1

theorem sc_is_book_part : FnScope N_is_book_part ["value"] (defScope (top 15)) := ⟨rfl, rfl, rfl, by decide +kernel, rfl, by decide +kernel, by decide +kernel⟩
theorem s_is_book_part (e : Ev w K mg) : Is P w K mg base (1 + 1) (He.fAd K ("is_book_part", none)) ["value"] F_is_book_part := by
  obtain ⟨fd, F⟩ := e.d_is_book_part
  have nd := sc_is_book_part.nd
  have B : Binds K fd ["value"] [] := F.bindsN fun _ _ _ _ _ _ us hl => match us, hl with | [_], _ => rfl
  have R : Is P w K mg base (1 + 1) (He.fAd K ("is_book_part", none)) ["value"] (runF m_is_book_part 1 1) := by
    refine is_mk (k := 1) (m := m_is_book_part) (N := N_is_book_part) F sc_is_book_part B fun cdv A outer s H E W hr tk => ?_
    exact (sb_one (ss_ret (se_and (se_isi (Ts := "str") rfl e.n_isinstance (se_var (i := 0) rfl (by first | exact Or.inl rfl | exact Or.inr (Or.inl rfl) | exact Or.inr (Or.inr rfl))) rfl e.n_str bt_str (by decide) (by decide) tk_str) (se_one (se_inK rfl e.g_PARTS e.tbl_PARTS (se_var (i := 0) rfl (by first | exact Or.inl rfl | exact Or.inr (Or.inl rfl) | exact Or.inr (Or.inr rfl))))))))
  exact R

def N_Book_changed : List Str := ["self", "part", "value", "parts"]
def m_Book_changed : MS := sSeq (sIf (cOr (cNot (cB (cCall F_is_book_part (aCons (cVar 1) (aNil))))) (cNot (cB (cCall F_is_value (aCons (cVar 1) (aCons (cVar 2) (aNil))))))) (sRaise "BadPart" "part" (cVar 1))
  (sNil))
  (sSeq (sSet 3 (cDisU (cFld "Book" "parts" (cVar 0)) (cVar 1) (cVar 2)))
  (sRet (cCallS (kws_Book___init__.map (·.1)) (mkF "Book" F_Book___init__) aNil (cVar 3))))
def F_Book_changed : FF := runF m_Book_changed 3 4

theorem sc_Book_changed : FnScope N_Book_changed ["self", "part", "value"] (defScope (inClass (top 17) 12)) := ⟨rfl, rfl, rfl, by decide +kernel, rfl, by decide +kernel, by decide +kernel⟩
theorem s_Book_changed (e : Ev w K mg) : Is P w K mg base (7 + 1) (He.fAd K ("Book", some "changed")) ["self", "part", "value"] F_Book_changed := by
  obtain ⟨fd, F⟩ := e.d_Book_changed
  have i_is_book_part := s_is_book_part (P := P) (base := base) e
  have i_is_value := s_is_value (P := P) (base := base) e
  have i_BadPart___init__ := s_BadPart___init__ (P := P) (base := base) e
  have i_Book___init__ := s_Book___init__ (P := P) (base := base) e
  have nd := sc_Book_changed.nd
  have B : Binds K fd ["self", "part", "value"] [] := F.bindsN fun _ _ _ _ _ _ us hl => match us, hl with | [_, _, _], _ => rfl
  have R : Is P w K mg base (7 + 1) (He.fAd K ("Book", some "changed")) ["self", "part", "value"] (runF m_Book_changed 3 4) := by
    refine is_mk (k := 7) (m := m_Book_changed) (N := N_Book_changed) F sc_Book_changed B fun cdv A outer s H E W hr tk => ?_
    exact (sb_cons (ss_if (SW.pt (sw_or (st_not (st_val (se_call (i_is_book_part.cal tk (hr.mono (by decide))) rfl e.g_is_book_part e.kp_is_book_part (sa_cons (se_var (i := 1) rfl (by first | exact Or.inl rfl | exact Or.inr (Or.inl rfl) | exact Or.inr (Or.inr rfl))) sa_nil)))) (sw_or1 (st_not (st_val (se_call (i_is_value.cal tk (hr.mono (by decide))) rfl e.g_is_value e.kp_is_value (sa_cons (se_var (i := 1) rfl (by first | exact Or.inl rfl | exact Or.inr (Or.inl rfl) | exact Or.inr (Or.inr rfl))) (sa_cons (se_var (i := 2) rfl (by first | exact Or.inl rfl | exact Or.inr (Or.inl rfl) | exact Or.inr (Or.inr rfl))) sa_nil)))))))) (sb_one (ss_raise (k := 2) rfl tk e.oex_BadPart e.hno_BadPart_part e.me_BadPart_DinitD.at_ (beq_iff_eq.mp e.me_BadPart_DinitD.fn) i_BadPart___init__.choose_spec.1 (hr.rm.mono (by decide)) i_BadPart___init__.choose_spec.2 rfl e.g_BadPart (se_var (i := 1) rfl (by first | exact Or.inl rfl | exact Or.inr (Or.inl rfl) | exact Or.inr (Or.inr rfl)))))
  sb_nil)
  (sb_cons (ss_set (i := 3) nd rfl (by first | exact Or.inl rfl | exact Or.inr rfl) (se_disU (se_fld (se_var (i := 0) rfl (by first | exact Or.inl rfl | exact Or.inr (Or.inl rfl) | exact Or.inr (Or.inr rfl))) e.cls_Book e.na_Book_parts) (se_var (i := 1) rfl (by first | exact Or.inl rfl | exact Or.inr (Or.inl rfl) | exact Or.inr (Or.inr rfl))) (se_var (i := 2) rfl (by first | exact Or.inl rfl | exact Or.inr (Or.inl rfl) | exact Or.inr (Or.inr rfl)))))
  (sb_one (ss_ret (se_callS (i_Book___init__.mkK tk e.mk_Book (hr.mono (by decide))) (by decide +kernel) (by decide) rfl e.g_Book e.kp_Book sa_nil (se_var (i := 3) rfl (by first | exact Or.inl rfl | exact Or.inr (Or.inl rfl) | exact Or.inr (Or.inr rfl))) (fun _ _ _ _ e => by cases e; rfl))))))
  exact R

def N_law_made_book : List Str := ["_law_rules", "_law_book", "_law_part"]
def m_law_made_book : MS := sSeq (sSet 1 (cCall (mkF "Book" fun es h => F_Book___init__ (es ++ kws_Book___init__.map fun q => q.2.d) h) aNil))
  (sSeq (sForDic (cVar 0) (gN 2)
  (sSet 1 (cMeth "Book" "changed" F_Book_changed (cVar 1) (aCons (cVar 2) (aCons (c2 oIx (cVar 0) (cVar 2)) (aNil))))))
  (sRet (cVar 1)))
def F_law_made_book : FF := runF m_law_made_book 1 3

theorem sc_law_made_book : FnScope N_law_made_book ["_law_rules"] (defScope (top 32)) := ⟨rfl, rfl, rfl, by decide +kernel, rfl, by decide +kernel, by decide +kernel⟩
theorem s_law_made_book (e : Ev w K mg) : Is P w K mg base (9 + 1) (He.fAd K ("_law_made_book", none)) ["_law_rules"] F_law_made_book := by
  obtain ⟨fd, F⟩ := e.d_law_made_book
  have i_Book___init__ := s_Book___init__ (P := P) (base := base) e
  have i_Book_changed := s_Book_changed (P := P) (base := base) e
  have nd := sc_law_made_book.nd
  have B : Binds K fd ["_law_rules"] [] := F.bindsN fun _ _ _ _ _ _ us hl => match us, hl with | [_], _ => rfl
  have R : Is P w K mg base (9 + 1) (He.fAd K ("_law_made_book", none)) ["_law_rules"] (runF m_law_made_book 1 3) := by
    refine is_mk (k := 9) (m := m_law_made_book) (N := N_law_made_book) F sc_law_made_book B fun cdv A outer s H E W hr tk => ?_
    exact (sb_cons (ss_set (i := 1) nd rfl (by first | exact Or.inl rfl | exact Or.inr rfl) (se_call0 (i_Book___init__.mk tk e.mk_Book (hr.mono (by decide))) rfl e.g_Book e.kp_Book))
  (sb_cons (ss_forDic (passes_of rfl) rfl (se_var (i := 0) rfl (by first | exact Or.inl rfl | exact Or.inr (Or.inl rfl) | exact Or.inr (Or.inr rfl))) (sg_name (i := 2) nd rfl (by first | exact Or.inl rfl | exact Or.inr rfl))
  (sb_one (ss_set (i := 1) nd rfl (by first | exact Or.inl rfl | exact Or.inr rfl) (se_meth (se_var (i := 1) rfl (by first | exact Or.inl rfl | exact Or.inr (Or.inl rfl) | exact Or.inr (Or.inr rfl))) e.cls_Book e.me_Book_changed (i_Book_changed.cal tk (hr.mono (by decide))) (sa_cons (se_var (i := 2) rfl (by first | exact Or.inl rfl | exact Or.inr (Or.inl rfl) | exact Or.inr (Or.inr rfl))) (sa_cons (se_ix hr.u1 (se_var (i := 0) rfl (by first | exact Or.inl rfl | exact Or.inr (Or.inl rfl) | exact Or.inr (Or.inr rfl))) (se_var (i := 2) rfl (by first | exact Or.inl rfl | exact Or.inr (Or.inl rfl) | exact Or.inr (Or.inr rfl)))) sa_nil))))))
  (sb_one (ss_ret (se_var (i := 1) rfl (by first | exact Or.inl rfl | exact Or.inr (Or.inl rfl) | exact Or.inr (Or.inr rfl)))))))
  exact R

def N_law_draw : List Str := ["_law_pool", "_law_many", "_law_found"]
def m_law_draw : MS := sSeq (sIf (cB (c2 oGt (c2 oIx (cVar 0) (cC (.int 0))) (cC (.int 0)))) (sSeq (sSet 2 (c2 oMod (cCall (f1 intD) (aCons (c2 oIx (cVar 0) (cC (.int 0))) (aNil))) (cVar 1)))
  (sSeq (sSub (cVar 0) (cC (.int 0)) (c2 oDiv (c2 oIx (cVar 0) (cC (.int 0))) (cVar 1)))
  (sRet (cVar 2))))
  (sNil))
  (sSeq (sSub (cVar 0) (cC (.int 1)) (c2 oMod (cCall (f1 intD) (aCons (c2 oPlus (c2 oMul (c2 oIx (cVar 0) (cC (.int 1))) (cC (.int 48271))) (cC (.int 11))) (aNil))) (cC (.int 2147483647))))
  (sRet (c2 oMod (cCall (f1 intD) (aCons (c2 oDiv (c2 oMod (c2 oMul (c2 oIx (cVar 0) (cC (.int 1))) (c2 oIx (cVar 0) (cC (.int 1)))) (cC (.int 2147483629))) (cC (.int 16))) (aNil))) (cVar 1))))
def F_law_draw : FF := runF m_law_draw 2 3

theorem sc_law_draw : FnScope N_law_draw ["_law_pool", "_law_many"] (defScope (top 28)) := ⟨rfl, rfl, rfl, by decide +kernel, rfl, by decide +kernel, by decide +kernel⟩
theorem s_law_draw (e : Ev w K mg) : Is P w K mg base (1 + 1) (He.fAd K ("_law_draw", none)) ["_law_pool", "_law_many"] F_law_draw := by
  obtain ⟨fd, F⟩ := e.d_law_draw
  have nd := sc_law_draw.nd
  have B : Binds K fd ["_law_pool", "_law_many"] [] := F.bindsN fun _ _ _ _ _ _ us hl => match us, hl with | [_, _], _ => rfl
  have R : Is P w K mg base (1 + 1) (He.fAd K ("_law_draw", none)) ["_law_pool", "_law_many"] (runF m_law_draw 2 3) := by
    refine is_mk (k := 1) (m := m_law_draw) (N := N_law_draw) F sc_law_draw B fun cdv A outer s H E W hr tk => ?_
    exact (sb_cons (ss_if (st_cmp op_gt k_gt (se_ix hr.u1 (se_var (i := 0) rfl (by first | exact Or.inl rfl | exact Or.inr (Or.inl rfl) | exact Or.inr (Or.inr rfl))) se_int) se_int (nomark _)) (sb_cons (ss_set (i := 2) nd rfl (by first | exact Or.inl rfl | exact Or.inr rfl) (se_op op_mod k_mod (se_callTy call_int1 kc_int rfl e.n_int bt_int (sa_cons (se_ix hr.u1 (se_var (i := 0) rfl (by first | exact Or.inl rfl | exact Or.inr (Or.inl rfl) | exact Or.inr (Or.inr rfl))) se_int) sa_nil)) (se_var (i := 1) rfl (by first | exact Or.inl rfl | exact Or.inr (Or.inl rfl) | exact Or.inr (Or.inr rfl)))))
  (sb_cons (ss_sub hr.u1 (se_var (i := 0) rfl (by first | exact Or.inl rfl | exact Or.inr (Or.inl rfl) | exact Or.inr (Or.inr rfl))) se_int (se_op op_fdiv k_div (se_ix hr.u1 (se_var (i := 0) rfl (by first | exact Or.inl rfl | exact Or.inr (Or.inl rfl) | exact Or.inr (Or.inr rfl))) se_int) (se_var (i := 1) rfl (by first | exact Or.inl rfl | exact Or.inr (Or.inl rfl) | exact Or.inr (Or.inr rfl)))))
  (sb_one (ss_ret (se_var (i := 2) rfl (by first | exact Or.inl rfl | exact Or.inr (Or.inl rfl) | exact Or.inr (Or.inr rfl)))))))
  sb_nil)
  (sb_cons (ss_sub hr.u1 (se_var (i := 0) rfl (by first | exact Or.inl rfl | exact Or.inr (Or.inl rfl) | exact Or.inr (Or.inr rfl))) se_int (se_op op_mod k_mod (se_callTy call_int1 kc_int rfl e.n_int bt_int (sa_cons (se_op op_plus k_plus (se_op op_mul k_mul (se_ix hr.u1 (se_var (i := 0) rfl (by first | exact Or.inl rfl | exact Or.inr (Or.inl rfl) | exact Or.inr (Or.inr rfl))) se_int) se_int) se_int) sa_nil)) se_int))
  (sb_one (ss_ret (se_op op_mod k_mod (se_callTy call_int1 kc_int rfl e.n_int bt_int (sa_cons (se_op op_fdiv k_div (se_op op_mod k_mod (se_op op_mul k_mul (se_ix hr.u1 (se_var (i := 0) rfl (by first | exact Or.inl rfl | exact Or.inr (Or.inl rfl) | exact Or.inr (Or.inr rfl))) se_int) (se_ix hr.u1 (se_var (i := 0) rfl (by first | exact Or.inl rfl | exact Or.inr (Or.inl rfl) | exact Or.inr (Or.inr rfl))) se_int)) se_int) se_int) sa_nil)) (se_var (i := 1) rfl (by first | exact Or.inl rfl | exact Or.inr (Or.inl rfl) | exact Or.inr (Or.inr rfl))))))))
  exact R

def N_law_pick : List Str := ["_law_pool", "_law_row"]
def m_law_pick : MS := sRet (c2 oIx (cVar 1) (cCall F_law_draw (aCons (cVar 0) (aCons (cCall (f1 lenD) (aCons (cVar 1) (aNil))) (aNil)))))
def F_law_pick : FF := runF m_law_pick 2 2

theorem sc_law_pick : FnScope N_law_pick ["_law_pool", "_law_row"] (defScope (top 29)) := ⟨rfl, rfl, rfl, by decide +kernel, rfl, by decide +kernel, by decide +kernel⟩
theorem s_law_pick (e : Ev w K mg) : Is P w K mg base (3 + 1) (He.fAd K ("_law_pick", none)) ["_law_pool", "_law_row"] F_law_pick := by
  obtain ⟨fd, F⟩ := e.d_law_pick
  have i_law_draw := s_law_draw (P := P) (base := base) e
  have nd := sc_law_pick.nd
  have B : Binds K fd ["_law_pool", "_law_row"] [] := F.bindsN fun _ _ _ _ _ _ us hl => match us, hl with | [_, _], _ => rfl
  have R : Is P w K mg base (3 + 1) (He.fAd K ("_law_pick", none)) ["_law_pool", "_law_row"] (runF m_law_pick 2 2) := by
    refine is_mk (k := 3) (m := m_law_pick) (N := N_law_pick) F sc_law_pick B fun cdv A outer s H E W hr tk => ?_
    exact (sb_one (ss_ret (se_ix hr.u1 (se_var (i := 1) rfl (by first | exact Or.inl rfl | exact Or.inr (Or.inl rfl) | exact Or.inr (Or.inr rfl))) (se_call (i_law_draw.cal tk (hr.mono (by decide))) rfl e.g_law_draw e.kp_law_draw (sa_cons (se_var (i := 0) rfl (by first | exact Or.inl rfl | exact Or.inr (Or.inl rfl) | exact Or.inr (Or.inr rfl))) (sa_cons (se_callB call_lenA kc_len rfl e.n_len bt_len (sa_cons (se_var (i := 1) rfl (by first | exact Or.inl rfl | exact Or.inr (Or.inl rfl) | exact Or.inr (Or.inr rfl))) sa_nil)) sa_nil))))))
  exact R

def N_law_names_of : List Str := ["_law_pool", "_law_count", "_law_signs", "_law_ends", "_law_origin", "_law_step", "_law_head", "_law_tail", "_law_k"]
def m_law_names_of : MS := sSeq (sSet 2 (cC (.str "abcdefghijklmnopqrstuvwxyz")))
  (sSeq (sAsg (gT 2 (gsC (gN 4) (gsC (gN 5) (gsN)))) (cTup (aCons (cCall F_law_draw (aCons (cVar 0) (aCons (cC (.int 26)) (aNil)))) (aCons (c2 oPlus (cC (.int 1)) (c2 oMul (cC (.int 2)) (cCall F_law_draw (aCons (cVar 0) (aCons (cC (.int 6)) (aNil)))))) (aNil)))))
  (sSeq (sSet 3 (cLst (aCons (cTup (aCons (cC (.str "")) (aCons (cC (.str "")) (aNil)))) (aCons (cTup (aCons (cC (.str "")) (aCons (cC (.str "q")) (aNil)))) (aCons (cTup (aCons (cC (.str "ab")) (aCons (cC (.str "")) (aNil)))) (aCons (cTup (aCons (cC (.str "abcdefg")) (aCons (cC (.str "")) (aNil)))) (aCons (cTup (aCons (cC (.str "")) (aCons (cC (.str "abcdefg")) (aNil)))) (aNil))))))))
  (sSeq (sAsg (gT 2 (gsC (gN 6) (gsC (gN 7) (gsN)))) (cCall F_law_pick (aCons (cVar 0) (aCons (cVar 3) (aNil)))))
  (sRet (cLc (iRange1 (aCons (cVar 1) (aNil))) (gN 8) (mYes) (c2 oPlus (c2 oPlus (cVar 6) (c2 oIx (cVar 2) (c2 oMod (c2 oPlus (cVar 4) (c2 oMul (cVar 5) (cVar 8))) (cC (.int 26))))) (cVar 7)) [8])))))
def F_law_names_of : FF := runF m_law_names_of 2 9

theorem sc_law_names_of : FnScope N_law_names_of ["_law_pool", "_law_count"] (defScope (top 30)) := ⟨rfl, rfl, rfl, by decide +kernel, rfl, by decide +kernel, by decide +kernel⟩
theorem s_law_names_of (e : Ev w K mg) : Is P w K mg base (5 + 1) (He.fAd K ("_law_names_of", none)) ["_law_pool", "_law_count"] F_law_names_of := by
  obtain ⟨fd, F⟩ := e.d_law_names_of
  have i_law_draw := s_law_draw (P := P) (base := base) e
  have i_law_pick := s_law_pick (P := P) (base := base) e
  have nd := sc_law_names_of.nd
  have B : Binds K fd ["_law_pool", "_law_count"] [] := F.bindsN fun _ _ _ _ _ _ us hl => match us, hl with | [_, _], _ => rfl
  have R : Is P w K mg base (5 + 1) (He.fAd K ("_law_names_of", none)) ["_law_pool", "_law_count"] (runF m_law_names_of 2 9) := by
    refine is_mk (k := 5) (m := m_law_names_of) (N := N_law_names_of) F sc_law_names_of B fun cdv A outer s H E W hr tk => ?_
    exact (sb_cons (ss_set (i := 2) nd rfl (by first | exact Or.inl rfl | exact Or.inr rfl) se_str)
  (sb_cons (ss_asg (se_tup (sa_cons (se_call (i_law_draw.cal tk (hr.mono (by decide))) rfl e.g_law_draw e.kp_law_draw (sa_cons (se_var (i := 0) rfl (by first | exact Or.inl rfl | exact Or.inr (Or.inl rfl) | exact Or.inr (Or.inr rfl))) (sa_cons se_int sa_nil))) (sa_cons (se_op op_plus k_plus se_int (se_op op_mul k_mul se_int (se_call (i_law_draw.cal tk (hr.mono (by decide))) rfl e.g_law_draw e.kp_law_draw (sa_cons (se_var (i := 0) rfl (by first | exact Or.inl rfl | exact Or.inr (Or.inl rfl) | exact Or.inr (Or.inr rfl))) (sa_cons se_int sa_nil))))) sa_nil))) (sg_tup (n := 2) rfl (sgs_cons (sg_name (i := 4) nd rfl (by first | exact Or.inl rfl | exact Or.inr rfl)) (sgs_cons (sg_name (i := 5) nd rfl (by first | exact Or.inl rfl | exact Or.inr rfl)) sgs_nil))))
  (sb_cons (ss_set (i := 3) nd rfl (by first | exact Or.inl rfl | exact Or.inr rfl) (se_lst (sa_cons (se_tup (sa_cons se_str (sa_cons se_str sa_nil))) (sa_cons (se_tup (sa_cons se_str (sa_cons se_str sa_nil))) (sa_cons (se_tup (sa_cons se_str (sa_cons se_str sa_nil))) (sa_cons (se_tup (sa_cons se_str (sa_cons se_str sa_nil))) (sa_cons (se_tup (sa_cons se_str (sa_cons se_str sa_nil))) sa_nil)))))))
  (sb_cons (ss_asg (se_call (i_law_pick.cal tk (hr.mono (by decide))) rfl e.g_law_pick e.kp_law_pick (sa_cons (se_var (i := 0) rfl (by first | exact Or.inl rfl | exact Or.inr (Or.inl rfl) | exact Or.inr (Or.inr rfl))) (sa_cons (se_var (i := 3) rfl (by first | exact Or.inl rfl | exact Or.inr (Or.inl rfl) | exact Or.inr (Or.inr rfl))) sa_nil))) (sg_tup (n := 2) rfl (sgs_cons (sg_name (i := 6) nd rfl (by first | exact Or.inl rfl | exact Or.inr rfl)) (sgs_cons (sg_name (i := 7) nd rfl (by first | exact Or.inl rfl | exact Or.inr rfl)) sgs_nil))))
  (sb_one (ss_ret (se_lc (own := [("_law_k", 8)]) rfl nd (si_range1 rfl e.n_range (sa_cons (se_var (i := 1) rfl (by first | exact Or.inl rfl | exact Or.inr (Or.inl rfl) | exact Or.inr (Or.inr rfl))) sa_nil)) (blkOk_by (own := [("_law_k", 8)]) (N := N_law_names_of) (sc := (defScope (top 30))) (by decide +kernel)) (fun _ _ _ _ _ => (sg_name (i := 8) nd rfl (by first | exact Or.inl rfl | exact Or.inr rfl))) (fun _ _ _ _ _ => sts_nil) (fun _ _ _ _ _ => (se_op op_plus k_plus (se_op op_plus k_plus (se_var (i := 6) rfl (by first | exact Or.inl rfl | exact Or.inr (Or.inl rfl) | exact Or.inr (Or.inr rfl))) (se_ix hr.u1 (se_var (i := 2) rfl (by first | exact Or.inl rfl | exact Or.inr (Or.inl rfl) | exact Or.inr (Or.inr rfl))) (se_op op_mod k_mod (se_op op_plus k_plus (se_var (i := 4) rfl (by first | exact Or.inl rfl | exact Or.inr (Or.inl rfl) | exact Or.inr (Or.inr rfl))) (se_op op_mul k_mul (se_var (i := 5) rfl (by first | exact Or.inl rfl | exact Or.inr (Or.inl rfl) | exact Or.inr (Or.inr rfl))) (se_var (i := 8) rfl (by first | exact Or.inl rfl | exact Or.inr (Or.inl rfl) | exact Or.inr (Or.inr rfl))))) se_int))) (se_var (i := 7) rfl (by first | exact Or.inl rfl | exact Or.inr (Or.inl rfl) | exact Or.inr (Or.inr rfl))))) (by decide))))))))
  exact R

def N_law_pool_of : List Str := ["_law_script", "_law_k", "_law_cell", "_law_size", "_law_mixed"]
def m_law_pool_of : MS := sSeq (sSet 2 (cIf (cB (c2 oLt (cVar 1) (cCall (f1 lenD) (aCons (cVar 0) (aNil))))) (c2 oIx (cVar 0) (cVar 1)) (c2 oPlus (c2 oMul (cC (.int 7)) (cCall (f1 sumD) (aCons (cSl (cVar 0) (oNone) (oSome (cC (.int 63)))) (aNil)))) (cVar 1))))
  (sSeq (sSet 3 (cCall (f1 absD) (aCons (cVar 2) (aNil))))
  (sSeq (sSet 4 (c2 oPlus (c2 oPlus (c2 oPlus (c2 oMod (cCall (f1 intD) (aCons (cVar 3) (aNil))) (cC (.int 2147483629))) (c2 oMul (c2 oMul (cC (.int 7919)) (cVar 1)) (cVar 1))) (c2 oMul (cC (.int 31)) (cVar 1))) (cC (.int 17))))
  (sSeq (sSet 4 (c2 oMod (cCall (f1 intD) (aCons (c2 oMul (cVar 4) (cC (.int 48271))) (aNil))) (cC (.int 2147483647))))
  (sRet (cLstN (aCons (c2 oMul (cVar 3) (cCall (f1 intD) (aCons (c2 oGe (cVar 3) (c2 oPow (cC (.int 10)) (cC (.int 18)))) (aNil)))) (aCons (c2 oMod (cCall (f1 intD) (aCons (c2 oMul (cVar 4) (cVar 4)) (aNil))) (cC (.int 2147483629))) (aNil))))))))
def F_law_pool_of : FF := runF m_law_pool_of 2 5

theorem sc_law_pool_of : FnScope N_law_pool_of ["_law_script", "_law_k"] (defScope (top 27)) := ⟨rfl, rfl, rfl, by decide +kernel, rfl, by decide +kernel, by decide +kernel⟩
theorem s_law_pool_of (e : Ev w K mg) : Is P w K mg base (1 + 1) (He.fAd K ("_law_pool_of", none)) ["_law_script", "_law_k"] F_law_pool_of := by
  obtain ⟨fd, F⟩ := e.d_law_pool_of
  have nd := sc_law_pool_of.nd
  have B : Binds K fd ["_law_script", "_law_k"] [] := F.bindsN fun _ _ _ _ _ _ us hl => match us, hl with | [_, _], _ => rfl
  have R : Is P w K mg base (1 + 1) (He.fAd K ("_law_pool_of", none)) ["_law_script", "_law_k"] (runF m_law_pool_of 2 5) := by
    refine is_mk (k := 1) (m := m_law_pool_of) (N := N_law_pool_of) F sc_law_pool_of B fun cdv A outer s H E W hr tk => ?_
    exact (sb_cons (ss_set (i := 2) nd rfl (by first | exact Or.inl rfl | exact Or.inr rfl) (se_ifExp (st_cmp op_lt k_lt (se_var (i := 1) rfl (by first | exact Or.inl rfl | exact Or.inr (Or.inl rfl) | exact Or.inr (Or.inr rfl))) (se_callB call_lenA kc_len rfl e.n_len bt_len (sa_cons (se_var (i := 0) rfl (by first | exact Or.inl rfl | exact Or.inr (Or.inl rfl) | exact Or.inr (Or.inr rfl))) sa_nil)) (nomark _)) (se_ix hr.u1 (se_var (i := 0) rfl (by first | exact Or.inl rfl | exact Or.inr (Or.inl rfl) | exact Or.inr (Or.inr rfl))) (se_var (i := 1) rfl (by first | exact Or.inl rfl | exact Or.inr (Or.inl rfl) | exact Or.inr (Or.inr rfl)))) (se_op op_plus k_plus (se_op op_mul k_mul se_int (se_callB (cr_sum rfl) kc_sum rfl e.n_sum bt_sum (sa_cons (se_slice (se_var (i := 0) rfl (by first | exact Or.inl rfl | exact Or.inr (Or.inl rfl) | exact Or.inr (Or.inr rfl))) so_none (so_some se_int)) sa_nil))) (se_var (i := 1) rfl (by first | exact Or.inl rfl | exact Or.inr (Or.inl rfl) | exact Or.inr (Or.inr rfl))))))
  (sb_cons (ss_set (i := 3) nd rfl (by first | exact Or.inl rfl | exact Or.inr rfl) (se_callB call_abs kc_abs rfl e.n_abs bt_abs (sa_cons (se_var (i := 2) rfl (by first | exact Or.inl rfl | exact Or.inr (Or.inl rfl) | exact Or.inr (Or.inr rfl))) sa_nil)))
  (sb_cons (ss_set (i := 4) nd rfl (by first | exact Or.inl rfl | exact Or.inr rfl) (se_op op_plus k_plus (se_op op_plus k_plus (se_op op_plus k_plus (se_op op_mod k_mod (se_callTy call_int1 kc_int rfl e.n_int bt_int (sa_cons (se_var (i := 3) rfl (by first | exact Or.inl rfl | exact Or.inr (Or.inl rfl) | exact Or.inr (Or.inr rfl))) sa_nil)) se_int) (se_op op_mul k_mul (se_op op_mul k_mul se_int (se_var (i := 1) rfl (by first | exact Or.inl rfl | exact Or.inr (Or.inl rfl) | exact Or.inr (Or.inr rfl)))) (se_var (i := 1) rfl (by first | exact Or.inl rfl | exact Or.inr (Or.inl rfl) | exact Or.inr (Or.inr rfl))))) (se_op op_mul k_mul se_int (se_var (i := 1) rfl (by first | exact Or.inl rfl | exact Or.inr (Or.inl rfl) | exact Or.inr (Or.inr rfl))))) se_int))
  (sb_cons (ss_set (i := 4) nd rfl (by first | exact Or.inl rfl | exact Or.inr rfl) (se_op op_mod k_mod (se_callTy call_int1 kc_int rfl e.n_int bt_int (sa_cons (se_op op_mul k_mul (se_var (i := 4) rfl (by first | exact Or.inl rfl | exact Or.inr (Or.inl rfl) | exact Or.inr (Or.inr rfl))) se_int) sa_nil)) se_int))
  (sb_one (ss_ret (se_lstN (sa_cons (se_op op_mul k_mul (se_var (i := 3) rfl (by first | exact Or.inl rfl | exact Or.inr (Or.inl rfl) | exact Or.inr (Or.inr rfl))) (se_callTy call_int1 kc_int rfl e.n_int bt_int (sa_cons (se_cmp op_ge k_ge (se_var (i := 3) rfl (by first | exact Or.inl rfl | exact Or.inr (Or.inl rfl) | exact Or.inr (Or.inr rfl))) (se_op op_pow k_pow se_int se_int) (nomark _)) sa_nil))) (sa_cons (se_op op_mod k_mod (se_callTy call_int1 kc_int rfl e.n_int bt_int (sa_cons (se_op op_mul k_mul (se_var (i := 4) rfl (by first | exact Or.inl rfl | exact Or.inr (Or.inl rfl) | exact Or.inr (Or.inr rfl))) (se_var (i := 4) rfl (by first | exact Or.inl rfl | exact Or.inr (Or.inl rfl) | exact Or.inr (Or.inr rfl)))) sa_nil)) se_int) sa_nil)))))))))
  exact R

theorem sc_BadText___init__ : FnScope ["self", "index"] ["self", "index"] (defScope (inClass (top 4) 0)) := ⟨rfl, rfl, rfl, by decide +kernel, rfl, by decide +kernel, by decide +kernel⟩
theorem s_BadText___init__ (e : Ev w K mg) : ∃ fd, FnOk P w K mg base (L2.CX P w) 2 (He.fAd K ("BadText", some "__init__")) fd ["self", "index"] (spX K "index") ∧ Binds K fd ["self", "index"] [] := by
  obtain ⟨fd, F⟩ := e.d_BadText___init__
  have S := sc_BadText___init__
  refine ⟨fd, fn_excInit (t := "a line is not as it must be") F S fun cdv A outer s H E => ?_, F.bindsN fun _ _ _ _ _ _ us hl => match us, hl with | [_, _], _ => rfl⟩
  exact pss_cons (ps_expr (pe_baseinit rfl e.g_NamesError e.cr_NamesError e.vv_NamesError (pa_cons (pv 0) (pa_cons pe_str pa_nil)))) (pss_one (ps_ost (pv 0) (pv 1)))

def N_book_from : List Str := ["text", "words", "values", "parts", "part", "value"]
def m_book_from : MS := sSeq (sSet 1 (cSplitN (cVar 0) (cC (.str " "))))
  (sSeq (sIf (cOr (cB (c2 (oEq true) (cCall (f1 lenD) (aCons (cVar 1) (aNil))) (cC (.int 7)))) (cOr (cB (cInK (tb_NEARS.map fun q => (q.1, q.2.d)) true (c2 oIx (cVar 1) (cC (.int 5))))) (cB (cInK (tb_MARKS.map fun q => (q.1, q.2.d)) true (c2 oIx (cVar 1) (cC (.int 6))))))) (sRet (cC .non))
  (sNil))
  (sSeq (sSub (cVar 1) (cC (.int 0)) (cRepl "." " " (c2 oIx (cVar 1) (cC (.int 0)))))
  (sSeq (sSet 2 (c2 oPlus (cSl (cVar 1) (oNone) (oSome (cC (.int 5)))) (cLst (aCons (cIxK (tb_NEARS.map fun q => (q.1, q.2.d)) (c2 oIx (cVar 1) (cC (.int 5)))) (aCons (cIxK (tb_MARKS.map fun q => (q.1, q.2.d)) (c2 oIx (cVar 1) (cC (.int 6)))) (aNil))))))
  (sSeq (sIf (cNot (cB (cCall (f1 allD) (aCons (cLc (iZipK (tb_PARTS.map (·.1)) (cVar 2)) (gT 2 (gsC (gN 4) (gsC (gN 5) (gsN)))) (mYes) (c2 (oIn false) (cVar 5) (cIxK (tb_PARTS.map fun q => (q.1, q.2.d)) (cVar 4))) [4, 5]) (aNil))))) (sRet (cC .non))
  (sNil))
  (sSeq (sSet 3 (cDc (iZipK (tb_PARTS.map (·.1)) (cVar 2)) (gT 2 (gsC (gN 4) (gsC (gN 5) (gsN)))) (mYes) (cVar 4) (cVar 5) [4, 5]))
  (sRet (cCallS (kws_Book___init__.map (·.1)) (mkF "Book" F_Book___init__) aNil (cVar 3))))))))
def F_book_from : FF := runF m_book_from 1 6

theorem sc_book_from : FnScope N_book_from ["text"] (defScope (top 22)) := ⟨rfl, rfl, rfl, by decide +kernel, rfl, by decide +kernel, by decide +kernel⟩
theorem s_book_from (e : Ev w K mg) : Is P w K mg base (7 + 1) (He.fAd K ("book_from", none)) ["text"] F_book_from := by
  obtain ⟨fd, F⟩ := e.d_book_from
  have i_Book___init__ := s_Book___init__ (P := P) (base := base) e
  have nd := sc_book_from.nd
  have B : Binds K fd ["text"] [] := F.bindsN fun _ _ _ _ _ _ us hl => match us, hl with | [_], _ => rfl
  have R : Is P w K mg base (7 + 1) (He.fAd K ("book_from", none)) ["text"] (runF m_book_from 1 6) := by
    refine is_mk (k := 7) (m := m_book_from) (N := N_book_from) F sc_book_from B fun cdv A outer s H E W hr tk => ?_
    exact (sb_cons (ss_set (i := 1) nd rfl (by first | exact Or.inl rfl | exact Or.inr rfl) (se_splitN (se_var (i := 0) rfl (by first | exact Or.inl rfl | exact Or.inr (Or.inl rfl) | exact Or.inr (Or.inr rfl))) se_str))
  (sb_cons (ss_if (SW.pt (sw_or (st_cmp (op_neA hr.u64) k_ne (se_callB call_lenA kc_len rfl e.n_len bt_len (sa_cons (se_var (i := 1) rfl (by first | exact Or.inl rfl | exact Or.inr (Or.inl rfl) | exact Or.inr (Or.inr rfl))) sa_nil)) se_int (nomark _)) (sw_or (st_notinK rfl e.g_NEARS e.tbl_NEARS (se_ix hr.u1 (se_var (i := 1) rfl (by first | exact Or.inl rfl | exact Or.inr (Or.inl rfl) | exact Or.inr (Or.inr rfl))) se_int)) (sw_or1 (st_notinK rfl e.g_MARKS e.tbl_MARKS (se_ix hr.u1 (se_var (i := 1) rfl (by first | exact Or.inl rfl | exact Or.inr (Or.inl rfl) | exact Or.inr (Or.inr rfl))) se_int)))))) (sb_one (ss_ret se_non))
  sb_nil)
  (sb_cons (ss_sub hr.u1 (se_var (i := 1) rfl (by first | exact Or.inl rfl | exact Or.inr (Or.inl rfl) | exact Or.inr (Or.inr rfl))) se_int (se_replB (seb_ix hr.u1 (se_var (i := 1) rfl (by first | exact Or.inl rfl | exact Or.inr (Or.inl rfl) | exact Or.inr (Or.inr rfl))) seb_int) (by decide +kernel)))
  (sb_cons (ss_set (i := 2) nd rfl (by first | exact Or.inl rfl | exact Or.inr rfl) (se_op op_plus k_plus (se_slice (se_var (i := 1) rfl (by first | exact Or.inl rfl | exact Or.inr (Or.inl rfl) | exact Or.inr (Or.inr rfl))) so_none (so_some se_int)) (se_lst (sa_cons (se_ixK rfl e.g_NEARS e.tbl_NEARS (se_ix hr.u1 (se_var (i := 1) rfl (by first | exact Or.inl rfl | exact Or.inr (Or.inl rfl) | exact Or.inr (Or.inr rfl))) se_int)) (sa_cons (se_ixK rfl e.g_MARKS e.tbl_MARKS (se_ix hr.u1 (se_var (i := 1) rfl (by first | exact Or.inl rfl | exact Or.inr (Or.inl rfl) | exact Or.inr (Or.inr rfl))) se_int)) sa_nil)))))
  (sb_cons (ss_if (st_not (st_val (se_callB (cr_all rfl) kc_all rfl e.n_all bt_all (sa_cons (se_lc (own := [("part", 4), ("value", 5)]) rfl nd (si_zipD rfl e.n_zip rfl e.g_PARTS e.kk_PARTS (se_var (i := 2) rfl (by first | exact Or.inl rfl | exact Or.inr (Or.inl rfl) | exact Or.inr (Or.inr rfl)))) (blkOk_by (own := [("part", 4), ("value", 5)]) (N := N_book_from) (sc := (defScope (top 22))) (by decide +kernel)) (fun _ _ _ _ _ => (sg_tup (n := 2) rfl (sgs_cons (sg_name (i := 4) nd rfl (by first | exact Or.inl rfl | exact Or.inr rfl)) (sgs_cons (sg_name (i := 5) nd rfl (by first | exact Or.inl rfl | exact Or.inr rfl)) sgs_nil)))) (fun _ _ _ _ _ => sts_nil) (fun _ _ _ _ _ => (se_cmp (op_inA hr.u1) (k_in false) (se_var (i := 5) rfl (by first | exact Or.inl rfl | exact Or.inr (Or.inl rfl) | exact Or.inr (Or.inr rfl))) (se_ixK rfl e.g_PARTS e.tbl_PARTS (se_var (i := 4) rfl (by first | exact Or.inl rfl | exact Or.inr (Or.inl rfl) | exact Or.inr (Or.inr rfl)))) (by with_unfolding_all rfl))) (by decide)) sa_nil)))) (sb_one (ss_ret se_non))
  sb_nil)
  (sb_cons (ss_setDc (i := 3) (own := [("part", 4), ("value", 5)]) rfl nd rfl rfl (sw_trueD rfl rfl rfl (by decide +kernel)) (si_zipD rfl e.n_zip rfl e.g_PARTS e.kk_PARTS (se_var (i := 2) rfl (by first | exact Or.inl rfl | exact Or.inr (Or.inl rfl) | exact Or.inr (Or.inr rfl)))) (blkOk_by (own := [("part", 4), ("value", 5)]) (N := N_book_from) (sc := (defScope (top 22))) (by decide +kernel)) (fun _ _ _ _ _ => (sg_tup (n := 2) rfl (sgs_cons (sg_name (i := 4) nd rfl (by first | exact Or.inl rfl | exact Or.inr rfl)) (sgs_cons (sg_name (i := 5) nd rfl (by first | exact Or.inl rfl | exact Or.inr rfl)) sgs_nil)))) (fun _ _ _ _ _ => sts_nil) (fun _ _ _ _ _ => (se_var (i := 4) rfl (by first | exact Or.inl rfl | exact Or.inr (Or.inl rfl) | exact Or.inr (Or.inr rfl)))) (fun _ _ _ _ _ => (se_var (i := 5) rfl (by first | exact Or.inl rfl | exact Or.inr (Or.inl rfl) | exact Or.inr (Or.inr rfl)))) (by decide))
  (sb_one (ss_ret (se_callS (i_Book___init__.mkK tk e.mk_Book (hr.mono (by decide))) (by decide +kernel) (by decide) rfl e.g_Book e.kp_Book sa_nil (se_var (i := 3) rfl (by first | exact Or.inl rfl | exact Or.inr (Or.inl rfl) | exact Or.inr (Or.inr rfl))) (fun _ _ _ _ e => by cases e; rfl))))))))))
  exact R

def N_read_book : List Str := ["text", "found"]
def m_read_book : MS := sSeq (sSet 1 (cIf (cB (cIsiO (isiT io2_t io2_o) (cVar 0))) (cCall F_book_from (aCons (cVar 0) (aNil))) (cC .non)))
  (sSeq (sIf (cB (c2 (oIsN false) (cVar 1) (cC .non))) (sRaise "BadText" "index" (cC .non))
  (sNil))
  (sRet (cVar 1)))
def F_read_book : FF := runF m_read_book 1 2

theorem sc_read_book : FnScope N_read_book ["text"] (defScope (top 23)) := ⟨rfl, rfl, rfl, by decide +kernel, rfl, by decide +kernel, by decide +kernel⟩
theorem s_read_book (e : Ev w K mg) : Is P w K mg base (9 + 1) (He.fAd K ("read_book", none)) ["text"] F_read_book := by
  obtain ⟨fd, F⟩ := e.d_read_book
  have i_book_from := s_book_from (P := P) (base := base) e
  have i_BadText___init__ := s_BadText___init__ (P := P) (base := base) e
  have nd := sc_read_book.nd
  have B : Binds K fd ["text"] [] := F.bindsN fun _ _ _ _ _ _ us hl => match us, hl with | [_], _ => rfl
  have R : Is P w K mg base (9 + 1) (He.fAd K ("read_book", none)) ["text"] (runF m_read_book 1 2) := by
    refine is_mk (k := 9) (m := m_read_book) (N := N_read_book) F sc_read_book B fun cdv A outer s H E W hr tk => ?_
    exact (sb_cons (ss_set (i := 1) nd rfl (by first | exact Or.inl rfl | exact Or.inr rfl) (se_ifExp (st_val (se_isiO rfl e.n_isinstance (se_var (i := 0) rfl (by first | exact Or.inl rfl | exact Or.inr (Or.inl rfl) | exact Or.inr (Or.inr rfl))) (pe_bltn (v := .ty "str") rfl e.n_str bt_str rfl (by decide) (by decide)) (.ty "str") e.isi_io2_t_str)) (se_call (i_book_from.cal tk (hr.mono (by decide))) rfl e.g_book_from e.kp_book_from (sa_cons (se_var (i := 0) rfl (by first | exact Or.inl rfl | exact Or.inr (Or.inl rfl) | exact Or.inr (Or.inr rfl))) sa_nil)) se_non))
  (sb_cons (ss_if (st_cmp op_isN k_isN (se_var (i := 1) rfl (by first | exact Or.inl rfl | exact Or.inr (Or.inl rfl) | exact Or.inr (Or.inr rfl))) se_non (nomark _)) (sb_one (ss_raise (k := 2) rfl tk e.oex_BadText e.hno_BadText_index e.me_BadText_DinitD.at_ (beq_iff_eq.mp e.me_BadText_DinitD.fn) i_BadText___init__.choose_spec.1 (hr.rm.mono (by decide)) i_BadText___init__.choose_spec.2 rfl e.g_BadText se_non))
  sb_nil)
  (sb_one (ss_ret (se_var (i := 1) rfl (by first | exact Or.inl rfl | exact Or.inr (Or.inl rfl) | exact Or.inr (Or.inr rfl)))))))
  exact R

def N_is_name : List Str := ["value", "sign"]
def m_is_name : MS := sRet (cAndV (cIsi ty_str (cVar 0)) (cAndV (cChain oLe oLe (cC (.int 1)) (cCall (f1 lenD) (aCons (cVar 0) (aNil))) (cC (.int 8))) (cCall (f1 allD) (aCons (cLc (iText (cVar 0)) (gN 1) (mYes) (c2 (oIn false) (cVar 1) (cC (.str "abcdefghijklmnopqrstuvwxyz"))) [1]) (aNil)))))
def F_is_name : FF := runF m_is_name 1 2

theorem sc_is_name : FnScope N_is_name ["value"] (defScope (top 8)) := ⟨rfl, rfl, rfl, by decide +kernel, rfl, by decide +kernel, by decide +kernel⟩
theorem s_is_name (e : Ev w K mg) : Is P w K mg base (1 + 1) (He.fAd K ("is_name", none)) ["value"] F_is_name := by
  obtain ⟨fd, F⟩ := e.d_is_name
  have h_MOST_LETTERS := e.i_MOST_LETTERS
  have h_LETTERS := e.s_LETTERS
  have nd := sc_is_name.nd
  have B : Binds K fd ["value"] [] := F.bindsN fun _ _ _ _ _ _ us hl => match us, hl with | [_], _ => rfl
  have R : Is P w K mg base (1 + 1) (He.fAd K ("is_name", none)) ["value"] (runF m_is_name 1 2) := by
    refine is_mk (k := 1) (m := m_is_name) (N := N_is_name) F sc_is_name B fun cdv A outer s H E W hr tk => ?_
    exact (sb_one (ss_ret (se_and (se_isi (Ts := "str") rfl e.n_isinstance (se_var (i := 0) rfl (by first | exact Or.inl rfl | exact Or.inr (Or.inl rfl) | exact Or.inr (Or.inr rfl))) rfl e.n_str bt_str (by decide) (by decide) tk_str) (se_and (se_chain op_le k_le op_le k_le se_int (se_callB call_lenA kc_len rfl e.n_len bt_len (sa_cons (se_var (i := 0) rfl (by first | exact Or.inl rfl | exact Or.inr (Or.inl rfl) | exact Or.inr (Or.inr rfl))) sa_nil)) (se_globI (i := 8) rfl h_MOST_LETTERS.choose_spec ⟨_, rfl⟩)) (se_one (se_callB (cr_all rfl) kc_all rfl e.n_all bt_all (sa_cons (se_lc (own := [("sign", 1)]) rfl nd (si_text (se_var (i := 0) rfl (by first | exact Or.inl rfl | exact Or.inr (Or.inl rfl) | exact Or.inr (Or.inr rfl)))) (blkOk_by (own := [("sign", 1)]) (N := N_is_name) (sc := (defScope (top 8))) (by decide +kernel)) (fun _ _ _ _ _ => (sg_name (i := 1) nd rfl (by first | exact Or.inl rfl | exact Or.inr rfl))) (fun _ _ _ _ _ => sts_nil) (fun _ _ _ _ _ => (se_cmp (op_inA hr.u1) (k_in false) (se_var (i := 1) rfl (by first | exact Or.inl rfl | exact Or.inr (Or.inl rfl) | exact Or.inr (Or.inr rfl))) (se_globS (z := "abcdefghijklmnopqrstuvwxyz") rfl h_LETTERS.choose_spec ⟨_, rfl⟩) (by with_unfolding_all rfl))) (by decide)) sa_nil)))))))
  exact R

def N_is_place : List Str := ["value", "name"]
def m_is_place : MS := sSeq (sIf (cOr (cNot (cB (cIsi ty_tuple (cVar 0)))) (cOr (cB (c2 (oEq false) (cCall (f1 lenD) (aCons (cVar 0) (aNil))) (cC (.int 0)))) (cNot (cB (cIsi ty_str (c2 oIx (cVar 0) (cC (.int 0)))))))) (sRet (cC (.bl false)))
  (sNil))
  (sRet (cAndV (c2 (oEq false) (cGetK (tb_LENGTHS.map fun q => (q.1, q.2.d)) (c2 oIx (cVar 0) (cC (.int 0))) (cC (.int 0))) (cCall (f1 lenD) (aCons (cVar 0) (aNil)))) (cCall (f1 allD) (aCons (cLc (iTupD (cSl (cVar 0) (oSome (cC (.int 1))) (oNone))) (gN 1) (mYes) (cCall F_is_name (aCons (cVar 1) (aNil))) [1]) (aNil)))))
def F_is_place : FF := runF m_is_place 1 2

theorem sc_is_place : FnScope N_is_place ["value"] (defScope (top 11)) := ⟨rfl, rfl, rfl, by decide +kernel, rfl, by decide +kernel, by decide +kernel⟩
theorem s_is_place (e : Ev w K mg) : Is P w K mg base (3 + 1) (He.fAd K ("is_place", none)) ["value"] F_is_place := by
  obtain ⟨fd, F⟩ := e.d_is_place
  have i_is_name := s_is_name (P := P) (base := base) e
  have nd := sc_is_place.nd
  have B : Binds K fd ["value"] [] := F.bindsN fun _ _ _ _ _ _ us hl => match us, hl with | [_], _ => rfl
  have R : Is P w K mg base (3 + 1) (He.fAd K ("is_place", none)) ["value"] (runF m_is_place 1 2) := by
    refine is_mk (k := 3) (m := m_is_place) (N := N_is_place) F sc_is_place B fun cdv A outer s H E W hr tk => ?_
    exact (sb_cons (ss_if (SW.pt (sw_or (st_not (st_val (se_isi (Ts := "tuple") rfl e.n_isinstance (se_var (i := 0) rfl (by first | exact Or.inl rfl | exact Or.inr (Or.inl rfl) | exact Or.inr (Or.inr rfl))) rfl e.n_tuple bt_tuple (by decide) (by decide) tk_tuple))) (sw_or (st_cmp (op_eqA hr.u64) k_eq (se_callB call_lenA kc_len rfl e.n_len bt_len (sa_cons (se_var (i := 0) rfl (by first | exact Or.inl rfl | exact Or.inr (Or.inl rfl) | exact Or.inr (Or.inr rfl))) sa_nil)) se_int (nomark _)) (sw_or1 (st_not (st_val (se_isi (Ts := "str") rfl e.n_isinstance (se_ix hr.u1 (se_var (i := 0) rfl (by first | exact Or.inl rfl | exact Or.inr (Or.inl rfl) | exact Or.inr (Or.inr rfl))) se_int) rfl e.n_str bt_str (by decide) (by decide) tk_str))))))) (sb_one (ss_ret se_bl))
  sb_nil)
  (sb_one (ss_ret (se_and (se_cmp (op_eqA hr.u64) k_eq (se_getK rfl e.g_LENGTHS e.tbl_LENGTHS (se_ix hr.u1 (se_var (i := 0) rfl (by first | exact Or.inl rfl | exact Or.inr (Or.inl rfl) | exact Or.inr (Or.inr rfl))) se_int) se_int ⟨rfl, rfl, rfl, rfl⟩) (se_callB call_lenA kc_len rfl e.n_len bt_len (sa_cons (se_var (i := 0) rfl (by first | exact Or.inl rfl | exact Or.inr (Or.inl rfl) | exact Or.inr (Or.inr rfl))) sa_nil)) (nomark _)) (se_one (se_callB (cr_all rfl) kc_all rfl e.n_all bt_all (sa_cons (se_lc (own := [("name", 1)]) rfl nd (si_tup (se_slice (se_var (i := 0) rfl (by first | exact Or.inl rfl | exact Or.inr (Or.inl rfl) | exact Or.inr (Or.inr rfl))) (so_some se_int) so_none)) (blkOk_by (own := [("name", 1)]) (N := N_is_place) (sc := (defScope (top 11))) (by decide +kernel)) (fun _ _ _ _ _ => (sg_name (i := 1) nd rfl (by first | exact Or.inl rfl | exact Or.inr rfl))) (fun _ _ _ _ _ => sts_nil) (fun _ _ _ _ _ => (se_call (i_is_name.cal takes_no (hr.mono (by decide))) rfl e.g_is_name e.kp_is_name (sa_cons (se_var (i := 1) rfl (by first | exact Or.inl rfl | exact Or.inr (Or.inl rfl) | exact Or.inr (Or.inr rfl))) sa_nil))) (by decide)) sa_nil)))))))
  exact R

def N_read_place : List Str := ["text", "found"]
def m_read_place : MS := sSeq (sSet 1 (cIf (cB (cIsi ty_str (cVar 0))) (cTupOf (cSplit (cVar 0) (cC (.str " ")))) (cTup (aNil))))
  (sSeq (sIf (cNot (cB (cCall F_is_place (aCons (cVar 1) (aNil))))) (sRaise "BadText" "index" (cC .non))
  (sNil))
  (sRet (cVar 1)))
def F_read_place : FF := runF m_read_place 1 2

theorem sc_read_place : FnScope N_read_place ["text"] (defScope (top 25)) := ⟨rfl, rfl, rfl, by decide +kernel, rfl, by decide +kernel, by decide +kernel⟩
theorem s_read_place (e : Ev w K mg) : Is P w K mg base (5 + 1) (He.fAd K ("read_place", none)) ["text"] F_read_place := by
  obtain ⟨fd, F⟩ := e.d_read_place
  have i_is_place := s_is_place (P := P) (base := base) e
  have i_BadText___init__ := s_BadText___init__ (P := P) (base := base) e
  have nd := sc_read_place.nd
  have B : Binds K fd ["text"] [] := F.bindsN fun _ _ _ _ _ _ us hl => match us, hl with | [_], _ => rfl
  have R : Is P w K mg base (5 + 1) (He.fAd K ("read_place", none)) ["text"] (runF m_read_place 1 2) := by
    refine is_mk (k := 5) (m := m_read_place) (N := N_read_place) F sc_read_place B fun cdv A outer s H E W hr tk => ?_
    exact (sb_cons (ss_set (i := 1) nd rfl (by first | exact Or.inl rfl | exact Or.inr rfl) (se_ifExp (st_val (se_isi (Ts := "str") rfl e.n_isinstance (se_var (i := 0) rfl (by first | exact Or.inl rfl | exact Or.inr (Or.inl rfl) | exact Or.inr (Or.inr rfl))) rfl e.n_str bt_str (by decide) (by decide) tk_str)) (se_tupOf rfl e.n_tuple (se_split (se_var (i := 0) rfl (by first | exact Or.inl rfl | exact Or.inr (Or.inl rfl) | exact Or.inr (Or.inr rfl))) se_str)) (se_tup sa_nil)))
  (sb_cons (ss_if (st_not (st_val (se_call (i_is_place.cal tk (hr.mono (by decide))) rfl e.g_is_place e.kp_is_place (sa_cons (se_var (i := 1) rfl (by first | exact Or.inl rfl | exact Or.inr (Or.inl rfl) | exact Or.inr (Or.inr rfl))) sa_nil)))) (sb_one (ss_raise (k := 2) rfl tk e.oex_BadText e.hno_BadText_index e.me_BadText_DinitD.at_ (beq_iff_eq.mp e.me_BadText_DinitD.fn) i_BadText___init__.choose_spec.1 (hr.rm.mono (by decide)) i_BadText___init__.choose_spec.2 rfl e.g_BadText se_non))
  sb_nil)
  (sb_one (ss_ret (se_var (i := 1) rfl (by first | exact Or.inl rfl | exact Or.inr (Or.inl rfl) | exact Or.inr (Or.inr rfl)))))))
  exact R

def N_law_refused : List Str := ["_law_text", "_law_is_book", "e"]
def m_law_refused : MS := sSeq (sTry (sIf (cB (cVar 1)) (sExpr (cCall F_read_book (aCons (cVar 0) (aNil))))
  (sExpr (cCall F_read_place (aCons (cVar 0) (aNil))))) (([("NamesError", false), ("BadPart", false), ("BadText", true)], some 2, sRet (cLst (aCons (cExcI 2 "index" ["BadText"]) (aNil)))) :: ([("NamesError", true), ("BadPart", true), ("BadText", true)], some 2, sRet (cLst (aNil))) :: []))
  (sRet (cLst (aNil)))
def F_law_refused : FF := runF m_law_refused 2 3

theorem sc_law_refused : FnScope N_law_refused ["_law_text", "_law_is_book"] (defScope (top 34)) := ⟨rfl, rfl, rfl, by decide +kernel, rfl, by decide +kernel, by decide +kernel⟩
theorem s_law_refused (e : Ev w K mg) : Is P w K mg base (11 + 1) (He.fAd K ("_law_refused", none)) ["_law_text", "_law_is_book"] F_law_refused := by
  obtain ⟨fd, F⟩ := e.d_law_refused
  have i_read_book := s_read_book (P := P) (base := base) e
  have i_read_place := s_read_place (P := P) (base := base) e
  have nd := sc_law_refused.nd
  have B : Binds K fd ["_law_text", "_law_is_book"] [] := F.bindsN fun _ _ _ _ _ _ us hl => match us, hl with | [_, _], _ => rfl
  have R : Is P w K mg base (11 + 1) (He.fAd K ("_law_refused", none)) ["_law_text", "_law_is_book"] (runF m_law_refused 2 3) := by
    refine is_mk (k := 11) (m := m_law_refused) (N := N_law_refused) F sc_law_refused B fun cdv A outer s H E W hr tk => ?_
    exact (sb_cons (ss_try rfl rfl tk (fun _ _ _ tk2 _ => (sb_one (ss_if (st_val (se_var (i := 1) rfl (by first | exact Or.inl rfl | exact Or.inr (Or.inl rfl) | exact Or.inr (Or.inr rfl)))) (sb_one (ss_expr (se_call (i_read_book.cal tk2 (hr.mono (by decide))) rfl e.g_read_book e.kp_read_book (sa_cons (se_var (i := 0) rfl (by first | exact Or.inl rfl | exact Or.inr (Or.inl rfl) | exact Or.inr (Or.inr rfl))) sa_nil))))
  (sb_one (ss_expr (se_call (i_read_place.cal tk2 (hr.mono (by decide))) rfl e.g_read_place e.kp_read_place (sa_cons (se_var (i := 0) rfl (by first | exact Or.inl rfl | exact Or.inr (Or.inl rfl) | exact Or.inr (Or.inr rfl))) sa_nil))))))) (.consN (i := 2) nd rfl rfl ⟨rfl, by decide, .inl e.g_BadText⟩ (List.forall_mem_cons.mpr ⟨e.xm_NamesError_BadText, (List.forall_mem_cons.mpr ⟨e.xm_BadPart_BadText, (List.forall_mem_cons.mpr ⟨e.xm_BadText_BadText, (fun _ h => absurd h List.not_mem_nil)⟩)⟩)⟩) (fun _ _ => (sb_one (ss_ret (se_lst (sa_cons (se_exc (i := 2) rfl (by first | exact Or.inl rfl | exact Or.inr (Or.inl rfl) | exact Or.inr (Or.inr rfl)) ["BadText"] (List.forall_mem_cons.mpr ⟨⟨e.xf_BadText, e.hno_BadText_index⟩, (fun _ h => absurd h List.not_mem_nil)⟩)) sa_nil))))) (.consN (i := 2) nd rfl rfl ⟨rfl, by decide, .inl e.g_NamesError⟩ (List.forall_mem_cons.mpr ⟨e.xm_NamesError_NamesError, (List.forall_mem_cons.mpr ⟨e.xm_BadPart_NamesError, (List.forall_mem_cons.mpr ⟨e.xm_BadText_NamesError, (fun _ h => absurd h List.not_mem_nil)⟩)⟩)⟩) (fun _ _ => (sb_one (ss_ret (se_lst sa_nil)))) .nil)))
  (sb_one (ss_ret (se_lst sa_nil))))
  exact R

def N_law_rules_of : List Str := ["_law_pool", "_law_levels", "_law_rules", "_law_rows", "_law_groups", "_law_ranks", "_law_part", "_law_values", "_law_level", "_law_k"]
def m_law_rules_of : MS := sSeq (sAsg (gT 2 (gsC (gN 4) (gsC (gN 5) (gsN)))) (cTup (aCons (cLst (aCons (cC (.str "own")) (aCons (cC (.str "named")) (aCons (cC (.str "all")) (aNil))))) (aCons (cLst (aCons (cCall F_law_draw (aCons (cVar 0) (aCons (cC (.int 3)) (aNil)))) (aCons (cCall F_law_draw (aCons (cVar 0) (aCons (cC (.int 3)) (aNil)))) (aCons (cCall F_law_draw (aCons (cVar 0) (aCons (cC (.int 3)) (aNil)))) (aNil))))) (aNil)))))
  (sSeq (sSet 1 (cLc (iRange1 (aCons (cC (.int 3)) (aNil))) (gN 8) (mYes) (cLc (iRange1 (aCons (cC (.int 3)) (aNil))) (gN 9) (cB (c2 (oEq false) (c2 oIx (cVar 5) (cVar 9)) (cVar 8))) (c2 oIx (cVar 4) (cVar 9)) [9]) [8]))
  (sSeq (sSet 2 (cDis [(cC (.str "order"), cJoin (cC (.str " ")) (cLc (iSeq (cVar 1)) (gN 8) (cB (c2 (oEq true) (cVar 8) (cLst (aNil)))) (cJoin (cC (.str "=")) (cVar 8)) [8]))]))
  (sSeq (sSet 3 (cLst (aCons (cTup (aCons (cC (.str "given")) (aCons (cLst (aCons (cC (.str "own")) (aCons (cC (.str "both")) (aNil)))) (aNil)))) (aCons (cTup (aCons (cC (.str "alls")) (aCons (cLst (aCons (cC (.str "use")) (aCons (cC (.str "once")) (aCons (cC (.str "first")) (aCons (cC (.str "last")) (aNil)))))) (aNil)))) (aCons (cTup (aCons (cC (.str "near")) (aCons (cLst (aCons (cC (.bl true)) (aCons (cC (.bl false)) (aNil)))) (aNil)))) (aNil))))))
  (sSeq (sSet 3 (c2 oPlus (cVar 3) (cLst (aCons (cTup (aCons (cC (.str "bodies")) (aCons (cLst (aCons (cC (.str "ahead")) (aCons (cC (.str "behind")) (aCons (cC (.str "never")) (aNil))))) (aNil)))) (aCons (cTup (aCons (cC (.str "spreads")) (aCons (cLst (aCons (cC (.str "member")) (aCons (cC (.str "spread")) (aCons (cC (.str "tie")) (aNil))))) (aNil)))) (aNil))))))
  (sSeq (sFor (iSeq (c2 oPlus (cVar 3) (cLst (aCons (cTup (aCons (cC (.str "marks")) (aCons (cLst (aCons (cC (.bl true)) (aCons (cC (.bl false)) (aNil)))) (aNil)))) (aNil))))) (gT 2 (gsC (gN 6) (gsC (gN 7) (gsN))))
  (sSub (cVar 2) (cVar 6) (cCall F_law_pick (aCons (cVar 0) (aCons (cVar 7) (aNil))))))
  (sRet (cVar 2)))))))
def F_law_rules_of : FF := runF m_law_rules_of 1 10

theorem sc_law_rules_of : FnScope N_law_rules_of ["_law_pool"] (defScope (top 31)) := ⟨rfl, rfl, rfl, by decide +kernel, rfl, by decide +kernel, by decide +kernel⟩
theorem s_law_rules_of (e : Ev w K mg) : Is P w K mg base (5 + 1) (He.fAd K ("_law_rules_of", none)) ["_law_pool"] F_law_rules_of := by
  obtain ⟨fd, F⟩ := e.d_law_rules_of
  have i_law_draw := s_law_draw (P := P) (base := base) e
  have i_law_pick := s_law_pick (P := P) (base := base) e
  have nd := sc_law_rules_of.nd
  have B : Binds K fd ["_law_pool"] [] := F.bindsN fun _ _ _ _ _ _ us hl => match us, hl with | [_], _ => rfl
  have R : Is P w K mg base (5 + 1) (He.fAd K ("_law_rules_of", none)) ["_law_pool"] (runF m_law_rules_of 1 10) := by
    refine is_mk (k := 5) (m := m_law_rules_of) (N := N_law_rules_of) F sc_law_rules_of B fun cdv A outer s H E W hr tk => ?_
    exact (sb_cons (ss_asg (se_tup (sa_cons (se_lst (sa_cons se_str (sa_cons se_str (sa_cons se_str sa_nil)))) (sa_cons (se_lst (sa_cons (se_call (i_law_draw.cal tk (hr.mono (by decide))) rfl e.g_law_draw e.kp_law_draw (sa_cons (se_var (i := 0) rfl (by first | exact Or.inl rfl | exact Or.inr (Or.inl rfl) | exact Or.inr (Or.inr rfl))) (sa_cons se_int sa_nil))) (sa_cons (se_call (i_law_draw.cal tk (hr.mono (by decide))) rfl e.g_law_draw e.kp_law_draw (sa_cons (se_var (i := 0) rfl (by first | exact Or.inl rfl | exact Or.inr (Or.inl rfl) | exact Or.inr (Or.inr rfl))) (sa_cons se_int sa_nil))) (sa_cons (se_call (i_law_draw.cal tk (hr.mono (by decide))) rfl e.g_law_draw e.kp_law_draw (sa_cons (se_var (i := 0) rfl (by first | exact Or.inl rfl | exact Or.inr (Or.inl rfl) | exact Or.inr (Or.inr rfl))) (sa_cons se_int sa_nil))) sa_nil)))) sa_nil))) (sg_tup (n := 2) rfl (sgs_cons (sg_name (i := 4) nd rfl (by first | exact Or.inl rfl | exact Or.inr rfl)) (sgs_cons (sg_name (i := 5) nd rfl (by first | exact Or.inl rfl | exact Or.inr rfl)) sgs_nil))))
  (sb_cons (ss_setLc (i := 1) (own := [("_law_level", 8)]) rfl nd rfl rfl (sw_true rfl rfl rfl (by decide +kernel)) (si_range1 rfl e.n_range (sa_cons se_int sa_nil)) (blkOk_by (own := [("_law_level", 8)]) (N := N_law_rules_of) (sc := (defScope (top 31))) (by decide +kernel)) (fun _ _ _ _ _ => (sg_name (i := 8) nd rfl (by first | exact Or.inl rfl | exact Or.inr rfl))) (fun _ _ _ _ _ => sts_nil) (fun _ _ _ _ _ => (se_lc (own := [("_law_k", 9)]) rfl nd (si_range1 rfl e.n_range (sa_cons se_int sa_nil)) (blkOk_by (own := [("_law_k", 9)]) (N := N_law_rules_of) (sc := (relabel (lcSc (asgE ((defBody (top 31)).getD 1 (top 31)))) (envOfC "" (defScope (top 31)) 0 0 .none))) (by decide +kernel)) (fun _ _ _ _ _ => (sg_name (i := 9) nd rfl (by first | exact Or.inl rfl | exact Or.inr rfl))) (fun _ _ _ _ _ => (sts_one (st_cmp (op_eqA hr.u64) k_eq (se_ix hr.u1 (se_var (i := 5) rfl (by first | exact Or.inl rfl | exact Or.inr (Or.inl rfl) | exact Or.inr (Or.inr rfl))) (se_var (i := 9) rfl (by first | exact Or.inl rfl | exact Or.inr (Or.inl rfl) | exact Or.inr (Or.inr rfl)))) (se_var (i := 8) rfl (by first | exact Or.inl rfl | exact Or.inr (Or.inl rfl) | exact Or.inr (Or.inr rfl))) (nomark _)))) (fun _ _ _ _ _ => (se_ix hr.u1 (se_var (i := 4) rfl (by first | exact Or.inl rfl | exact Or.inr (Or.inl rfl) | exact Or.inr (Or.inr rfl))) (se_var (i := 9) rfl (by first | exact Or.inl rfl | exact Or.inr (Or.inl rfl) | exact Or.inr (Or.inr rfl))))) (by decide))) (by decide))
  (sb_cons (ss_set (i := 2) nd rfl (by first | exact Or.inl rfl | exact Or.inr rfl) (se_dis (.cons se_str (se_join se_str (se_lc (own := [("_law_level", 8)]) rfl nd (si_list (se_var (i := 1) rfl (by first | exact Or.inl rfl | exact Or.inr (Or.inl rfl) | exact Or.inr (Or.inr rfl)))) (blkOk_by (own := [("_law_level", 8)]) (N := N_law_rules_of) (sc := (defScope (top 31))) (by decide +kernel)) (fun _ _ _ _ _ => (sg_name (i := 8) nd rfl (by first | exact Or.inl rfl | exact Or.inr rfl))) (fun _ _ _ _ _ => (sts_one (st_cmp (op_neA hr.u64) k_ne (se_var (i := 8) rfl (by first | exact Or.inl rfl | exact Or.inr (Or.inl rfl) | exact Or.inr (Or.inr rfl))) (se_lst sa_nil) (nomark _)))) (fun _ _ _ _ _ => (se_join se_str (se_var (i := 8) rfl (by first | exact Or.inl rfl | exact Or.inr (Or.inl rfl) | exact Or.inr (Or.inr rfl))))) (by decide))) .nil)))
  (sb_cons (ss_set (i := 3) nd rfl (by first | exact Or.inl rfl | exact Or.inr rfl) (se_lst (sa_cons (se_tup (sa_cons se_str (sa_cons (se_lst (sa_cons se_str (sa_cons se_str sa_nil))) sa_nil))) (sa_cons (se_tup (sa_cons se_str (sa_cons (se_lst (sa_cons se_str (sa_cons se_str (sa_cons se_str (sa_cons se_str sa_nil))))) sa_nil))) (sa_cons (se_tup (sa_cons se_str (sa_cons (se_lst (sa_cons se_bl (sa_cons se_bl sa_nil))) sa_nil))) sa_nil)))))
  (sb_cons (ss_set (i := 3) nd rfl (by first | exact Or.inl rfl | exact Or.inr rfl) (se_op op_plus k_plus (se_var (i := 3) rfl (by first | exact Or.inl rfl | exact Or.inr (Or.inl rfl) | exact Or.inr (Or.inr rfl))) (se_lst (sa_cons (se_tup (sa_cons se_str (sa_cons (se_lst (sa_cons se_str (sa_cons se_str (sa_cons se_str sa_nil)))) sa_nil))) (sa_cons (se_tup (sa_cons se_str (sa_cons (se_lst (sa_cons se_str (sa_cons se_str (sa_cons se_str sa_nil)))) sa_nil))) sa_nil)))))
  (sb_cons (ss_for (passes_of rfl) rfl (si_list (se_op op_plus k_plus (se_var (i := 3) rfl (by first | exact Or.inl rfl | exact Or.inr (Or.inl rfl) | exact Or.inr (Or.inr rfl))) (se_lst (sa_cons (se_tup (sa_cons se_str (sa_cons (se_lst (sa_cons se_bl (sa_cons se_bl sa_nil))) sa_nil))) sa_nil)))) (sg_tup (n := 2) rfl (sgs_cons (sg_name (i := 6) nd rfl (by first | exact Or.inl rfl | exact Or.inr rfl)) (sgs_cons (sg_name (i := 7) nd rfl (by first | exact Or.inl rfl | exact Or.inr rfl)) sgs_nil)))
  (sb_one (ss_sub hr.u1 (se_var (i := 2) rfl (by first | exact Or.inl rfl | exact Or.inr (Or.inl rfl) | exact Or.inr (Or.inr rfl))) (se_var (i := 6) rfl (by first | exact Or.inl rfl | exact Or.inr (Or.inl rfl) | exact Or.inr (Or.inr rfl))) (se_call (i_law_pick.cal tk (hr.mono (by decide))) rfl e.g_law_pick e.kp_law_pick (sa_cons (se_var (i := 0) rfl (by first | exact Or.inl rfl | exact Or.inr (Or.inl rfl) | exact Or.inr (Or.inr rfl))) (sa_cons (se_var (i := 7) rfl (by first | exact Or.inl rfl | exact Or.inr (Or.inl rfl) | exact Or.inr (Or.inr rfl))) sa_nil))))))
  (sb_one (ss_ret (se_var (i := 2) rfl (by first | exact Or.inl rfl | exact Or.inr (Or.inl rfl) | exact Or.inr (Or.inr rfl)))))))))))
  exact R

def N_law_spoilt : List Str := ["_law_pool", "_law_text", "_law_words", "_law_at", "_law_found", "_law_word"]
def m_law_spoilt : MS := sSeq (sSet 2 (cSplit (cVar 1) (cC (.str " "))))
  (sSeq (sSet 3 (cCall F_law_draw (aCons (cVar 0) (aCons (cCall (f1 lenD) (aCons (cVar 2) (aNil))) (aNil)))))
  (sSeq (sSet 4 (cLstN (aCons (cJoin (cC (.str " ")) (c2 oPlus (cSl (cVar 2) (oNone) (oSome (cVar 3))) (cSl (cVar 2) (oSome (c2 oPlus (cVar 3) (cC (.int 1)))) (oNone)))) (aCons (cJoin (cC (.str " ")) (c2 oPlus (cVar 2) (cSl (cVar 2) (oNone) (oSome (cC (.int 1)))))) (aCons (c2 oPlus (cVar 1) (cC (.str " "))) (aCons (c2 oPlus (cC (.str " ")) (cVar 1)) (aNil)))))))
  (sSeq (sFor (iSeq (cLst (aCons (cUpper (c2 oIx (cVar 2) (cVar 3))) (aCons (cC (.str "a.b")) (aCons (cC (.str "")) (aNil)))))) (gN 5)
  (sExpr (cApp (cVar 4) (cJoin (cC (.str " ")) (c2 oPlus (c2 oPlus (cSl (cVar 2) (oNone) (oSome (cVar 3))) (cLst (aCons (cVar 5) (aNil)))) (cSl (cVar 2) (oSome (c2 oPlus (cVar 3) (cC (.int 1)))) (oNone)))))))
  (sRet (c2 oPlus (cVar 4) (cLst (aCons (cRepl " " "  " (cVar 1)) (aCons (c2 oPlus (cVar 1) (cC (.str "\n"))) (aCons (cC (.str "")) (aCons (cRepl " " "\t" (cVar 1)) (aNil)))))))))))
def F_law_spoilt : FF := runF m_law_spoilt 2 6

theorem sc_law_spoilt : FnScope N_law_spoilt ["_law_pool", "_law_text"] (defScope (top 35)) := ⟨rfl, rfl, rfl, by decide +kernel, rfl, by decide +kernel, by decide +kernel⟩
theorem s_law_spoilt (e : Ev w K mg) : Is P w K mg base (3 + 1) (He.fAd K ("_law_spoilt", none)) ["_law_pool", "_law_text"] F_law_spoilt := by
  obtain ⟨fd, F⟩ := e.d_law_spoilt
  have i_law_draw := s_law_draw (P := P) (base := base) e
  have nd := sc_law_spoilt.nd
  have B : Binds K fd ["_law_pool", "_law_text"] [] := F.bindsN fun _ _ _ _ _ _ us hl => match us, hl with | [_, _], _ => rfl
  have R : Is P w K mg base (3 + 1) (He.fAd K ("_law_spoilt", none)) ["_law_pool", "_law_text"] (runF m_law_spoilt 2 6) := by
    refine is_mk (k := 3) (m := m_law_spoilt) (N := N_law_spoilt) F sc_law_spoilt B fun cdv A outer s H E W hr tk => ?_
    exact (sb_T (i := 2) nd rfl (by first | exact Or.inl rfl | exact Or.inr rfl) (seb_split (se_var (i := 1) rfl (by first | exact Or.inl rfl | exact Or.inr (Or.inl rfl) | exact Or.inr (Or.inr rfl))) seb_str)
  (sbt_cons (sst_of (ss_set (i := 3) nd rfl (by first | exact Or.inl rfl | exact Or.inr rfl) (se_call (i_law_draw.cal tk (hr.mono (by decide))) rfl e.g_law_draw e.kp_law_draw (sa_cons (se_var (i := 0) rfl (by first | exact Or.inl rfl | exact Or.inr (Or.inl rfl) | exact Or.inr (Or.inr rfl))) (sa_cons (se_callB call_lenA kc_len rfl e.n_len bt_len (sa_cons (se_var (i := 2) rfl (by first | exact Or.inl rfl | exact Or.inr (Or.inl rfl) | exact Or.inr (Or.inr rfl))) sa_nil)) sa_nil)))))
  (sbt_cons (sst_of (ss_set (i := 4) nd rfl (by first | exact Or.inl rfl | exact Or.inr rfl) (se_lstN (sa_cons (se_join se_str (se_op op_plus k_plus (se_slice (se_var (i := 2) rfl (by first | exact Or.inl rfl | exact Or.inr (Or.inl rfl) | exact Or.inr (Or.inr rfl))) so_none (so_some (se_var (i := 3) rfl (by first | exact Or.inl rfl | exact Or.inr (Or.inl rfl) | exact Or.inr (Or.inr rfl))))) (se_slice (se_var (i := 2) rfl (by first | exact Or.inl rfl | exact Or.inr (Or.inl rfl) | exact Or.inr (Or.inr rfl))) (so_some (se_op op_plus k_plus (se_var (i := 3) rfl (by first | exact Or.inl rfl | exact Or.inr (Or.inl rfl) | exact Or.inr (Or.inr rfl))) se_int)) so_none))) (sa_cons (se_join se_str (se_op op_plus k_plus (se_var (i := 2) rfl (by first | exact Or.inl rfl | exact Or.inr (Or.inl rfl) | exact Or.inr (Or.inr rfl))) (se_slice (se_var (i := 2) rfl (by first | exact Or.inl rfl | exact Or.inr (Or.inl rfl) | exact Or.inr (Or.inr rfl))) so_none (so_some se_int)))) (sa_cons (se_op op_plus k_plus (se_var (i := 1) rfl (by first | exact Or.inl rfl | exact Or.inr (Or.inl rfl) | exact Or.inr (Or.inr rfl))) se_str) (sa_cons (se_op op_plus k_plus se_str (se_var (i := 1) rfl (by first | exact Or.inl rfl | exact Or.inr (Or.inl rfl) | exact Or.inr (Or.inr rfl)))) sa_nil)))))))
  (sbt_cons (sst_of (ss_for (passes_of rfl) rfl (si_list (se_lst (sa_cons (se_upper (se_ix hr.u1 (se_var (i := 2) rfl (by first | exact Or.inl rfl | exact Or.inr (Or.inl rfl) | exact Or.inr (Or.inr rfl))) (se_var (i := 3) rfl (by first | exact Or.inl rfl | exact Or.inr (Or.inl rfl) | exact Or.inr (Or.inr rfl))))) (sa_cons se_str (sa_cons se_str sa_nil))))) (sg_name (i := 5) nd rfl (by first | exact Or.inl rfl | exact Or.inr rfl))
  (sb_one (ss_expr (se_app (se_var (i := 4) rfl (by first | exact Or.inl rfl | exact Or.inr (Or.inl rfl) | exact Or.inr (Or.inr rfl))) (se_join se_str (se_op op_plus k_plus (se_op op_plus k_plus (se_slice (se_var (i := 2) rfl (by first | exact Or.inl rfl | exact Or.inr (Or.inl rfl) | exact Or.inr (Or.inr rfl))) so_none (so_some (se_var (i := 3) rfl (by first | exact Or.inl rfl | exact Or.inr (Or.inl rfl) | exact Or.inr (Or.inr rfl))))) (se_lst (sa_cons (se_var (i := 5) rfl (by first | exact Or.inl rfl | exact Or.inr (Or.inl rfl) | exact Or.inr (Or.inr rfl))) sa_nil))) (se_slice (se_var (i := 2) rfl (by first | exact Or.inl rfl | exact Or.inr (Or.inl rfl) | exact Or.inr (Or.inr rfl))) (so_some (se_op op_plus k_plus (se_var (i := 3) rfl (by first | exact Or.inl rfl | exact Or.inr (Or.inl rfl) | exact Or.inr (Or.inr rfl))) se_int)) so_none))))))))
  (sbt_one (sst_ret (set_op op_plus k_plus (set_of (se_var (i := 4) rfl (by first | exact Or.inl rfl | exact Or.inr (Or.inl rfl) | exact Or.inr (Or.inr rfl)))) (set_lst (sat_cons (set_repl (se_var (i := 1) rfl (by first | exact Or.inl rfl | exact Or.inr (Or.inl rfl) | exact Or.inr (Or.inr rfl))) (by decide +kernel)) (sat_cons (set_of (se_op op_plus k_plus (se_var (i := 1) rfl (by first | exact Or.inl rfl | exact Or.inr (Or.inl rfl) | exact Or.inr (Or.inr rfl))) se_str)) (sat_cons (set_of se_str) (sat_cons (set_repl (se_var (i := 1) rfl (by first | exact Or.inl rfl | exact Or.inr (Or.inl rfl) | exact Or.inr (Or.inr rfl))) (by decide +kernel)) sat_nil))))))))))))
  exact R

def N_Book_alls : List Str := ["self"]
def m_Book_alls : MS := sRet (c2 oIx (cFld "Book" "parts" (cVar 0)) (cC (.str "alls")))
def F_Book_alls : FF := runF m_Book_alls 1 1

theorem sc_Book_alls : FnScope N_Book_alls ["self"] (defScope (inClass (top 17) 3)) := ⟨rfl, rfl, rfl, by decide +kernel, rfl, by decide +kernel, by decide +kernel⟩
theorem s_Book_alls (e : Ev w K mg) : Is P w K mg base (1 + 1) (prG K (He.ga K "Book") "alls") ["self"] F_Book_alls := by
  obtain ⟨fd, F⟩ := e.d_Book_alls
  have nd := sc_Book_alls.nd
  have B : Binds K fd ["self"] [] := F.bindsN fun _ _ _ _ _ _ us hl => match us, hl with | [_], _ => rfl
  have R : Is P w K mg base (1 + 1) (prG K (He.ga K "Book") "alls") ["self"] (runF m_Book_alls 1 1) := by
    refine is_mk (k := 1) (m := m_Book_alls) (N := N_Book_alls) F sc_Book_alls B fun cdv A outer s H E W hr tk => ?_
    exact (sb_one (ss_ret (se_ix hr.u1 (se_fld (se_var (i := 0) rfl (by first | exact Or.inl rfl | exact Or.inr (Or.inl rfl) | exact Or.inr (Or.inr rfl))) e.cls_Book e.na_Book_parts) se_str)))
  exact R

def N_Book_bodies : List Str := ["self"]
def m_Book_bodies : MS := sRet (c2 oIx (cFld "Book" "parts" (cVar 0)) (cC (.str "bodies")))
def F_Book_bodies : FF := runF m_Book_bodies 1 1

theorem sc_Book_bodies : FnScope N_Book_bodies ["self"] (defScope (inClass (top 17) 4)) := ⟨rfl, rfl, rfl, by decide +kernel, rfl, by decide +kernel, by decide +kernel⟩
theorem s_Book_bodies (e : Ev w K mg) : Is P w K mg base (1 + 1) (prG K (He.ga K "Book") "bodies") ["self"] F_Book_bodies := by
  obtain ⟨fd, F⟩ := e.d_Book_bodies
  have nd := sc_Book_bodies.nd
  have B : Binds K fd ["self"] [] := F.bindsN fun _ _ _ _ _ _ us hl => match us, hl with | [_], _ => rfl
  have R : Is P w K mg base (1 + 1) (prG K (He.ga K "Book") "bodies") ["self"] (runF m_Book_bodies 1 1) := by
    refine is_mk (k := 1) (m := m_Book_bodies) (N := N_Book_bodies) F sc_Book_bodies B fun cdv A outer s H E W hr tk => ?_
    exact (sb_one (ss_ret (se_ix hr.u1 (se_fld (se_var (i := 0) rfl (by first | exact Or.inl rfl | exact Or.inr (Or.inl rfl) | exact Or.inr (Or.inr rfl))) e.cls_Book e.na_Book_parts) se_str)))
  exact R

def N_Book_given : List Str := ["self"]
def m_Book_given : MS := sRet (c2 oIx (cFld "Book" "parts" (cVar 0)) (cC (.str "given")))
def F_Book_given : FF := runF m_Book_given 1 1

theorem sc_Book_given : FnScope N_Book_given ["self"] (defScope (inClass (top 17) 2)) := ⟨rfl, rfl, rfl, by decide +kernel, rfl, by decide +kernel, by decide +kernel⟩
theorem s_Book_given (e : Ev w K mg) : Is P w K mg base (1 + 1) (prG K (He.ga K "Book") "given") ["self"] F_Book_given := by
  obtain ⟨fd, F⟩ := e.d_Book_given
  have nd := sc_Book_given.nd
  have B : Binds K fd ["self"] [] := F.bindsN fun _ _ _ _ _ _ us hl => match us, hl with | [_], _ => rfl
  have R : Is P w K mg base (1 + 1) (prG K (He.ga K "Book") "given") ["self"] (runF m_Book_given 1 1) := by
    refine is_mk (k := 1) (m := m_Book_given) (N := N_Book_given) F sc_Book_given B fun cdv A outer s H E W hr tk => ?_
    exact (sb_one (ss_ret (se_ix hr.u1 (se_fld (se_var (i := 0) rfl (by first | exact Or.inl rfl | exact Or.inr (Or.inl rfl) | exact Or.inr (Or.inr rfl))) e.cls_Book e.na_Book_parts) se_str)))
  exact R

def N_Book_marks : List Str := ["self"]
def m_Book_marks : MS := sRet (c2 oIx (cFld "Book" "parts" (cVar 0)) (cC (.str "marks")))
def F_Book_marks : FF := runF m_Book_marks 1 1

theorem sc_Book_marks : FnScope N_Book_marks ["self"] (defScope (inClass (top 17) 7)) := ⟨rfl, rfl, rfl, by decide +kernel, rfl, by decide +kernel, by decide +kernel⟩
theorem s_Book_marks (e : Ev w K mg) : Is P w K mg base (1 + 1) (prG K (He.ga K "Book") "marks") ["self"] F_Book_marks := by
  obtain ⟨fd, F⟩ := e.d_Book_marks
  have nd := sc_Book_marks.nd
  have B : Binds K fd ["self"] [] := F.bindsN fun _ _ _ _ _ _ us hl => match us, hl with | [_], _ => rfl
  have R : Is P w K mg base (1 + 1) (prG K (He.ga K "Book") "marks") ["self"] (runF m_Book_marks 1 1) := by
    refine is_mk (k := 1) (m := m_Book_marks) (N := N_Book_marks) F sc_Book_marks B fun cdv A outer s H E W hr tk => ?_
    exact (sb_one (ss_ret (se_ix hr.u1 (se_fld (se_var (i := 0) rfl (by first | exact Or.inl rfl | exact Or.inr (Or.inl rfl) | exact Or.inr (Or.inr rfl))) e.cls_Book e.na_Book_parts) se_str)))
  exact R

def N_Book_near : List Str := ["self"]
def m_Book_near : MS := sRet (c2 oIx (cFld "Book" "parts" (cVar 0)) (cC (.str "near")))
def F_Book_near : FF := runF m_Book_near 1 1

theorem sc_Book_near : FnScope N_Book_near ["self"] (defScope (inClass (top 17) 6)) := ⟨rfl, rfl, rfl, by decide +kernel, rfl, by decide +kernel, by decide +kernel⟩
theorem s_Book_near (e : Ev w K mg) : Is P w K mg base (1 + 1) (prG K (He.ga K "Book") "near") ["self"] F_Book_near := by
  obtain ⟨fd, F⟩ := e.d_Book_near
  have nd := sc_Book_near.nd
  have B : Binds K fd ["self"] [] := F.bindsN fun _ _ _ _ _ _ us hl => match us, hl with | [_], _ => rfl
  have R : Is P w K mg base (1 + 1) (prG K (He.ga K "Book") "near") ["self"] (runF m_Book_near 1 1) := by
    refine is_mk (k := 1) (m := m_Book_near) (N := N_Book_near) F sc_Book_near B fun cdv A outer s H E W hr tk => ?_
    exact (sb_one (ss_ret (se_ix hr.u1 (se_fld (se_var (i := 0) rfl (by first | exact Or.inl rfl | exact Or.inr (Or.inl rfl) | exact Or.inr (Or.inr rfl))) e.cls_Book e.na_Book_parts) se_str)))
  exact R

def N_Book_order : List Str := ["self"]
def m_Book_order : MS := sRet (c2 oIx (cFld "Book" "parts" (cVar 0)) (cC (.str "order")))
def F_Book_order : FF := runF m_Book_order 1 1

theorem sc_Book_order : FnScope N_Book_order ["self"] (defScope (inClass (top 17) 1)) := ⟨rfl, rfl, rfl, by decide +kernel, rfl, by decide +kernel, by decide +kernel⟩
theorem s_Book_order (e : Ev w K mg) : Is P w K mg base (1 + 1) (prG K (He.ga K "Book") "order") ["self"] F_Book_order := by
  obtain ⟨fd, F⟩ := e.d_Book_order
  have nd := sc_Book_order.nd
  have B : Binds K fd ["self"] [] := F.bindsN fun _ _ _ _ _ _ us hl => match us, hl with | [_], _ => rfl
  have R : Is P w K mg base (1 + 1) (prG K (He.ga K "Book") "order") ["self"] (runF m_Book_order 1 1) := by
    refine is_mk (k := 1) (m := m_Book_order) (N := N_Book_order) F sc_Book_order B fun cdv A outer s H E W hr tk => ?_
    exact (sb_one (ss_ret (se_ix hr.u1 (se_fld (se_var (i := 0) rfl (by first | exact Or.inl rfl | exact Or.inr (Or.inl rfl) | exact Or.inr (Or.inr rfl))) e.cls_Book e.na_Book_parts) se_str)))
  exact R

def N_Book_spreads : List Str := ["self"]
def m_Book_spreads : MS := sRet (c2 oIx (cFld "Book" "parts" (cVar 0)) (cC (.str "spreads")))
def F_Book_spreads : FF := runF m_Book_spreads 1 1

theorem sc_Book_spreads : FnScope N_Book_spreads ["self"] (defScope (inClass (top 17) 5)) := ⟨rfl, rfl, rfl, by decide +kernel, rfl, by decide +kernel, by decide +kernel⟩
theorem s_Book_spreads (e : Ev w K mg) : Is P w K mg base (1 + 1) (prG K (He.ga K "Book") "spreads") ["self"] F_Book_spreads := by
  obtain ⟨fd, F⟩ := e.d_Book_spreads
  have nd := sc_Book_spreads.nd
  have B : Binds K fd ["self"] [] := F.bindsN fun _ _ _ _ _ _ us hl => match us, hl with | [_], _ => rfl
  have R : Is P w K mg base (1 + 1) (prG K (He.ga K "Book") "spreads") ["self"] (runF m_Book_spreads 1 1) := by
    refine is_mk (k := 1) (m := m_Book_spreads) (N := N_Book_spreads) F sc_Book_spreads B fun cdv A outer s H E W hr tk => ?_
    exact (sb_one (ss_ret (se_ix hr.u1 (se_fld (se_var (i := 0) rfl (by first | exact Or.inl rfl | exact Or.inr (Or.inl rfl) | exact Or.inr (Or.inr rfl))) e.cls_Book e.na_Book_parts) se_str)))
  exact R

def N_write_book : List Str := ["book", "order", "near", "marks"]
def m_write_book : MS := sSeq (sSet 1 (cRepl " " "." (cProp "Book" F_Book_order (cVar 0))))
  (sSeq (sPar 2 3 (aCons (cIf (cB (cProp "Book" F_Book_near (cVar 0))) (cC (.str "near")) (cC (.str "far"))) (aCons (cIf (cB (cProp "Book" F_Book_marks (cVar 0))) (cC (.str "marked")) (cC (.str "free"))) (aNil))))
  (sRet (cFs [cFmt (cVar 1), cC (.str " "), cFmt (cProp "Book" F_Book_given (cVar 0)), cC (.str " "), cFmt (cProp "Book" F_Book_alls (cVar 0)), cC (.str " "), cFmt (cProp "Book" F_Book_bodies (cVar 0)), cC (.str " "), cFmt (cProp "Book" F_Book_spreads (cVar 0)), cC (.str " "), cFmt (cVar 2), cC (.str " "), cFmt (cVar 3)])))
def F_write_book : FF := runF m_write_book 1 4

theorem sc_write_book : FnScope N_write_book ["book"] (defScope (top 21)) := ⟨rfl, rfl, rfl, by decide +kernel, rfl, by decide +kernel, by decide +kernel⟩
theorem s_write_book (e : Ev w K mg) : Is P w K mg base (3 + 1) (He.fAd K ("write_book", none)) ["book"] F_write_book := by
  obtain ⟨fd, F⟩ := e.d_write_book
  have i_Book_order := s_Book_order (P := P) (base := base) e
  have i_Book_marks := s_Book_marks (P := P) (base := base) e
  have i_Book_near := s_Book_near (P := P) (base := base) e
  have i_Book_spreads := s_Book_spreads (P := P) (base := base) e
  have i_Book_bodies := s_Book_bodies (P := P) (base := base) e
  have i_Book_alls := s_Book_alls (P := P) (base := base) e
  have i_Book_given := s_Book_given (P := P) (base := base) e
  have nd := sc_write_book.nd
  have B : Binds K fd ["book"] [] := F.bindsN fun _ _ _ _ _ _ us hl => match us, hl with | [_], _ => rfl
  have R : Is P w K mg base (3 + 1) (He.fAd K ("write_book", none)) ["book"] (runF m_write_book 1 4) := by
    refine is_mk (k := 3) (m := m_write_book) (N := N_write_book) F sc_write_book B fun cdv A outer s H E W hr tk => ?_
    exact (sb_cons (ss_set (i := 1) nd rfl (by first | exact Or.inl rfl | exact Or.inr rfl) (se_replB (seb_prop (se_var (i := 0) rfl (by first | exact Or.inl rfl | exact Or.inr (Or.inl rfl) | exact Or.inr (Or.inr rfl))) e.cls_Book e.pr_Book_order i_Book_order (hr.mono (by decide))) (by decide +kernel)))
  (sb_cons (ss_par (i := 2) (j := 3) rfl nd rfl rfl (by decide) rfl rfl (sa_cons (se_ifExp (st_val (se_prop (se_var (i := 0) rfl (by first | exact Or.inl rfl | exact Or.inr (Or.inl rfl) | exact Or.inr (Or.inr rfl))) e.cls_Book e.pr_Book_near i_Book_near (hr.mono (by decide)))) se_str se_str) (sa_cons (se_ifExp (st_val (se_prop (se_var (i := 0) rfl (by first | exact Or.inl rfl | exact Or.inr (Or.inl rfl) | exact Or.inr (Or.inr rfl))) e.cls_Book e.pr_Book_marks i_Book_marks (hr.mono (by decide)))) se_str se_str) sa_nil)) (by rfl))
  (sb_one (ss_ret (se_joined (.cons (se_fmt (se_var (i := 1) rfl (by first | exact Or.inl rfl | exact Or.inr (Or.inl rfl) | exact Or.inr (Or.inr rfl)))) (.cons se_str (.cons (se_fmt (se_prop (se_var (i := 0) rfl (by first | exact Or.inl rfl | exact Or.inr (Or.inl rfl) | exact Or.inr (Or.inr rfl))) e.cls_Book e.pr_Book_given i_Book_given (hr.mono (by decide)))) (.cons se_str (.cons (se_fmt (se_prop (se_var (i := 0) rfl (by first | exact Or.inl rfl | exact Or.inr (Or.inl rfl) | exact Or.inr (Or.inr rfl))) e.cls_Book e.pr_Book_alls i_Book_alls (hr.mono (by decide)))) (.cons se_str (.cons (se_fmt (se_prop (se_var (i := 0) rfl (by first | exact Or.inl rfl | exact Or.inr (Or.inl rfl) | exact Or.inr (Or.inr rfl))) e.cls_Book e.pr_Book_bodies i_Book_bodies (hr.mono (by decide)))) (.cons se_str (.cons (se_fmt (se_prop (se_var (i := 0) rfl (by first | exact Or.inl rfl | exact Or.inr (Or.inl rfl) | exact Or.inr (Or.inr rfl))) e.cls_Book e.pr_Book_spreads i_Book_spreads (hr.mono (by decide)))) (.cons se_str (.cons (se_fmt (se_var (i := 2) rfl (by first | exact Or.inl rfl | exact Or.inr (Or.inl rfl) | exact Or.inr (Or.inr rfl)))) (.cons se_str (.cons (se_fmt (se_var (i := 3) rfl (by first | exact Or.inl rfl | exact Or.inr (Or.inl rfl) | exact Or.inr (Or.inr rfl)))) .nil))))))))))))))))))
  exact R

def N_write_place : List Str := ["place"]
def m_write_place : MS := sRet (cJoin (cC (.str " ")) (cVar 0))
def F_write_place : FF := runF m_write_place 1 1

theorem sc_write_place : FnScope N_write_place ["place"] (defScope (top 24)) := ⟨rfl, rfl, rfl, by decide +kernel, rfl, by decide +kernel, by decide +kernel⟩
theorem s_write_place (e : Ev w K mg) : Is P w K mg base (1 + 1) (He.fAd K ("write_place", none)) ["place"] F_write_place := by
  obtain ⟨fd, F⟩ := e.d_write_place
  have nd := sc_write_place.nd
  have B : Binds K fd ["place"] [] := F.bindsN fun _ _ _ _ _ _ us hl => match us, hl with | [_], _ => rfl
  have R : Is P w K mg base (1 + 1) (He.fAd K ("write_place", none)) ["place"] (runF m_write_place 1 1) := by
    refine is_mk (k := 1) (m := m_write_place) (N := N_write_place) F sc_write_place B fun cdv A outer s H E W hr tk => ?_
    exact (sb_one (ss_ret (se_join se_str (se_var (i := 0) rfl (by first | exact Or.inl rfl | exact Or.inr (Or.inl rfl) | exact Or.inr (Or.inr rfl))))))
  exact R

def N_law : List Str := ["_law_script", "_law_pool", "_law_words", "_law_bad", "_law_value", "_law_kinds", "_law_place", "_law_text", "_law_rules", "_law_names", "_law_book", "_law_one"]
def m_law : MS := sSeq (sSet 1 (cCall F_law_pool_of (aCons (cVar 0) (aCons (cC (.int 0)) (aNil)))))
  (sSeq (sPar 8 9 (aCons (cCall F_law_rules_of (aCons (cCall F_law_pool_of (aCons (cVar 0) (aCons (cC (.int 1)) (aNil)))) (aNil))) (aCons (cCall F_law_names_of (aCons (cVar 1) (aCons (cC (.int 3)) (aNil)))) (aNil))))
  (sSeq (sAsg (gT 2 (gsC (gN 7) (gsC (gN 10) (gsN)))) (cTup (aCons (cCall F_law_book_text (aCons (cVar 8) (aNil))) (aCons (cCall F_law_made_book (aCons (cVar 8) (aNil))) (aNil)))))
  (sSeq (sIf (cOr (cB (c2 (oEq true) (cCall F_write_book (aCons (cVar 10) (aNil))) (cVar 7))) (cB (c2 (oEqO "Book" F_Book___eq__ true) (cCall F_read_book (aCons (cVar 7) (aNil))) (cVar 10)))) (sRet (cC (.bl false)))
  (sNil))
  (sSeq (sSet 2 (cSplit (cVar 7) (cC (.str " "))))
  (sSeq (sSet 3 (cLst (aCons (cRepl "." " " (cVar 7)) (aCons (cJoin (cC (.str " ")) (c2 oPlus (cSl (cVar 2) (oNone) (oSome (cC (.int 5)))) (cLst (aCons (c2 oIx (cVar 2) (cC (.int 6))) (aCons (c2 oIx (cVar 2) (cC (.int 5))) (aNil)))))) (aCons (cJoin (cC (.str " ")) (cRev (cVar 2))) (aCons (c2 oPlus (cC (.str "book ")) (cVar 7)) (aNil)))))))
  (sSeq (sSet 3 (c2 oPlus (cVar 3) (cLst (aCons (cJoin (cC (.str " ")) (c2 oPlus (cLst (aCons (cRepl "own" "one" (c2 oIx (cVar 2) (cC (.int 0)))) (aNil))) (cSl (cVar 2) (oSome (cC (.int 1))) (oNone)))) (aNil)))))
  (sSeq (sFor (iSeq (c2 oPlus (cLc (iSeq (c2 oPlus (cVar 3) (cCall F_law_spoilt (aCons (cVar 1) (aCons (cVar 7) (aNil)))))) (gN 11) (cB (c2 (oEq true) (cVar 11) (cVar 7))) (cVar 11) [11]) (cLst (aCons (cC .non) (aCons (cC (.int 1)) (aCons (cLst (aNil)) (aCons (cVar 2) (aCons (cVar 10) (aNil))))))))) (gN 4)
  (sIf (cB (c2 (oEq true) (cCall F_law_refused (aCons (cVar 4) (aCons (cC (.bl true)) (aNil)))) (cLst (aCons (cC .non) (aNil))))) (sRet (cC (.bl false)))
  (sNil)))
  (sSeq (sSet 5 (cLst (aCons (cTup (aCons (cC (.str "name")) (aCons (c2 oIx (cVar 9) (cC (.int 0))) (aCons (c2 oIx (cVar 9) (cC (.int 1))) (aNil))))) (aCons (cTup (aCons (cC (.str "member")) (aCons (c2 oIx (cVar 9) (cC (.int 0))) (aCons (c2 oIx (cVar 9) (cC (.int 1))) (aNil))))) (aCons (cTup (aCons (cC (.str "spread")) (aCons (c2 oIx (cVar 9) (cC (.int 0))) (aCons (c2 oIx (cVar 9) (cC (.int 1))) (aCons (c2 oIx (cVar 9) (cC (.int 2))) (aNil)))))) (aNil))))))
  (sSeq (sSet 6 (cCall F_law_pick (aCons (cVar 1) (aCons (cVar 5) (aNil)))))
  (sSeq (sSet 7 (cCall F_write_place (aCons (cVar 6) (aNil))))
  (sSeq (sIf (cOr (cB (c2 (oEq true) (cVar 7) (cJoin (cC (.str " ")) (cCall (f1 listD) (aCons (cVar 6) (aNil)))))) (cOr (cB (c2 (oEq true) (cCall F_read_place (aCons (cVar 7) (aNil))) (cVar 6))) (cNot (cB (cIsi ty_tuple (cCall F_read_place (aCons (cVar 7) (aNil)))))))) (sRet (cC (.bl false)))
  (sNil))
  (sSeq (sFor (iSeq (c2 oPlus (cCall F_law_spoilt (aCons (cVar 1) (aCons (cVar 7) (aNil)))) (cLst (aCons (cC (.str "of a b")) (aCons (cC (.str "name a b c")) (aCons (cC (.str "spread a b")) (aCons (cC (.str "name a 1")) (aCons (cVar 6) (aCons (cC .non) (aNil)))))))))) (gN 4)
  (sIf (cB (c2 (oEq true) (cCall F_law_refused (aCons (cVar 4) (aCons (cC (.bl false)) (aNil)))) (cLst (aCons (cC .non) (aNil))))) (sRet (cC (.bl false)))
  (sNil)))
  (sRet (cC (.bl true)))))))))))))))
def F_law : FF := runF m_law 1 12

theorem sc_law : FnScope N_law ["_law_script"] (defScope (top 36)) := ⟨rfl, rfl, rfl, by decide +kernel, rfl, by decide +kernel, by decide +kernel⟩
theorem s_law (e : Ev w K mg) : Is P w K mg base (13 + 1) (He.fAd K ("law", none)) ["_law_script"] F_law := by
  obtain ⟨fd, F⟩ := e.d_law
  have i_law_spoilt := s_law_spoilt (P := P) (base := base) e
  have i_law_refused := s_law_refused (P := P) (base := base) e
  have i_law_pick := s_law_pick (P := P) (base := base) e
  have i_write_place := s_write_place (P := P) (base := base) e
  have i_read_place := s_read_place (P := P) (base := base) e
  have i_write_book := s_write_book (P := P) (base := base) e
  have i_read_book := s_read_book (P := P) (base := base) e
  have i_Book___eq__ := s_Book___eq__ (P := P) (base := base) e
  have i_law_made_book := s_law_made_book (P := P) (base := base) e
  have i_law_book_text := s_law_book_text (P := P) (base := base) e
  have i_law_names_of := s_law_names_of (P := P) (base := base) e
  have i_law_rules_of := s_law_rules_of (P := P) (base := base) e
  have i_law_pool_of := s_law_pool_of (P := P) (base := base) e
  have nd := sc_law.nd
  have B : Binds K fd ["_law_script"] [] := F.bindsN fun _ _ _ _ _ _ us hl => match us, hl with | [_], _ => rfl
  have R : Is P w K mg base (13 + 1) (He.fAd K ("law", none)) ["_law_script"] (runF m_law 1 12) := by
    refine is_mk (k := 13) (m := m_law) (N := N_law) F sc_law B fun cdv A outer s H E W hr tk => ?_
    exact (sb_cons (ss_set (i := 1) nd rfl (by first | exact Or.inl rfl | exact Or.inr rfl) (se_call (i_law_pool_of.cal tk (hr.mono (by decide))) rfl e.g_law_pool_of e.kp_law_pool_of (sa_cons (se_var (i := 0) rfl (by first | exact Or.inl rfl | exact Or.inr (Or.inl rfl) | exact Or.inr (Or.inr rfl))) (sa_cons se_int sa_nil))))
  (sb_cons (ss_par (i := 8) (j := 9) rfl nd rfl rfl (by decide) rfl rfl (sa_cons (se_call (i_law_rules_of.cal tk (hr.mono (by decide))) rfl e.g_law_rules_of e.kp_law_rules_of (sa_cons (se_call (i_law_pool_of.cal tk (hr.mono (by decide))) rfl e.g_law_pool_of e.kp_law_pool_of (sa_cons (se_var (i := 0) rfl (by first | exact Or.inl rfl | exact Or.inr (Or.inl rfl) | exact Or.inr (Or.inr rfl))) (sa_cons se_int sa_nil))) sa_nil)) (sa_cons (se_call (i_law_names_of.cal tk (hr.mono (by decide))) rfl e.g_law_names_of e.kp_law_names_of (sa_cons (se_var (i := 1) rfl (by first | exact Or.inl rfl | exact Or.inr (Or.inl rfl) | exact Or.inr (Or.inr rfl))) (sa_cons se_int sa_nil))) sa_nil)) (by rfl))
  (sb_cons (ss_asg (se_tup (sa_cons (se_call (i_law_book_text.cal tk (hr.mono (by decide))) rfl e.g_law_book_text e.kp_law_book_text (sa_cons (se_var (i := 8) rfl (by first | exact Or.inl rfl | exact Or.inr (Or.inl rfl) | exact Or.inr (Or.inr rfl))) sa_nil)) (sa_cons (se_call (i_law_made_book.cal tk (hr.mono (by decide))) rfl e.g_law_made_book e.kp_law_made_book (sa_cons (se_var (i := 8) rfl (by first | exact Or.inl rfl | exact Or.inr (Or.inl rfl) | exact Or.inr (Or.inr rfl))) sa_nil)) sa_nil))) (sg_tup (n := 2) rfl (sgs_cons (sg_name (i := 7) nd rfl (by first | exact Or.inl rfl | exact Or.inr rfl)) (sgs_cons (sg_name (i := 10) nd rfl (by first | exact Or.inl rfl | exact Or.inr rfl)) sgs_nil))))
  (sb_cons (ss_if (SW.pt (sw_or (st_cmp (op_neA hr.u64) k_ne (se_call (i_write_book.cal tk (hr.mono (by decide))) rfl e.g_write_book e.kp_write_book (sa_cons (se_var (i := 10) rfl (by first | exact Or.inl rfl | exact Or.inr (Or.inl rfl) | exact Or.inr (Or.inr rfl))) sa_nil)) (se_var (i := 7) rfl (by first | exact Or.inl rfl | exact Or.inr (Or.inl rfl) | exact Or.inr (Or.inr rfl))) (nomark _)) (sw_or1 (st_neO hr.u1 (se_call (i_read_book.cal tk (hr.mono (by decide))) rfl e.g_read_book e.kp_read_book (sa_cons (se_var (i := 7) rfl (by first | exact Or.inl rfl | exact Or.inr (Or.inl rfl) | exact Or.inr (Or.inr rfl))) sa_nil)) (se_var (i := 10) rfl (by first | exact Or.inl rfl | exact Or.inr (Or.inl rfl) | exact Or.inr (Or.inr rfl))) e.eqc_Book (i_Book___eq__.cal1 tk (hr.mono (by decide))) (nomark _))))) (sb_one (ss_ret se_bl))
  sb_nil)
  (sb_T (i := 2) nd rfl (by first | exact Or.inl rfl | exact Or.inr rfl) (seb_split (se_var (i := 7) rfl (by first | exact Or.inl rfl | exact Or.inr (Or.inl rfl) | exact Or.inr (Or.inr rfl))) seb_str)
  (sbt_cons (sst_set (i := 3) nd rfl (by first | exact Or.inl rfl | exact Or.inr rfl) (set_lst (sat_cons (set_repl (se_var (i := 7) rfl (by first | exact Or.inl rfl | exact Or.inr (Or.inl rfl) | exact Or.inr (Or.inr rfl))) (by decide +kernel)) (sat_cons (set_of (se_join se_str (se_op op_plus k_plus (se_slice (se_var (i := 2) rfl (by first | exact Or.inl rfl | exact Or.inr (Or.inl rfl) | exact Or.inr (Or.inr rfl))) so_none (so_some se_int)) (se_lst (sa_cons (se_ix hr.u1 (se_var (i := 2) rfl (by first | exact Or.inl rfl | exact Or.inr (Or.inl rfl) | exact Or.inr (Or.inr rfl))) se_int) (sa_cons (se_ix hr.u1 (se_var (i := 2) rfl (by first | exact Or.inl rfl | exact Or.inr (Or.inl rfl) | exact Or.inr (Or.inr rfl))) se_int) sa_nil)))))) (sat_cons (set_of (se_join se_str (se_rev (se_var (i := 2) rfl (by first | exact Or.inl rfl | exact Or.inr (Or.inl rfl) | exact Or.inr (Or.inr rfl)))))) (sat_cons (set_of (se_op op_plus k_plus se_str (se_var (i := 7) rfl (by first | exact Or.inl rfl | exact Or.inr (Or.inl rfl) | exact Or.inr (Or.inr rfl))))) sat_nil))))))
  (sbt_of (sb_cons (ss_set (i := 3) nd rfl (by first | exact Or.inl rfl | exact Or.inr rfl) (se_op op_plus k_plus (se_var (i := 3) rfl (by first | exact Or.inl rfl | exact Or.inr (Or.inl rfl) | exact Or.inr (Or.inr rfl))) (se_lst (sa_cons (se_join se_str (se_op op_plus k_plus (se_lst (sa_cons (se_replB (seb_ix hr.u1 (se_var (i := 2) rfl (by first | exact Or.inl rfl | exact Or.inr (Or.inl rfl) | exact Or.inr (Or.inr rfl))) seb_int) (by decide +kernel)) sa_nil)) (se_slice (se_var (i := 2) rfl (by first | exact Or.inl rfl | exact Or.inr (Or.inl rfl) | exact Or.inr (Or.inr rfl))) (so_some se_int) so_none))) sa_nil))))
  (sb_cons (ss_for (passes_of rfl) rfl (si_list (se_op op_plus k_plus (se_lc (own := [("_law_one", 11)]) rfl nd (si_list (se_op op_plus k_plus (se_var (i := 3) rfl (by first | exact Or.inl rfl | exact Or.inr (Or.inl rfl) | exact Or.inr (Or.inr rfl))) (se_call (i_law_spoilt.cal tk (hr.mono (by decide))) rfl e.g_law_spoilt e.kp_law_spoilt (sa_cons (se_var (i := 1) rfl (by first | exact Or.inl rfl | exact Or.inr (Or.inl rfl) | exact Or.inr (Or.inr rfl))) (sa_cons (se_var (i := 7) rfl (by first | exact Or.inl rfl | exact Or.inr (Or.inl rfl) | exact Or.inr (Or.inr rfl))) sa_nil))))) (blkOk_by (own := [("_law_one", 11)]) (N := N_law) (sc := (defScope (top 36))) (by decide +kernel)) (fun _ _ _ _ _ => (sg_name (i := 11) nd rfl (by first | exact Or.inl rfl | exact Or.inr rfl))) (fun _ _ _ _ _ => (sts_one (st_cmp (op_neA hr.u64) k_ne (se_var (i := 11) rfl (by first | exact Or.inl rfl | exact Or.inr (Or.inl rfl) | exact Or.inr (Or.inr rfl))) (se_var (i := 7) rfl (by first | exact Or.inl rfl | exact Or.inr (Or.inl rfl) | exact Or.inr (Or.inr rfl))) (nomark _)))) (fun _ _ _ _ _ => (se_var (i := 11) rfl (by first | exact Or.inl rfl | exact Or.inr (Or.inl rfl) | exact Or.inr (Or.inr rfl)))) (by decide)) (se_lst (sa_cons se_non (sa_cons se_int (sa_cons (se_lst sa_nil) (sa_cons (se_var (i := 2) rfl (by first | exact Or.inl rfl | exact Or.inr (Or.inl rfl) | exact Or.inr (Or.inr rfl))) (sa_cons (se_var (i := 10) rfl (by first | exact Or.inl rfl | exact Or.inr (Or.inl rfl) | exact Or.inr (Or.inr rfl))) sa_nil)))))))) (sg_name (i := 4) nd rfl (by first | exact Or.inl rfl | exact Or.inr rfl))
  (sb_one (ss_if (st_cmp (op_neA hr.u64) k_ne (se_call (i_law_refused.cal tk (hr.mono (by decide))) rfl e.g_law_refused e.kp_law_refused (sa_cons (se_var (i := 4) rfl (by first | exact Or.inl rfl | exact Or.inr (Or.inl rfl) | exact Or.inr (Or.inr rfl))) (sa_cons se_bl sa_nil))) (se_lst (sa_cons se_non sa_nil)) (nomark _)) (sb_one (ss_ret se_bl))
  sb_nil)))
  (sb_cons (ss_set (i := 5) nd rfl (by first | exact Or.inl rfl | exact Or.inr rfl) (se_lst (sa_cons (se_tup (sa_cons se_str (sa_cons (se_ix hr.u1 (se_var (i := 9) rfl (by first | exact Or.inl rfl | exact Or.inr (Or.inl rfl) | exact Or.inr (Or.inr rfl))) se_int) (sa_cons (se_ix hr.u1 (se_var (i := 9) rfl (by first | exact Or.inl rfl | exact Or.inr (Or.inl rfl) | exact Or.inr (Or.inr rfl))) se_int) sa_nil)))) (sa_cons (se_tup (sa_cons se_str (sa_cons (se_ix hr.u1 (se_var (i := 9) rfl (by first | exact Or.inl rfl | exact Or.inr (Or.inl rfl) | exact Or.inr (Or.inr rfl))) se_int) (sa_cons (se_ix hr.u1 (se_var (i := 9) rfl (by first | exact Or.inl rfl | exact Or.inr (Or.inl rfl) | exact Or.inr (Or.inr rfl))) se_int) sa_nil)))) (sa_cons (se_tup (sa_cons se_str (sa_cons (se_ix hr.u1 (se_var (i := 9) rfl (by first | exact Or.inl rfl | exact Or.inr (Or.inl rfl) | exact Or.inr (Or.inr rfl))) se_int) (sa_cons (se_ix hr.u1 (se_var (i := 9) rfl (by first | exact Or.inl rfl | exact Or.inr (Or.inl rfl) | exact Or.inr (Or.inr rfl))) se_int) (sa_cons (se_ix hr.u1 (se_var (i := 9) rfl (by first | exact Or.inl rfl | exact Or.inr (Or.inl rfl) | exact Or.inr (Or.inr rfl))) se_int) sa_nil))))) sa_nil)))))
  (sb_cons (ss_set (i := 6) nd rfl (by first | exact Or.inl rfl | exact Or.inr rfl) (se_call (i_law_pick.cal tk (hr.mono (by decide))) rfl e.g_law_pick e.kp_law_pick (sa_cons (se_var (i := 1) rfl (by first | exact Or.inl rfl | exact Or.inr (Or.inl rfl) | exact Or.inr (Or.inr rfl))) (sa_cons (se_var (i := 5) rfl (by first | exact Or.inl rfl | exact Or.inr (Or.inl rfl) | exact Or.inr (Or.inr rfl))) sa_nil))))
  (sb_cons (ss_set (i := 7) nd rfl (by first | exact Or.inl rfl | exact Or.inr rfl) (se_call (i_write_place.cal tk (hr.mono (by decide))) rfl e.g_write_place e.kp_write_place (sa_cons (se_var (i := 6) rfl (by first | exact Or.inl rfl | exact Or.inr (Or.inl rfl) | exact Or.inr (Or.inr rfl))) sa_nil)))
  (sb_cons (ss_if (SW.pt (sw_or (st_cmp (op_neA hr.u64) k_ne (se_var (i := 7) rfl (by first | exact Or.inl rfl | exact Or.inr (Or.inl rfl) | exact Or.inr (Or.inr rfl))) (se_join se_str (se_callTy call_list_of kc_list rfl e.n_list bt_list (sa_cons (se_var (i := 6) rfl (by first | exact Or.inl rfl | exact Or.inr (Or.inl rfl) | exact Or.inr (Or.inr rfl))) sa_nil))) (nomark _)) (sw_or (st_cmp (op_neA hr.u64) k_ne (se_call (i_read_place.cal tk (hr.mono (by decide))) rfl e.g_read_place e.kp_read_place (sa_cons (se_var (i := 7) rfl (by first | exact Or.inl rfl | exact Or.inr (Or.inl rfl) | exact Or.inr (Or.inr rfl))) sa_nil)) (se_var (i := 6) rfl (by first | exact Or.inl rfl | exact Or.inr (Or.inl rfl) | exact Or.inr (Or.inr rfl))) (nomark _)) (sw_or1 (st_not (st_val (se_isi (Ts := "tuple") rfl e.n_isinstance (se_call (i_read_place.cal tk (hr.mono (by decide))) rfl e.g_read_place e.kp_read_place (sa_cons (se_var (i := 7) rfl (by first | exact Or.inl rfl | exact Or.inr (Or.inl rfl) | exact Or.inr (Or.inr rfl))) sa_nil)) rfl e.n_tuple bt_tuple (by decide) (by decide) tk_tuple))))))) (sb_one (ss_ret se_bl))
  sb_nil)
  (sb_cons (ss_for (passes_of rfl) rfl (si_list (se_op op_plus k_plus (se_call (i_law_spoilt.cal tk (hr.mono (by decide))) rfl e.g_law_spoilt e.kp_law_spoilt (sa_cons (se_var (i := 1) rfl (by first | exact Or.inl rfl | exact Or.inr (Or.inl rfl) | exact Or.inr (Or.inr rfl))) (sa_cons (se_var (i := 7) rfl (by first | exact Or.inl rfl | exact Or.inr (Or.inl rfl) | exact Or.inr (Or.inr rfl))) sa_nil))) (se_lst (sa_cons se_str (sa_cons se_str (sa_cons se_str (sa_cons se_str (sa_cons (se_var (i := 6) rfl (by first | exact Or.inl rfl | exact Or.inr (Or.inl rfl) | exact Or.inr (Or.inr rfl))) (sa_cons se_non sa_nil))))))))) (sg_name (i := 4) nd rfl (by first | exact Or.inl rfl | exact Or.inr rfl))
  (sb_one (ss_if (st_cmp (op_neA hr.u64) k_ne (se_call (i_law_refused.cal tk (hr.mono (by decide))) rfl e.g_law_refused e.kp_law_refused (sa_cons (se_var (i := 4) rfl (by first | exact Or.inl rfl | exact Or.inr (Or.inl rfl) | exact Or.inr (Or.inr rfl))) (sa_cons se_bl sa_nil))) (se_lst (sa_cons se_non sa_nil)) (nomark _)) (sb_one (ss_ret se_bl))
  sb_nil)))
  (sb_one (ss_ret se_bl))))))))))))))))
  exact R
end
end G

set_option Elab.async false
set_option linter.all false
set_option maxRecDepth 100000
set_option maxHeartbeats 0
/-! the facts of addednames_k82_books_and_places_as_texts: printed by gen.py -/
namespace G
open PySem PySem.Spec PyProof.Rows L2
def dd_Book___eq__ : He.DefD := ⟨("Book", some "__eq__"), "__eq__", "Book.__eq__", defArgs (inClass (top 17) 10), defBody (inClass (top 17) 10), defScope (inClass (top 17) 10), [], []⟩
def dd_law_book_text : He.DefD := ⟨("_law_book_text", none), "_law_book_text", "_law_book_text", defArgs (top 33), defBody (top 33), defScope (top 33), [], []⟩
def dd_BadPart___init__ : He.DefD := ⟨("BadPart", some "__init__"), "__init__", "BadPart.__init__", defArgs (inClass (top 3) 0), defBody (inClass (top 3) 0), defScope (inClass (top 3) 0), [], []⟩
def dd_is_value : He.DefD := ⟨("is_value", none), "is_value", "is_value", defArgs (top 16), defBody (top 16), defScope (top 16), [], []⟩
def dd_Book___init__ : He.DefD := ⟨("Book", some "__init__"), "__init__", "Book.__init__", defArgs (inClass (top 17) 0), defBody (inClass (top 17) 0), defScope (inClass (top 17) 0), [], [("order", .str "own named all"), ("given", .str "own"), ("alls", .str "use"), ("bodies", .str "ahead"), ("spreads", .str "member"), ("near", .bl true), ("marks", .bl false)]⟩
def dd_is_book_part : He.DefD := ⟨("is_book_part", none), "is_book_part", "is_book_part", defArgs (top 15), defBody (top 15), defScope (top 15), [], []⟩
def dd_Book_changed : He.DefD := ⟨("Book", some "changed"), "changed", "Book.changed", defArgs (inClass (top 17) 12), defBody (inClass (top 17) 12), defScope (inClass (top 17) 12), [], []⟩
def dd_law_made_book : He.DefD := ⟨("_law_made_book", none), "_law_made_book", "_law_made_book", defArgs (top 32), defBody (top 32), defScope (top 32), [], []⟩
def dd_law_draw : He.DefD := ⟨("_law_draw", none), "_law_draw", "_law_draw", defArgs (top 28), defBody (top 28), defScope (top 28), [], []⟩
def dd_law_pick : He.DefD := ⟨("_law_pick", none), "_law_pick", "_law_pick", defArgs (top 29), defBody (top 29), defScope (top 29), [], []⟩
def dd_law_names_of : He.DefD := ⟨("_law_names_of", none), "_law_names_of", "_law_names_of", defArgs (top 30), defBody (top 30), defScope (top 30), [], []⟩
def dd_law_pool_of : He.DefD := ⟨("_law_pool_of", none), "_law_pool_of", "_law_pool_of", defArgs (top 27), defBody (top 27), defScope (top 27), [], []⟩
def dd_BadText___init__ : He.DefD := ⟨("BadText", some "__init__"), "__init__", "BadText.__init__", defArgs (inClass (top 4) 0), defBody (inClass (top 4) 0), defScope (inClass (top 4) 0), [], []⟩
def dd_book_from : He.DefD := ⟨("book_from", none), "book_from", "book_from", defArgs (top 22), defBody (top 22), defScope (top 22), [], []⟩
def dd_read_book : He.DefD := ⟨("read_book", none), "read_book", "read_book", defArgs (top 23), defBody (top 23), defScope (top 23), [], []⟩
def dd_is_name : He.DefD := ⟨("is_name", none), "is_name", "is_name", defArgs (top 8), defBody (top 8), defScope (top 8), [], []⟩
def dd_is_place : He.DefD := ⟨("is_place", none), "is_place", "is_place", defArgs (top 11), defBody (top 11), defScope (top 11), [], []⟩
def dd_read_place : He.DefD := ⟨("read_place", none), "read_place", "read_place", defArgs (top 25), defBody (top 25), defScope (top 25), [], []⟩
def dd_law_refused : He.DefD := ⟨("_law_refused", none), "_law_refused", "_law_refused", defArgs (top 34), defBody (top 34), defScope (top 34), [], []⟩
def dd_law_rules_of : He.DefD := ⟨("_law_rules_of", none), "_law_rules_of", "_law_rules_of", defArgs (top 31), defBody (top 31), defScope (top 31), [], []⟩
def dd_law_spoilt : He.DefD := ⟨("_law_spoilt", none), "_law_spoilt", "_law_spoilt", defArgs (top 35), defBody (top 35), defScope (top 35), [], []⟩
def dd_Book_alls : He.DefD := ⟨("Book", some "alls"), "alls", "Book.alls", defArgs (inClass (top 17) 3), defBody (inClass (top 17) 3), defScope (inClass (top 17) 3), [], []⟩
def dz_Book_alls : DefZ := ⟨fun K => (prG K (He.ga K "Book") "alls"), dd_Book_alls⟩
def dd_Book_bodies : He.DefD := ⟨("Book", some "bodies"), "bodies", "Book.bodies", defArgs (inClass (top 17) 4), defBody (inClass (top 17) 4), defScope (inClass (top 17) 4), [], []⟩
def dz_Book_bodies : DefZ := ⟨fun K => (prG K (He.ga K "Book") "bodies"), dd_Book_bodies⟩
def dd_Book_given : He.DefD := ⟨("Book", some "given"), "given", "Book.given", defArgs (inClass (top 17) 2), defBody (inClass (top 17) 2), defScope (inClass (top 17) 2), [], []⟩
def dz_Book_given : DefZ := ⟨fun K => (prG K (He.ga K "Book") "given"), dd_Book_given⟩
def dd_Book_marks : He.DefD := ⟨("Book", some "marks"), "marks", "Book.marks", defArgs (inClass (top 17) 7), defBody (inClass (top 17) 7), defScope (inClass (top 17) 7), [], []⟩
def dz_Book_marks : DefZ := ⟨fun K => (prG K (He.ga K "Book") "marks"), dd_Book_marks⟩
def dd_Book_near : He.DefD := ⟨("Book", some "near"), "near", "Book.near", defArgs (inClass (top 17) 6), defBody (inClass (top 17) 6), defScope (inClass (top 17) 6), [], []⟩
def dz_Book_near : DefZ := ⟨fun K => (prG K (He.ga K "Book") "near"), dd_Book_near⟩
def dd_Book_order : He.DefD := ⟨("Book", some "order"), "order", "Book.order", defArgs (inClass (top 17) 1), defBody (inClass (top 17) 1), defScope (inClass (top 17) 1), [], []⟩
def dz_Book_order : DefZ := ⟨fun K => (prG K (He.ga K "Book") "order"), dd_Book_order⟩
def dd_Book_spreads : He.DefD := ⟨("Book", some "spreads"), "spreads", "Book.spreads", defArgs (inClass (top 17) 5), defBody (inClass (top 17) 5), defScope (inClass (top 17) 5), [], []⟩
def dz_Book_spreads : DefZ := ⟨fun K => (prG K (He.ga K "Book") "spreads"), dd_Book_spreads⟩
def dd_write_book : He.DefD := ⟨("write_book", none), "write_book", "write_book", defArgs (top 21), defBody (top 21), defScope (top 21), [], []⟩
def dd_write_place : He.DefD := ⟨("write_place", none), "write_place", "write_place", defArgs (top 24), defBody (top 24), defScope (top 24), [], []⟩
def dd_law : He.DefD := ⟨("law", none), "law", "law", defArgs (top 36), defBody (top 36), defScope (top 36), [], []⟩
def fn : List He.DefD := [dd_Book___eq__, dd_law_book_text, dd_BadPart___init__, dd_is_value, dd_Book___init__, dd_is_book_part, dd_Book_changed, dd_law_made_book, dd_law_draw, dd_law_pick, dd_law_names_of, dd_law_pool_of, dd_BadText___init__, dd_book_from, dd_read_book, dd_is_name, dd_is_place, dd_read_place, dd_law_refused, dd_law_rules_of, dd_law_spoilt, dd_write_book, dd_write_place, dd_law]
def fz : List DefZ := [dz_Book_alls, dz_Book_bodies, dz_Book_given, dz_Book_marks, dz_Book_near, dz_Book_order, dz_Book_spreads]
def fa : List He.Fa := [
  .glo "law",
  .cls "Book",
  .glo "Book",
  .free "isinstance",
  .noat "Book" "parts",
  .glo "NamesError",
  .free "str",
  .free "bool",
  .glo "PARTS",
  .free "zip",
  .glo "is_value",
  .keep "is_value",
  .meth "BadPart" "__init__",
  .glo "BadPart",
  .noat "Book" "rows",
  .glo "is_book_part",
  .keep "is_book_part",
  .mkr "Book",
  .keep "Book",
  .meth "Book" "changed",
  .free "int",
  .free "len",
  .glo "_law_draw",
  .keep "_law_draw",
  .glo "_law_pick",
  .keep "_law_pick",
  .free "range",
  .free "sum",
  .free "abs",
  .glo "NEARS",
  .glo "MARKS",
  .free "all",
  .glo "book_from",
  .keep "book_from",
  .meth "BadText" "__init__",
  .glo "BadText",
  .int "MOST_LETTERS" 8,
  .str "LETTERS" "abcdefghijklmnopqrstuvwxyz",
  .free "tuple",
  .glo "LENGTHS",
  .glo "is_name",
  .keep "is_name",
  .glo "is_place",
  .keep "is_place",
  .glo "read_book",
  .keep "read_book",
  .glo "read_place",
  .keep "read_place",
  .exm "BadText" "NamesError" true,
  .exm "BadPart" "NamesError" true,
  .exm "NamesError" "NamesError" true,
  .exm "BadText" "BadText" true,
  .exm "BadPart" "BadText" false,
  .exm "NamesError" "BadText" false,
  .glo "_law_spoilt",
  .keep "_law_spoilt",
  .glo "_law_refused",
  .keep "_law_refused",
  .glo "write_place",
  .keep "write_place",
  .free "list",
  .glo "write_book",
  .keep "write_book",
  .glo "_law_made_book",
  .keep "_law_made_book",
  .glo "_law_book_text",
  .keep "_law_book_text",
  .glo "_law_names_of",
  .keep "_law_names_of",
  .glo "_law_pool_of",
  .keep "_law_pool_of",
  .glo "_law_rules_of",
  .keep "_law_rules_of"]
def ts : List He.Tab := [(fun K => (He.ga K "PARTS"), tb_PARTS.map (·.1)), (fun K => (He.ga K "NEARS"), tb_NEARS.map (·.1)), (fun K => (He.ga K "MARKS"), tb_MARKS.map (·.1)), (fun K => (He.ga K "LENGTHS"), tb_LENGTHS.map (·.1))]
def exL (K : PySem.W.Frag) : List Bool := [
  isiB1 K io0_t io0_o (.ref (He.ga K "Book")),
  (PySem.W.readsIn K (He.ga K "NamesError") (.type "type") && decide (PySem.W.specialIn K (.ref (He.ga K "NamesError")) "__getattribute__" = some (some (.builtin "type.__getattribute__")))),
  vvB K (He.ga K "NamesError"),
  isiB K io1_t io1_o [.type "str", .type "bool"],
  tblBk K (He.ga K "PARTS") tb_PARTS,
  oexB K (He.ga K "BadPart"),
  decide (PySem.W.findIn K (.ref (He.ga K "BadPart")) "part" = some none),
  tblBk K (He.ga K "NEARS") tb_NEARS,
  tblBk K (He.ga K "MARKS") tb_MARKS,
  isiB1 K io2_t io2_o (.type "str"),
  oexB K (He.ga K "BadText"),
  decide (PySem.W.findIn K (.ref (He.ga K "BadText")) "index" = some none),
  tblBk K (He.ga K "LENGTHS") tb_LENGTHS,
  xfB K (He.ga K "BadText"),
  prB K (He.ga K "Book") "order",
  prB K (He.ga K "Book") "marks",
  prB K (He.ga K "Book") "near",
  prB K (He.ga K "Book") "spreads",
  prB K (He.ga K "Book") "bodies",
  prB K (He.ga K "Book") "alls",
  prB K (He.ga K "Book") "given",
  eqcB K (He.ga K "Book")]
def exB (K : PySem.W.Frag) : Bool := (exL K).all id
section
variable {w : World} {h : Heap} {K : PySem.W.Frag} {mg : Str → Option Value}
theorem exF (c : SaysZ fa fn fz ts exB w K) (i : Nat) {b : Bool} (q : (exL K)[i]? = some b) : b = true := List.all_eq_true.mp (show (exL K).all id = true from c.more) b (List.mem_of_getElem? q)
theorem tabF (c : SaysZ fa fn fz ts exB w K) (i : Nat) {t : He.Tab} (q : ts[i]? = some t) : He.dicW K (t.1 K) = some (He.keysIn w.params t.2) := by
  have e : (ts.map fun t => He.dicW K (t.1 K)) = ts.map fun t => some (He.keysIn w.params t.2) := congrArg (fun z : He.AlT => z.2) c.y.t
  have e2 : (ts.map fun t => He.dicW K (t.1 K))[i]? = (ts.map fun t => some (He.keysIn w.params t.2))[i]? := by rw [e]
  rw [List.getElem?_map, List.getElem?_map, q] at e2
  exact Option.some.inj e2
theorem ev (X : K.In h) (G : h.Ns mainGlobals mg) (c : SaysZ fa fn fz ts exB w K) : Ev w K mg where
  g_law := He.glo_ok X G (c.y.t.d.fact 0 rfl)
  d_Book___eq__ := c.y.t.d.def_ 0 (d := dd_Book___eq__) rfl
  d_law_book_text := c.y.t.d.def_ 1 (d := dd_law_book_text) rfl
  d_BadPart___init__ := c.y.t.d.def_ 2 (d := dd_BadPart___init__) rfl
  d_is_value := c.y.t.d.def_ 3 (d := dd_is_value) rfl
  d_Book___init__ := c.y.t.d.def_ 4 (d := dd_Book___init__) rfl
  d_is_book_part := c.y.t.d.def_ 5 (d := dd_is_book_part) rfl
  d_Book_changed := c.y.t.d.def_ 6 (d := dd_Book_changed) rfl
  d_law_made_book := c.y.t.d.def_ 7 (d := dd_law_made_book) rfl
  d_law_draw := c.y.t.d.def_ 8 (d := dd_law_draw) rfl
  d_law_pick := c.y.t.d.def_ 9 (d := dd_law_pick) rfl
  d_law_names_of := c.y.t.d.def_ 10 (d := dd_law_names_of) rfl
  d_law_pool_of := c.y.t.d.def_ 11 (d := dd_law_pool_of) rfl
  d_BadText___init__ := c.y.t.d.def_ 12 (d := dd_BadText___init__) rfl
  d_book_from := c.y.t.d.def_ 13 (d := dd_book_from) rfl
  d_read_book := c.y.t.d.def_ 14 (d := dd_read_book) rfl
  d_is_name := c.y.t.d.def_ 15 (d := dd_is_name) rfl
  d_is_place := c.y.t.d.def_ 16 (d := dd_is_place) rfl
  d_read_place := c.y.t.d.def_ 17 (d := dd_read_place) rfl
  d_law_refused := c.y.t.d.def_ 18 (d := dd_law_refused) rfl
  d_law_rules_of := c.y.t.d.def_ 19 (d := dd_law_rules_of) rfl
  d_law_spoilt := c.y.t.d.def_ 20 (d := dd_law_spoilt) rfl
  d_Book_alls := c.defz 0 (d := dz_Book_alls) rfl
  d_Book_bodies := c.defz 1 (d := dz_Book_bodies) rfl
  d_Book_given := c.defz 2 (d := dz_Book_given) rfl
  d_Book_marks := c.defz 3 (d := dz_Book_marks) rfl
  d_Book_near := c.defz 4 (d := dz_Book_near) rfl
  d_Book_order := c.defz 5 (d := dz_Book_order) rfl
  d_Book_spreads := c.defz 6 (d := dz_Book_spreads) rfl
  d_write_book := c.y.t.d.def_ 21 (d := dd_write_book) rfl
  d_write_place := c.y.t.d.def_ 22 (d := dd_write_place) rfl
  d_law := c.y.t.d.def_ 23 (d := dd_law) rfl
  cls_Book := He.cls_ok (c.y.t.d.fact 1 rfl)
  isi_io0_t_Book := isi_one (exF c 0 rfl) (List.forall_mem_cons.mpr ⟨(He.cls_ok (c.y.t.d.fact 1 rfl)), no_own⟩)
  g_Book := He.glo_ok X G (c.y.t.d.fact 2 rfl)
  n_isinstance := He.free_ok X G (c.y.t.d.fact 3 rfl)
  na_Book_parts := He.noat_ok (c.y.t.d.fact 4 rfl)
  cr_NamesError := ⟨(Bool.and_eq_true_iff.mp (exF c 1 rfl)).1, of_decide_eq_true (Bool.and_eq_true_iff.mp (exF c 1 rfl)).2⟩
  vv_NamesError := vvB_ok (exF c 2 rfl)
  g_NamesError := He.glo_ok X G (c.y.t.d.fact 5 rfl)
  isi_io1_t_str_bool := isi_any (exF c 3 rfl) no_own
  n_str := He.free_ok X G (c.y.t.d.fact 6 rfl)
  n_bool := He.free_ok X G (c.y.t.d.fact 7 rfl)
  g_PARTS := He.glo_ok X G (c.y.t.d.fact 8 rfl)
  tbl_PARTS := tbl_okk (tabF c 0 rfl) (exF c 4 rfl)
  n_zip := He.free_ok X G (c.y.t.d.fact 9 rfl)
  kk_PARTS := kkeys_of (tabF c 0 rfl)
  g_is_value := He.glo_ok X G (c.y.t.d.fact 10 rfl)
  kp_is_value := He.keep_ok (c.y.t.d.fact 11 rfl)
  me_BadPart_DinitD := He.meth_ok (c.y.t.d.fact 12 rfl)
  oex_BadPart := oexB_ok (exF c 5 rfl)
  hno_BadPart_part := of_decide_eq_true (exF c 6 rfl)
  g_BadPart := He.glo_ok X G (c.y.t.d.fact 13 rfl)
  na_Book_rows := He.noat_ok (c.y.t.d.fact 14 rfl)
  g_is_book_part := He.glo_ok X G (c.y.t.d.fact 15 rfl)
  kp_is_book_part := He.keep_ok (c.y.t.d.fact 16 rfl)
  mk_Book := He.mkr_ok (c.y.t.d.fact 17 rfl)
  kp_Book := He.keep_ok (c.y.t.d.fact 18 rfl)
  me_Book_changed := He.meth_ok (c.y.t.d.fact 19 rfl)
  n_int := He.free_ok X G (c.y.t.d.fact 20 rfl)
  n_len := He.free_ok X G (c.y.t.d.fact 21 rfl)
  g_law_draw := He.glo_ok X G (c.y.t.d.fact 22 rfl)
  kp_law_draw := He.keep_ok (c.y.t.d.fact 23 rfl)
  g_law_pick := He.glo_ok X G (c.y.t.d.fact 24 rfl)
  kp_law_pick := He.keep_ok (c.y.t.d.fact 25 rfl)
  n_range := He.free_ok X G (c.y.t.d.fact 26 rfl)
  n_sum := He.free_ok X G (c.y.t.d.fact 27 rfl)
  n_abs := He.free_ok X G (c.y.t.d.fact 28 rfl)
  g_NEARS := He.glo_ok X G (c.y.t.d.fact 29 rfl)
  tbl_NEARS := tbl_okk (tabF c 1 rfl) (exF c 7 rfl)
  g_MARKS := He.glo_ok X G (c.y.t.d.fact 30 rfl)
  tbl_MARKS := tbl_okk (tabF c 2 rfl) (exF c 8 rfl)
  n_all := He.free_ok X G (c.y.t.d.fact 31 rfl)
  isi_io2_t_str := isi_one (exF c 9 rfl) (List.forall_mem_cons.mpr ⟨(He.cls_ok (c.y.t.d.fact 1 rfl)), no_own⟩)
  g_book_from := He.glo_ok X G (c.y.t.d.fact 32 rfl)
  kp_book_from := He.keep_ok (c.y.t.d.fact 33 rfl)
  me_BadText_DinitD := He.meth_ok (c.y.t.d.fact 34 rfl)
  oex_BadText := oexB_ok (exF c 10 rfl)
  hno_BadText_index := of_decide_eq_true (exF c 11 rfl)
  g_BadText := He.glo_ok X G (c.y.t.d.fact 35 rfl)
  i_MOST_LETTERS := He.int_ok X G (c.y.t.d.fact 36 rfl)
  s_LETTERS := He.str_ok X G (c.y.t.d.fact 37 rfl)
  n_tuple := He.free_ok X G (c.y.t.d.fact 38 rfl)
  g_LENGTHS := He.glo_ok X G (c.y.t.d.fact 39 rfl)
  tbl_LENGTHS := tbl_okk (tabF c 3 rfl) (exF c 12 rfl)
  g_is_name := He.glo_ok X G (c.y.t.d.fact 40 rfl)
  kp_is_name := He.keep_ok (c.y.t.d.fact 41 rfl)
  g_is_place := He.glo_ok X G (c.y.t.d.fact 42 rfl)
  kp_is_place := He.keep_ok (c.y.t.d.fact 43 rfl)
  g_read_book := He.glo_ok X G (c.y.t.d.fact 44 rfl)
  kp_read_book := He.keep_ok (c.y.t.d.fact 45 rfl)
  g_read_place := He.glo_ok X G (c.y.t.d.fact 46 rfl)
  kp_read_place := He.keep_ok (c.y.t.d.fact 47 rfl)
  xm_BadText_NamesError := He.exm_ok (c.y.t.d.fact 48 rfl)
  xm_BadPart_NamesError := He.exm_ok (c.y.t.d.fact 49 rfl)
  xm_NamesError_NamesError := He.exm_ok (c.y.t.d.fact 50 rfl)
  xm_BadText_BadText := He.exm_ok (c.y.t.d.fact 51 rfl)
  xm_BadPart_BadText := He.exm_ok (c.y.t.d.fact 52 rfl)
  xm_NamesError_BadText := He.exm_ok (c.y.t.d.fact 53 rfl)
  xf_BadText := xfB_ok (exF c 13 rfl)
  pr_Book_order := prB_ok (exF c 14 rfl)
  pr_Book_marks := prB_ok (exF c 15 rfl)
  pr_Book_near := prB_ok (exF c 16 rfl)
  pr_Book_spreads := prB_ok (exF c 17 rfl)
  pr_Book_bodies := prB_ok (exF c 18 rfl)
  pr_Book_alls := prB_ok (exF c 19 rfl)
  pr_Book_given := prB_ok (exF c 20 rfl)
  g_law_spoilt := He.glo_ok X G (c.y.t.d.fact 54 rfl)
  kp_law_spoilt := He.keep_ok (c.y.t.d.fact 55 rfl)
  g_law_refused := He.glo_ok X G (c.y.t.d.fact 56 rfl)
  kp_law_refused := He.keep_ok (c.y.t.d.fact 57 rfl)
  g_write_place := He.glo_ok X G (c.y.t.d.fact 58 rfl)
  kp_write_place := He.keep_ok (c.y.t.d.fact 59 rfl)
  n_list := He.free_ok X G (c.y.t.d.fact 60 rfl)
  g_write_book := He.glo_ok X G (c.y.t.d.fact 61 rfl)
  kp_write_book := He.keep_ok (c.y.t.d.fact 62 rfl)
  eqc_Book := eqcB_ok (exF c 21 rfl)
  g_law_made_book := He.glo_ok X G (c.y.t.d.fact 63 rfl)
  kp_law_made_book := He.keep_ok (c.y.t.d.fact 64 rfl)
  g_law_book_text := He.glo_ok X G (c.y.t.d.fact 65 rfl)
  kp_law_book_text := He.keep_ok (c.y.t.d.fact 66 rfl)
  g_law_names_of := He.glo_ok X G (c.y.t.d.fact 67 rfl)
  kp_law_names_of := He.keep_ok (c.y.t.d.fact 68 rfl)
  g_law_pool_of := He.glo_ok X G (c.y.t.d.fact 69 rfl)
  kp_law_pool_of := He.keep_ok (c.y.t.d.fact 70 rfl)
  g_law_rules_of := He.glo_ok X G (c.y.t.d.fact 71 rfl)
  kp_law_rules_of := He.keep_ok (c.y.t.d.fact 72 rfl)
end
end G

set_option Elab.async false
set_option linter.all false
set_option maxRecDepth 100000
set_option maxHeartbeats 4000000
/-! P82a: the plain law of k82, from the draws on. -/
namespace G
open PySem PySem.Spec PyProof.Rows L2

/-- a pool -/
def Pool (h : List D) (p : Nat) : Prop := ∃ a b : Int, h[p]? = some (.lst [.int a, .int b]) ∧ 0 ≤ a ∧ 0 ≤ b ∧ b < 2147483647
theorem draw_ok {h : List D} {p : Nat} {many : Int} (P : Pool h p) (h1 : 0 < many) (h2 : many < 1073741824) :
    ∃ r c, F_law_draw [.loc p, .int many] h = .ok (.int r) (h.set p c) ∧ 0 ≤ r ∧ r < many ∧ Pool (h.set p c) p := by
  obtain ⟨a, b, hp, ha, hb, hb2⟩ := P
  by_cases h0 : 0 < a
  · refine ⟨a % many, .lst [.int (a / many), .int b], ?_, Int.emod_nonneg _ (by omega), Int.emod_lt_of_pos _ h1, a / many, b, set_get hp, Int.ediv_nonneg ha (by omega), hb, hb2⟩
    simp [F_law_draw, runF, m_law_draw, sSeq, sIf, cB, c2, cVar, cC, oGt, oI, oIx, dicOf, seqOf, lstOf, tupOf, atI, ixN, R.bind, R.thenS, hp, h0, sSet, cCall, f1, intD, aCons, aNil, oMod, oDiv, cDiv, h1, h2, sSub, sRet, RS.toR, List.replicate, List.set]
  · have e : a = 0 := by omega
    subst e
    have hb' : 0 ≤ (b * 48271 + 11) % 2147483647 := Int.emod_nonneg _ (by omega)
    have hb'' : (b * 48271 + 11) % 2147483647 < 2147483647 := Int.emod_lt_of_pos _ (by omega)
    generalize hB : (b * 48271 + 11) % 2147483647 = B at hb' hb''
    refine ⟨(B * B % 2147483629 / 16) % many, .lst [.int 0, .int B], ?_, Int.emod_nonneg _ (by omega), Int.emod_lt_of_pos _ h1, 0, B, set_get hp, by omega, hb', hb''⟩
    have hs : (h.set p (.lst [.int 0, .int B]))[p]? = some (.lst [.int 0, .int B]) := set_get hp
    have c1 : cMul b 48271 = true := by simp only [cMul, Bool.or_eq_true, Bool.and_eq_true, decide_eq_true_eq]; omega
    have c2' : cMul B B = true := by simp only [cMul, Bool.or_eq_true, Bool.and_eq_true, decide_eq_true_eq]; omega
    simp [F_law_draw, runF, m_law_draw, sSeq, sIf, cB, c2, cVar, cC, oGt, oI, oIx, dicOf, seqOf, lstOf, tupOf, atI, ixN, R.bind, R.thenS, hp, hs, sSet, cCall, f1, intD, aCons, aNil, oMod, oDiv, oMul, oPlus, c1, c2', cDiv, h1, h2, sSub, sRet, RS.toR, List.replicate, List.set, hB, sNil]
/-- a row's item by a draw -/
theorem pick_ok {h : List D} {p : Nat} {row : List D} (P : Pool h p) (h1 : 0 < row.length) (h2 : row.length < 1073741824) :
    ∃ (j : Nat) (x : D) (c : D), row[j]? = some x ∧ F_law_pick [.loc p, .lst row] h = .ok x (h.set p c) ∧ Pool (h.set p c) p := by
  obtain ⟨r, c, e, r0, r1, P'⟩ := draw_ok (many := row.length) P (by omega) (by omega)
  have hj : r.toNat < row.length := by omega
  refine ⟨r.toNat, row[r.toNat], c, List.getElem?_eq_getElem hj, ?_, P'⟩
  have ha : atI row r = some row[r.toNat] := by
    unfold atI ixN
    rw [if_pos r0, if_pos r1]
    exact List.getElem?_eq_getElem hj
  simp [F_law_pick, runF, m_law_pick, sRet, c2, cVar, cCall, aCons, aNil, f1, lenD, dicOf, seqOf, lstOf, R.bind, R.thenS, RS.toR, List.replicate, e, oIx, ha]
theorem intsOf_map : ∀ ns : List Int, intsOf (ns.map .int) = some ns
  | [] => rfl
  | n :: ns => by rw [List.map_cons]; unfold intsOf; rw [intsOf_map ns]; rfl
theorem cutD_ints (ns : List Int) (lo hi : Option Int) : ∃ ms : List Int, cutD (ns.map .int) lo hi = ms.map .int := by
  unfold cutD
  rw [← List.map_drop, ← List.map_take]
  exact ⟨_, rfl⟩
theorem atI_map {ns : List Int} {k : Int} (h0 : 0 ≤ k) (h1 : k < ns.length) : ∃ x : Int, atI (ns.map D.int) k = some (.int x) := by
  have hk : k.toNat < ns.length := by omega
  refine ⟨ns[k.toNat], ?_⟩
  unfold atI ixN
  rw [List.length_map, if_pos h0, if_pos h1, Option.bind_some, List.getElem?_map, List.getElem?_eq_getElem hk]
  rfl
/-- a new pool -/
theorem pool_ok {ns : List Int} {k : Int} {h : List D} (k0 : 0 ≤ k) (k1 : k < 64) : ∃ c, F_law_pool_of [.scr ns, .int k] h = .ok (.loc h.length) (h ++ [c]) ∧ Pool (h ++ [c]) h.length := by
  have cell : ∃ x : Int, (cIf (cB (c2 oLt (cVar 1) (cCall (f1 lenD) (aCons (cVar 0) (aNil))))) (c2 oIx (cVar 0) (cVar 1)) (c2 oPlus (c2 oMul (cC (.int 7)) (cCall (f1 sumD) (aCons (cSl (cVar 0) (oNone) (oSome (cC (.int 63)))) (aNil)))) (cVar 1))) [.v (.scr ns), .v (.int k), .u, .u, .u] h = .ok (.int x) h := by
    by_cases hk : k < ns.length
    · obtain ⟨x, hx⟩ := atI_map k0 hk
      refine ⟨x, ?_⟩
      simp [cIf, cB, c2, oLt, oI, cVar, cCall, aCons, aNil, f1, lenD, dicOf, seqOf, lstOf, R.bind, hk, oIx, hx]
    · obtain ⟨ms, hm⟩ := cutD_ints ns none (some 63)
      refine ⟨7 * ms.sum + k, ?_⟩
      have c1 : cMul 7 ms.sum = true := by simp [cMul]
      simp [cIf, cB, c2, oLt, oI, cVar, cC, cCall, aCons, aNil, f1, lenD, dicOf, seqOf, lstOf, R.bind, hk, oMul, c1, oPlus, cSl, oNone, oSome, oSl, hm, sumD, intsOf_map]
  obtain ⟨x, hx⟩ := cell
  generalize hz : (if x < 0 then -x else x) = z
  have z0 : 0 ≤ z := by rw [← hz]; split <;> omega
  have p1 : cMul 7919 k = true := by simp only [cMul, Bool.or_eq_true, Bool.and_eq_true, decide_eq_true_eq]; omega
  have p2 : cMul (7919 * k) k = true := by simp only [cMul, Bool.or_eq_true, Bool.and_eq_true, decide_eq_true_eq]; omega
  have p3 : cMul 31 k = true := by simp only [cMul, Bool.or_eq_true, Bool.and_eq_true, decide_eq_true_eq]; omega
  generalize hm : z % 2147483629 + 7919 * k * k + 31 * k + 17 = m
  have p4 : cMul m 48271 = true := by simp only [cMul, Bool.or_eq_true, Bool.and_eq_true, decide_eq_true_eq]; omega
  have b0 : 0 ≤ m * 48271 % 2147483647 := Int.emod_nonneg _ (by omega)
  have b1 : m * 48271 % 2147483647 < 2147483647 := Int.emod_lt_of_pos _ (by omega)
  generalize hb : m * 48271 % 2147483647 = b at b0 b1
  have p5 : cMul b b = true := by simp only [cMul, Bool.or_eq_true, Bool.and_eq_true, decide_eq_true_eq]; omega
  have p6 : cPow 10 18 = true := by decide
  have d0 : 0 ≤ b * b % 2147483629 := Int.emod_nonneg _ (by omega)
  have d1 : b * b % 2147483629 < 2147483629 := Int.emod_lt_of_pos _ (by omega)
  by_cases hbig : (1000000000000000000 : Int) ≤ z
  · have p7 : cMul z 1 = true := by simp [cMul]
    refine ⟨.lst [.int z, .int (b * b % 2147483629)], ?_, z, b * b % 2147483629, by simp, z0, d0, by omega⟩
    show (m_law_pool_of [.v (.scr ns), .v (.int k), .u, .u, .u] h).toR = _
    simp only [m_law_pool_of, sSeq, sSet, R.thenS, hx]
    simp [R.bind, cCall, aCons, aNil, cVar, f1, absD, hz, c2, oPlus, oMod, oI, intD, cC, oMul, p1, p2, p3, hm, p4, hb, sRet, cLstN, oGe, oPow, p6, p5, hbig, p7, RS.toR, R.thenS, sizeLine_eq]
  · have p7 : cMul z 0 = true := by simp [cMul]
    refine ⟨.lst [.int 0, .int (b * b % 2147483629)], ?_, 0, b * b % 2147483629, by simp, by omega, d0, by omega⟩
    show (m_law_pool_of [.v (.scr ns), .v (.int k), .u, .u, .u] h).toR = _
    simp only [m_law_pool_of, sSeq, sSet, R.thenS, hx]
    simp [R.bind, cCall, aCons, aNil, cVar, f1, absD, hz, c2, oPlus, oMod, oI, intD, cC, oMul, p1, p2, p3, hm, p4, hb, sRet, cLstN, oGe, oPow, p6, p5, hbig, p7, RS.toR, R.thenS, sizeLine_eq]
end G

set_option Elab.async false
set_option linter.all false
set_option maxRecDepth 100000
set_option maxHeartbeats 4000000
/-! P82b: the plain law of k82: names and places. -/
namespace G
open PySem PySem.Spec PyProof.Rows L2

def LET : Str := "abcdefghijklmnopqrstuvwxyz"
/-- is_name, of a text -/
def nmB (s : Str) : Bool := decide (1 ≤ s.length) && (decide (s.length ≤ 8) && (s.cps.toList.map fun c => inS ⟨#[c]⟩ LET).all id)
theorem lc_signs {h : List D} {env : List Sl} (he : env.length = 2) : ∀ (cs : List Nat) (acc : List D), acc.length + cs.length ≤ sizeLine →
    lcGo (gN 1) mYes (c2 (oIn false) (cVar 1) (cC (.str LET))) env (cs.map fun c => .str ⟨#[c]⟩) acc h = .ok (acc ++ cs.map fun c => .bl (inS ⟨#[c]⟩ LET)) h
  | [], acc, _ => by simp [lcGo]
  | c :: cs, acc, hl => by
    have hl' : acc.length + (cs.length + 1) ≤ sizeLine := by simpa using hl
    have ih := lc_signs (h := h) he cs (acc ++ [.bl (inS ⟨#[c]⟩ LET)]) (by simp; omega)
    rw [List.map_cons]
    unfold lcGo
    have e : (env.set 1 (.v (.str ⟨#[c]⟩)))[1]? = some (.v (.str ⟨#[c]⟩)) := List.getElem?_set_self (by omega)
    have hlt : acc.length < sizeLine := by omega
    simp [gN, mYes, R.bind, R.noexc, c2, cVar, cC, oIn, e, hlt]
    rw [ih]
    simp
theorem blsOf_map : ∀ bs : List Bool, blsOf (bs.map .bl) = some bs
  | [] => rfl
  | b :: bs => by rw [List.map_cons]; unfold blsOf; rw [blsOf_map bs]; rfl
theorem is_name_str {s : Str} {h : List D} (hs : s.length ≤ sizeLine) : F_is_name [.str s] h = .ok (.bl (nmB s)) h := by
  have hl : s.cps.toList.length ≤ sizeLine := by simpa [Str.length] using hs
  have q := lc_signs (h := h) (env := [.v (.str s), .u]) rfl s.cps.toList [] (by simpa using hl)
  have hlet : LET = "abcdefghijklmnopqrstuvwxyz" := rfl
  have w : wipeE [.v (.str s), .u] [1] = [.v (.str s), .u] := rfl
  show (m_is_name [.v (.str s), .u] h).toR = _
  have comp : cLc (iText (cVar 0)) (gN 1) (mYes) (c2 (oIn false) (cVar 1) (cC (.str "abcdefghijklmnopqrstuvwxyz"))) [1] [.v (.str s), .u] h = .ok (.lst ((s.cps.toList.map fun c => inS ⟨#[c]⟩ LET).map .bl)) h := by
    unfold cLc aLc iText
    simp only [cVar, List.getElem?_cons_zero, R.bind, noX, List.all_cons, List.all_nil, Sl.noX, Bool.and_self, cond_true, w]
    rw [← hlet, q]
    simp [List.map_map, Function.comp_def]
  have ty : ty_str.lookup "str" = some true := by decide
  unfold nmB
  generalize (s.cps.toList.map fun c => inS ⟨#[c]⟩ LET) = bs at comp ⊢
  by_cases h1 : 1 ≤ s.length
  · have h1' : (1 : Int) ≤ (s.length : Int) := by omega
    by_cases h2 : s.length ≤ 8
    · have h2' : (s.length : Int) ≤ 8 := by omega
      simp [m_is_name, sRet, cAndV, cIsi, cVar, R.bind, tyD, ty, cChain, cC, cCall, aCons, aNil, f1, lenD, hs, oLe, oI, h1', h2', R.thenS, RS.toR, h1, h2, comp, allD, lstOf, blsOf_map]
    · have h2' : ¬ (s.length : Int) ≤ 8 := by omega
      simp [m_is_name, sRet, cAndV, cIsi, cVar, R.bind, tyD, ty, cChain, cC, cCall, aCons, aNil, f1, lenD, hs, oLe, oI, h1', h2', R.thenS, RS.toR, h1, h2]
  · have h1' : ¬ (1 : Int) ≤ (s.length : Int) := by omega
    simp [m_is_name, sRet, cAndV, cIsi, cVar, R.bind, tyD, ty, cChain, cC, cCall, aCons, aNil, f1, lenD, hs, oLe, oI, h1', R.thenS, RS.toR, h1]
/-- is_name, of what is no text -/
theorem is_name_no {d : D} {h : List D} {t : String} (ht : tyD h d = some t) (hs : ty_str.lookup t = some false) : F_is_name [d] h = .ok (.bl false) h := by
  show (m_is_name [.v d, .u] h).toR = _
  simp [m_is_name, sRet, cAndV, cIsi, cVar, R.bind, ht, hs, R.thenS, RS.toR]
/-! ### places -/
theorem tbl_get (x : Str) (z : D) : ((tb_LENGTHS.map fun q => (q.1, q.2.d)).lookup x).getD z = if x = "name" then .int 3 else if x = "member" then .int 3 else if x = "spread" then .int 4 else z := by
  simp only [tb_LENGTHS, List.map, List.lookup_cons, List.lookup_nil, Dk.d, Dc.d]
  by_cases h1 : x = "name"
  · subst h1; rfl
  · have e1 : (x == ("name" : Str)) = false := by simpa using h1
    rw [e1, if_neg h1]
    by_cases h2 : x = "member"
    · subst h2; rfl
    · have e2 : (x == ("member" : Str)) = false := by simpa using h2
      rw [e2, if_neg h2]
      by_cases h3 : x = "spread"
      · subst h3; rfl
      · have e3 : (x == ("spread" : Str)) = false := by simpa using h3
        rw [e3, if_neg h3]
        rfl
/-- the names of a place, judged -/
theorem lc_names {h : List D} {env : List Sl} (he : env.length = 2) : ∀ (xs : List Str) (acc : List D), (∀ x ∈ xs, x.length ≤ sizeLine) → acc.length + xs.length ≤ sizeLine →
    lcGo (gN 1) mYes (cCall F_is_name (aCons (cVar 1) aNil)) env (xs.map .str) acc h = .ok (acc ++ xs.map fun x => .bl (nmB x)) h
  | [], acc, _, _ => by simp [lcGo]
  | x :: xs, acc, hx, hl => by
    have hl' : acc.length + (xs.length + 1) ≤ sizeLine := by simpa using hl
    have ih := lc_names (h := h) he xs (acc ++ [.bl (nmB x)]) (fun y hy => hx y (List.mem_cons_of_mem _ hy)) (by simp; omega)
    rw [List.map_cons]
    unfold lcGo
    have e : (env.set 1 (.v (.str x)))[1]? = some (.v (.str x)) := List.getElem?_set_self (by omega)
    have hlt : acc.length < sizeLine := by omega
    have n := is_name_str (s := x) (h := h) (hx x List.mem_cons_self)
    simp [gN, mYes, R.bind, R.noexc, cCall, aCons, aNil, cVar, e, hlt, n]
    rw [ih]
    simp
end G

set_option Elab.async false
set_option linter.all false
set_option maxRecDepth 100000
set_option maxHeartbeats 4000000
/-! P82c: the plain law of k82: places, notes. -/
namespace G
open PySem PySem.Spec PyProof.Rows L2

/-- a name that may come -/
def Nm (x : Str) : Bool := nmB x && (PyData.strOk x && (decide (x.length ≤ 40) && (PyData.strOk (reprText x) && decide ((reprText x).length ≤ 100))))
theorem Nm.len {x : Str} (h : Nm x = true) : x.length ≤ sizeLine := by
  simp only [Nm, Bool.and_eq_true, decide_eq_true_eq] at h
  have : sizeLine = 16777216 := by decide
  omega
theorem Nm.fw {x : Str} (h : Nm x = true) : FW 0 40 (.str x) = true := by
  simp only [Nm, Bool.and_eq_true, decide_eq_true_eq] at h
  exact FW_str h.2.1 h.2.2.1
theorem Nm.nm {x : Str} (h : Nm x = true) : nmB x = true := by
  simp only [Nm, Bool.and_eq_true] at h
  exact h.1
/-- the length that a first word asks -/
def wordLen (w : Str) : Int := if w = "name" then 3 else if w = "member" then 3 else if w = "spread" then 4 else 0
theorem is_place_tup {h : List D} (w : Str) (xs : List Str) (hw : xs.length ≤ 20) (hx : ∀ x ∈ xs, x.length ≤ sizeLine) :
    F_is_place [.tup (.str w :: xs.map .str)] h = .ok (.bl (decide (wordLen w = xs.length + 1) && xs.all nmB)) h := by
  have hz : sizeLine = 16777216 := by decide
  have t1 : ty_tuple.lookup "tuple" = some true := by decide
  have t2 : ty_str.lookup "str" = some true := by decide
  have cl : cLc (iTupD (cSl (cVar 0) (oSome (cC (.int 1))) (oNone))) (gN 1) (mYes) (cCall F_is_name (aCons (cVar 1) (aNil))) [1] [.v (.tup (.str w :: xs.map .str)), .u] h = .ok (.lst (xs.map fun x => .bl (nmB x))) h := by
    have q := lc_names (h := h) (env := [.v (.tup (.str w :: xs.map .str)), .u]) rfl xs [] hx (by simp; omega)
    unfold cLc aLc iTupD cSl
    have cut : cutD (D.str w :: xs.map D.str) (some 1) none = xs.map D.str := by
      unfold cutD
      have e1 : HT.sIx (D.str w :: xs.map D.str).length 0 (some 1) = 1 := by
        unfold HT.sIx; simp <;> omega
      have e2 : HT.sIx (D.str w :: xs.map D.str).length (D.str w :: xs.map D.str).length none = xs.length + 1 := by
        unfold HT.sIx; simp
      rw [e1, e2]
      have e3 : (xs.map D.str).length = xs.length := List.length_map _
      simp only [Nat.add_sub_cancel, List.drop_succ_cons, List.drop_zero]
      rw [← e3]
      exact List.take_length
    simp only [cVar, List.getElem?_cons_zero, R.bind_ok, oSome, cC, oNone, oSl, lstOf, tupOf, cut, noX, List.all_cons, List.all_nil, Sl.noX, Bool.and_self, cond_true]
    show (lcGo (gN 1) mYes (cCall F_is_name (aCons (cVar 1) aNil)) [.v (.tup (.str w :: xs.map .str)), .u] (xs.map .str) [] h).bind _ = _
    rw [q]
    simp
  show (m_is_place [.v (.tup (.str w :: xs.map .str)), .u] h).toR = _
  have at0 : atI (D.str w :: xs.map D.str) 0 = some (.str w) := by unfold atI ixN; simp
  have tg : ((tb_LENGTHS.map fun q => (q.1, q.2.d)).lookup w).getD (.int 0) = .int (wordLen w) := by
    rw [tbl_get]
    unfold wordLen
    split
    · rfl
    · split
      · rfl
      · split <;> rfl
  have ne0 : ¬ ((xs.length : Int) + 1 = 0) := by omega
  have head : sIf (cOr (cNot (cB (cIsi ty_tuple (cVar 0)))) (cOr (cB (c2 (oEq false) (cCall (f1 lenD) (aCons (cVar 0) (aNil))) (cC (.int 0)))) (cNot (cB (cIsi ty_str (c2 oIx (cVar 0) (cC (.int 0)))))))) (sRet (cC (.bl false))) sNil [.v (.tup (.str w :: xs.map .str)), .u] h = .nx [.v (.tup (.str w :: xs.map .str)), .u] h := by
    simp [sIf, cOr, cNot, cB, cIsi, cVar, tyD, t1, c2, cCall, aCons, aNil, f1, lenD, dicOf, seqOf, lstOf, tupOf, cC, oEq, ne0, oIx, at0, t2, sNil]
  unfold m_is_place
  rw [sSeq_nx head]
  unfold sRet cAndV
  simp only [c2, cGetK, cVar, List.getElem?_cons_zero, R.bind_ok, cC, oIx, dicOf, seqOf, lstOf, tupOf, at0, tg, cCall, aCons, aNil, f1, lenD, List.length_cons, List.length_map, oEq]
  by_cases hc : wordLen w = xs.length + 1
  · have hc' : (decide (wordLen w = ((xs.length + 1 : Nat) : Int))) = true := by simpa using hc
    simp only [hc', Bool.false_eq_true, if_false, R.bind_ok]
    rw [cl]
    have b : blsOf (xs.map fun x => D.bl (nmB x)) = some (xs.map nmB) := by
      have := blsOf_map (xs.map nmB)
      rwa [List.map_map] at this
    simp [allD, lstOf, b, R.thenS, RS.toR, hc, List.all_map, Function.comp_def]
  · have hc' : (decide (wordLen w = ((xs.length + 1 : Nat) : Int))) = false := by simpa using hc
    simp only [hc', Bool.false_eq_true, if_false, R.bind_ok]
    simp [R.thenS, RS.toR, hc]
end G

set_option Elab.async false
set_option linter.all false
set_option maxRecDepth 100000
set_option maxHeartbeats 4000000
/-! P82d: the plain law of k82: texts of words. -/
namespace G
open PySem PySem.Spec PyProof.Rows L2
abbrev SPC : Str := " "
def J (ws : List Str) : Str := Txt.join " " ws
theorem tl_J (ws : List Str) : TL.tl (J ws) = TL.joinL [32] (ws.map TL.tl) := by
  unfold J
  rw [TL.join_eq, TL.tl_join]
  rfl
/-- no space -/
def nsp (w : Str) : Bool := !(TL.tl w).contains 32
theorem nsp_ok {w : Str} (h : nsp w = true) : 32 ∉ TL.tl w := by
  unfold nsp at h
  simpa using h
theorem split_J {ws : List Str} (h : ∀ w ∈ ws, nsp w = true) (hn : ws ≠ []) : Txt.split (J ws) " " = ws :=
  TL.split_join (s := 32) (S := []) rfl (by decide +kernel) hn fun p hp => nsp_ok (h p hp)
theorem joinL_cons {s : List Nat} (p : List Nat) {ps : List (List Nat)} (h : ps ≠ []) : TL.joinL s (p :: ps) = p ++ (s ++ TL.joinL s ps) := by
  cases ps with
  | nil => exact absurd rfl h
  | cons q r => rfl
theorem J_cons (w : Str) {ws : List Str} (h : ws ≠ []) : w ++ " " ++ J ws = J (w :: ws) := by
  refine TL.ext_tl ?_
  rw [TL.tl_append, TL.tl_append, tl_J, tl_J, List.map_cons, joinL_cons _ (by simpa using h), List.append_assoc]
  rfl
theorem joinL_snoc {s : List Nat} (p : List Nat) : ∀ {ps : List (List Nat)}, ps ≠ [] → TL.joinL s (ps ++ [p]) = TL.joinL s ps ++ (s ++ p)
  | [], h => absurd rfl h
  | [q], _ => rfl
  | q :: q' :: r, _ => by
    rw [List.cons_append, joinL_cons q (by simp), joinL_snoc p (ps := q' :: r) (by simp), joinL_cons q (ps := q' :: r) (by simp)]
    simp
theorem J_snoc {ws : List Str} (w : Str) (h : ws ≠ []) : J ws ++ " " ++ w = J (ws ++ [w]) := by
  refine TL.ext_tl ?_
  rw [TL.tl_append, TL.tl_append, tl_J, tl_J, List.map_append, List.map_singleton, joinL_snoc _ (by simpa using h), List.append_assoc]
  rfl
theorem J_end {ws : List Str} (h : ws ≠ []) : J ws ++ " " = J (ws ++ ([""] : List Str)) := by
  rw [← J_snoc "" h]
  refine TL.ext_tl ?_
  rw [TL.tl_append (J ws ++ " ")]
  show _ = _ ++ []
  rw [List.append_nil]
theorem J_front {ws : List Str} (h : ws ≠ []) : " " ++ J ws = J ("" :: ws) := by
  rw [← J_cons "" h]
  refine TL.ext_tl ?_
  rw [TL.tl_append, TL.tl_append, TL.tl_append]
  rfl
theorem J_book {ws : List Str} (h : ws ≠ []) : "book " ++ J ws = J ("book" :: ws) := by
  rw [← J_cons "book" h]
  refine TL.ext_tl ?_
  rw [TL.tl_append, TL.tl_append, TL.tl_append]
  rfl
theorem J_nl {ws : List Str} (w : Str) : J (ws ++ [w]) ++ "\n" = J (ws ++ [w ++ "\n"]) := by
  cases h : ws with
  | nil => rfl
  | cons a r =>
    have hn : a :: r ≠ [] := by simp
    rw [← J_snoc w hn, ← J_snoc (w ++ "\n") hn]
    refine TL.ext_tl ?_
    simp only [TL.tl_append, List.append_assoc]
/-! ### replace of one sign -/
theorem repl1 (c : Nat) (z : List Nat) : ∀ l : List Nat, StrLaws.replL [c] z l = l.flatMap fun x => if x = c then z else [x]
  | [] => StrLaws.replL_nil
  | x :: l => by
    by_cases h : x = c
    · have ht : (x :: l).take [c].length = [c] := by simp [h]
      rw [StrLaws.replL_hit (by simp) ht]
      show z ++ StrLaws.replL [c] z l = _
      rw [repl1 c z l, List.flatMap_cons, if_pos h]
    · have ht : ¬ (x :: l).take [c].length = [c] := by simp [h]
      rw [StrLaws.replL_miss ht, repl1 c z l, List.flatMap_cons, if_neg h]
      rfl
theorem tl_repl (x : Str) (c : Nat) (z : Str) : TL.tl (Txt.replace x ⟨#[c]⟩ z) = (TL.tl x).flatMap fun y => if y = c then TL.tl z else [y] := by
  have := StrLaws.replace_list (x := x) (y := ⟨#[c]⟩) (z := z) (Nat.le_refl 1)
  show (Txt.replace x ⟨#[c]⟩ z).cps.toList = _
  rw [this]
  exact repl1 c _ _
theorem cnt_append (c : Nat) : ∀ a b : List Nat, cnt c (a ++ b) = cnt c a + cnt c b
  | [], b => by rw [List.nil_append, cnt_nil]; omega
  | x :: a, b => by rw [List.cons_append, cnt_cons, cnt_cons, cnt_append c a b]; omega
theorem cnt_not {c : Nat} : ∀ {l : List Nat}, c ∉ l → cnt c l = 0
  | [], _ => cnt_nil c
  | x :: l, h => by
    rw [cnt_cons, if_neg (fun e => h (by rw [e]; exact List.mem_cons_self)), cnt_not (fun m => h (List.mem_cons_of_mem _ m))]
    rfl
theorem cnt_pos (c : Nat) : ∀ l : List Nat, 0 ≤ cnt c l
  | [] => by rw [cnt_nil]; omega
  | x :: l => by rw [cnt_cons]; have := cnt_pos c l; split <;> omega
theorem cnt_flat (c d : Nat) (z : List Nat) (hcd : c ≠ d) : ∀ l : List Nat, cnt d (l.flatMap fun x => if x = c then z else [x]) = cnt c l * cnt d z + cnt d l
  | [] => by simp [cnt_nil]
  | x :: l => by
    rw [List.flatMap_cons, cnt_append, cnt_flat c d z hcd l, cnt_cons c x l, cnt_cons d x l]
    by_cases h : x = c
    · rw [if_pos h, if_pos h, if_neg (fun e => hcd (h.symm.trans e))]
      rw [Int.add_mul]; omega
    · rw [if_neg h, if_neg h, cnt_cons, cnt_nil]; simp only [Int.zero_add]; omega
theorem cnt_flat_same (c : Nat) (z : List Nat) : ∀ l : List Nat, cnt c (l.flatMap fun x => if x = c then z else [x]) = cnt c l * cnt c z
  | [] => by simp [cnt_nil]
  | x :: l => by
    rw [List.flatMap_cons, cnt_append, cnt_flat_same c z l, cnt_cons c x l]
    by_cases h : x = c
    · rw [if_pos h, if_pos h, Int.add_mul]; omega
    · rw [if_neg h, if_neg h, cnt_cons, if_neg h, cnt_nil]; simp only [Int.zero_add]
theorem cnt_J : ∀ {ws : List Str}, ws ≠ [] → (∀ w ∈ ws, nsp w = true) → cnt 32 (TL.tl (J ws)) = (ws.length : Int) - 1
  | [], h, _ => absurd rfl h
  | [w], _, h => by
    rw [tl_J]
    show cnt 32 (TL.tl w) = _
    rw [cnt_not (nsp_ok (h w List.mem_cons_self))]
    rfl
  | w :: w' :: r, _, h => by
    rw [← J_cons w (by simp), TL.tl_append, TL.tl_append, cnt_append, cnt_append, cnt_J (by simp) (fun x hx => h x (List.mem_cons_of_mem _ hx)), cnt_not (nsp_ok (h w List.mem_cons_self))]
    have : cnt 32 (TL.tl " ") = 1 := rfl
    rw [this]
    simp only [List.length_cons]; omega
theorem split_cnt (x : Str) : ((Txt.split x " ").length : Int) = 1 + cnt 32 (TL.tl x) := split_len x 32
section
variable {ws : List Str} (hn : ws ≠ []) (h : ∀ w ∈ ws, nsp w = true)
include hn h
theorem len_dbl : ((Txt.split (Txt.replace (J ws) " " "  ") " ").length : Int) = 2 * ws.length - 1 := by
  have q : TL.tl (Txt.replace (J ws) " " "  ") = _ := tl_repl (J ws) 32 "  "
  rw [split_cnt, q, cnt_flat_same, cnt_J hn h]
  have : cnt 32 (TL.tl "  ") = 2 := rfl
  rw [this]; omega
theorem len_tab : ((Txt.split (Txt.replace (J ws) " " "\t") " ").length : Int) = 1 := by
  have q : TL.tl (Txt.replace (J ws) " " "\t") = _ := tl_repl (J ws) 32 "\t"
  rw [split_cnt, q, cnt_flat_same, cnt_J hn h]
  have : cnt 32 (TL.tl "\t") = 0 := rfl
  rw [this]; omega
theorem len_dot : ((Txt.split (Txt.replace (J ws) "." " ") " ").length : Int) = cnt 46 (TL.tl (J ws)) + ws.length := by
  have q : TL.tl (Txt.replace (J ws) "." " ") = _ := tl_repl (J ws) 46 " "
  rw [split_cnt, q, cnt_flat 46 32 _ (by decide), cnt_J hn h]
  have : cnt 32 (TL.tl " ") = 1 := rfl
  rw [this]; omega
end
/-- without the sign nothing turns -/
theorem flat_id {c : Nat} {z : List Nat} : ∀ {l : List Nat}, c ∉ l → (l.flatMap fun x => if x = c then z else [x]) = l
  | [], _ => rfl
  | x :: l, h => by
    rw [List.flatMap_cons, if_neg (fun e => h (by rw [e]; exact List.mem_cons_self)), flat_id fun m => h (List.mem_cons_of_mem _ m)]
    rfl
theorem cnt_zero {c : Nat} : ∀ {l : List Nat}, cnt c l = 0 → c ∉ l
  | [], _ => List.not_mem_nil
  | x :: l, h => by
    rw [cnt_cons] at h
    have := cnt_pos c l
    intro m
    rcases List.mem_cons.mp m with e | m
    · rw [if_pos e.symm] at h; omega
    · exact cnt_zero (by split at h <;> omega) m
theorem repl_none {x : Str} (h : cnt 46 (TL.tl x) = 0) : Txt.replace x "." " " = x := by
  refine TL.ext_tl ?_
  have q : TL.tl (Txt.replace x "." " ") = _ := tl_repl x 46 " "
  rw [q, flat_id (cnt_zero h)]
theorem len_J_le {n : Nat} : ∀ {ws : List Str}, (∀ w ∈ ws, w.length ≤ n) → (J ws).length ≤ ws.length * (n + 1)
  | [], _ => by rw [show (J []).length = 0 from by decide +kernel]; exact Nat.zero_le _
  | [w], h => by
    have := h w List.mem_cons_self
    show w.length ≤ _
    simp; omega
  | w :: w' :: r, h => by
    have h1 := h w List.mem_cons_self
    have ih := len_J_le (n := n) (ws := w' :: r) fun x hx => h x (List.mem_cons_of_mem _ hx)
    rw [← J_cons w (by simp), TL.len_tl, TL.tl_append, TL.tl_append, List.length_append, List.length_append, ← TL.len_tl, ← TL.len_tl, ← TL.len_tl]
    have e : Str.length " " = 1 := rfl
    simp only [List.length_cons] at ih ⊢
    rw [e]
    rw [Nat.add_mul (r.length + 1) 1, Nat.one_mul]
    omega
end G

set_option Elab.async false
set_option linter.all false
set_option maxRecDepth 100000
set_option maxHeartbeats 4000000
/-! P82e: the plain law of k82: books. -/
namespace G
open PySem PySem.Spec PyProof.Rows L2
abbrev ORD : List Str := ["own=named=all", "own=named all", "own=all named", "own named=all", "own named all", "own all named", "named=all own", "named own=all", "named own all", "all own=named", "all own named", "named all own", "all named own"]
abbrev GIV : List Str := ["own", "both"]
abbrev ALS : List Str := ["use", "once", "first", "last"]
abbrev BOD : List Str := ["ahead", "behind", "never"]
abbrev SPR : List Str := ["member", "spread", "tie"]
/-- a book's seven values -/
structure Bk where
  o : Str
  g : Str
  a : Str
  b : Str
  s : Str
  n : Bool
  m : Bool
def Bk.vs (B : Bk) : List D := [.str B.o, .str B.g, .str B.a, .str B.b, .str B.s, .bl B.n, .bl B.m]
structure Bk.Ok (B : Bk) : Prop where
  o : B.o ∈ ORD
  g : B.g ∈ GIV
  a : B.a ∈ ALS
  b : B.b ∈ BOD
  s : B.s ∈ SPR
abbrev PKs : List Str := ["order", "given", "alls", "bodies", "spreads", "near", "marks"]
def PK : List Key := PKs.map .inr
abbrev bls : List D := [.bl true, .bl false]
/-- the values of a part -/
def prt (k : Str) : Option (List D) := if k = "order" then some (ORD.map .str) else if k = "given" then some (GIV.map .str) else if k = "alls" then some (ALS.map .str) else if k = "bodies" then some (BOD.map .str) else if k = "spreads" then some (SPR.map .str) else if k = "near" then some bls else if k = "marks" then some bls else none
theorem parts_look (k : Str) : (tb_PARTS.map fun q => (q.1, q.2.d)).lookup k = (prt k).map .tup := by
  unfold prt
  simp only [tb_PARTS, List.map, List.lookup_cons, List.lookup_nil, Dk.d]
  by_cases h1 : k = "order"
  · subst h1; rfl
  rw [if_neg h1, show (k == ("order" : Str)) = false by simpa using h1]
  by_cases h2 : k = "given"
  · subst h2; rfl
  rw [if_neg h2, show (k == ("given" : Str)) = false by simpa using h2]
  by_cases h3 : k = "alls"
  · subst h3; rfl
  rw [if_neg h3, show (k == ("alls" : Str)) = false by simpa using h3]
  by_cases h4 : k = "bodies"
  · subst h4; rfl
  rw [if_neg h4, show (k == ("bodies" : Str)) = false by simpa using h4]
  by_cases h5 : k = "spreads"
  · subst h5; rfl
  rw [if_neg h5, show (k == ("spreads" : Str)) = false by simpa using h5]
  by_cases h6 : k = "near"
  · subst h6; rfl
  rw [if_neg h6, show (k == ("near" : Str)) = false by simpa using h6]
  by_cases h7 : k = "marks"
  · subst h7; rfl
  rw [if_neg h7, show (k == ("marks" : Str)) = false by simpa using h7]
  rfl
theorem inD_str (x : Str) : ∀ l : List Str, inD (.str x) (l.map .str) = decide (x ∈ l)
  | [] => rfl
  | y :: l => by
    have ih := inD_str x l
    unfold inD inV at ih ⊢
    rw [List.map_cons, List.map_cons, List.any_cons, ih]
    show ((y == x) || _) = _
    by_cases h : x = y
    · subst h; simp
    · have e : (y == x) = false := by simpa using fun q => h q.symm
      rw [e]; simp [h]
theorem fl_strs (l : List Str) : (l.map D.str).all D.fl = true := by
  rw [List.all_eq_true]
  intro d hd
  obtain ⟨x, _, rfl⟩ := List.mem_map.mp hd
  rfl
/-- a value of a part may be a text or a bool -/
inductive Sb : D → Prop where
  | str (x : Str) : Sb (.str x)
  | bl (b : Bool) : Sb (.bl b)
theorem in_ok {k : Str} {v : D} {xs h : List D} (sb : Sb v) (hk : prt k = some xs) (hf : xs.all D.fl = true) {env : List Sl} {i j : Nat} (ei : env[i]? = some (.v (.str k))) (ej : env[j]? = some (.v v)) :
    c2 (oIn false) (cVar j) (cIxK (tb_PARTS.map fun q => (q.1, q.2.d)) (cVar i)) env h = .ok (.bl (inD v xs)) h := by
  have e1 : cIxK (tb_PARTS.map fun q => (q.1, q.2.d)) (cVar i) env h = .ok (.tup xs) h := by
    unfold cIxK cVar
    rw [ei]
    simp only [R.bind_ok]
    rw [parts_look, hk]
    rfl
  have e2 : cVar j env h = .ok v h := by unfold cVar; rw [ej]
  unfold c2
  rw [e2, R.bind_ok, e1, R.bind_ok]
  cases sb with
  | str x => simp [oIn, dicOf, seqOf, lstOf, tupOf, D.fl, hf]
  | bl b => simp [oIn, dicOf, seqOf, lstOf, tupOf, D.fl, hf]
theorem is_value_ok {k : Str} {v : D} {xs h : List D} (sb : Sb v) (hk : prt k = some xs) (hf : xs.all D.fl = true) : F_is_value [.str k, v] h = .ok (.bl (inD v xs)) h := by
  have q := in_ok (h := h) (env := [.v (.str k), .v v]) (i := 0) (j := 1) sb hk hf rfl rfl
  show (m_is_value [.v (.str k), .v v] h).toR = _
  have t : cIsiO (isiT io1_t io1_o) (cVar 1) [.v (.str k), .v v] h = .ok (.bl true) h := by
    cases sb <;> rfl
  unfold m_is_value sRet cAndV
  rw [t, R.bind_ok]
  dsimp only
  rw [q]
  rfl
theorem is_part_ok {k : Str} {xs h : List D} (hk : prt k = some xs) : F_is_book_part [.str k] h = .ok (.bl true) h := by
  show (m_is_book_part [.v (.str k)] h).toR = _
  have e : cInK (tb_PARTS.map fun q => (q.1, q.2.d)) false (cVar 0) [.v (.str k)] h = .ok (.bl true) h := by
    unfold cInK cVar
    simp only [List.getElem?_cons_zero, R.bind_ok]
    rw [parts_look, hk]
    rfl
  have t : cIsi ty_str (cVar 0) [.v (.str k)] h = .ok (.bl true) h := rfl
  unfold m_is_book_part sRet cAndV
  rw [t, R.bind_ok]
  dsimp only
  rw [e]
  rfl
/-! ### loops -/
theorem forGo_nx {T : Asg} {m : MS} {d : D} {items : List D} {env env1 env' : List Sl} {h h' : List D} (e1 : T env d = some env1) (e2 : m env1 h = .nx env' h') : forGo T m (d :: items) env h = forGo T m items env' h' := by
  conv => lhs; unfold forGo
  rw [e1]; dsimp only; rw [e2]
def itm (p : Key × D) : D := .tup [keyD p.1, p.2]
theorem keyOf_keyD (k : Key) : keyOf (keyD k) = some k := by cases k <;> rfl
theorem kput_new {ks : List Key} {ds : List D} {k : Key} {d : D} (h : k ∉ ks) : kput ks ds k d = (ks ++ [k], ds ++ [d]) := by
  unfold kput
  rw [if_neg]
  intro q
  obtain ⟨x, hx, e⟩ := List.any_eq_true.mp q
  exact h (by rw [← of_decide_eq_true e]; exact hx)
theorem dcGo_pairs {n : Nat} {T : Asg} {tk tv : ME} {env : List Sl} {H : List D} (hn : n < H.length) : ∀ (ps : List (Key × D)) (ks : List Key) (ds : List D), (ks ++ ps.map (·.1)).Nodup → ks.length + ps.length ≤ 1000 →
    (∀ p ∈ ps, ∃ env1, T env (itm p) = some env1 ∧ ∀ h, tk env1 h = .ok (keyD p.1) h ∧ tv env1 h = .ok p.2 h) → dcGo n T mYes tk tv env (ps.map itm) (H.set n (.dic ks ds)) = .ok () (H.set n (.dic (ks ++ ps.map (·.1)) (ds ++ ps.map (·.2))))
  | [], ks, ds, _, _, _ => by simp [dcGo]
  | p :: ps, ks, ds, nd, hl, hs => by
    obtain ⟨env1, e1, e2⟩ := hs p List.mem_cons_self
    have hk : p.1 ∉ ks := fun m => by
      have := (List.nodup_append.mp nd).2.2 p.1 m p.1 (by simp)
      exact this rfl
    have ih := dcGo_pairs hn ps (ks ++ [p.1]) (ds ++ [p.2]) (by simpa using nd) (by simp at hl ⊢; omega) fun q hq => hs q (List.mem_cons_of_mem _ hq)
    have hz : sizeLine = 16777216 := by decide
    have lt : ks.length < sizeLine := by simp at hl; omega
    rw [List.map_cons]
    unfold dcGo
    rw [e1]
    dsimp only
    have eg : (H.set n (.dic ks ds))[n]? = some (.dic ks ds) := List.getElem?_set_self hn
    simp only [mYes, R.noexc, R.bind_ok, (e2 _).1, (e2 _).2, keyOf_keyD, eg, decide_eq_true lt, cond_true, kput_new hk, List.set_set]
    rw [ih]
    simp
/-! ### a book is made -/
def rowsD (o : Str) : D := .lst ((Txt.split o " ").map fun w => .lst ((Txt.split w "=").map .str))
def bookD (n : Nat) (B : Bk) : List D := [.obj "Book" ["parts", "rows"] [.loc (n + 1), rowsD B.o], .dic PK B.vs]
theorem Bk.Ok.all {B : Bk} (k : B.Ok) {h : List D} : ∀ p ∈ PKs.zip B.vs, F_is_value [.str p.1, p.2] h = .ok (.bl true) h := by
  intro p hp
  have bl_in : ∀ b : Bool, inD (.bl b) bls = true := by intro b; cases b <;> rfl
  simp only [PKs, Bk.vs, List.zip_cons_cons, List.mem_cons, List.zip_nil_left, List.not_mem_nil, or_false] at hp
  rcases hp with rfl | rfl | rfl | rfl | rfl | rfl | rfl
  · rw [is_value_ok (.str _) rfl (fl_strs ORD), inD_str, decide_eq_true k.o]
  · rw [is_value_ok (.str _) rfl (fl_strs GIV), inD_str, decide_eq_true k.g]
  · rw [is_value_ok (.str _) rfl (fl_strs ALS), inD_str, decide_eq_true k.a]
  · rw [is_value_ok (.str _) rfl (fl_strs BOD), inD_str, decide_eq_true k.b]
  · rw [is_value_ok (.str _) rfl (fl_strs SPR), inD_str, decide_eq_true k.s]
  · rw [is_value_ok (.bl _) rfl (by rfl), bl_in]
  · rw [is_value_ok (.bl _) rfl (by rfl), bl_in]
/-- the environment of Book.__init__ -/
abbrev BE (n : Nat) (B : Bk) (x y z r : Sl) : List Sl := [.v (.loc n), .v (.str B.o), .v (.str B.g), .v (.str B.a), .v (.str B.b), .v (.str B.s), .v (.bl B.n), .v (.bl B.m), x, y, z, r]
abbrev PBody : MS := sIf (cNot (cB (cCall F_is_value (aCons (cVar 9) (aCons (cVar 10) (aNil)))))) (sRaise "BadPart" "part" (cVar 9)) sNil
abbrev T9 : Asg := gT 2 (gsC (gN 9) (gsC (gN 10) gsN))
theorem for_parts {n : Nat} {B : Bk} {h : List D} {x : Sl} : ∀ (ps : List (Str × D)), (∀ p ∈ ps, F_is_value [.str p.1, p.2] h = .ok (.bl true) h) → ∀ y z, ∃ y' z', forGo T9 PBody (ps.map fun p => .tup [.str p.1, p.2]) (BE n B x y z .u) h = .nx (BE n B x y' z' .u) h ∧ ((y' = y ∧ z' = z) ∨ ∃ a b, y' = .v a ∧ z' = .v b)
  | [], _, y, z => ⟨y, z, rfl, .inl ⟨rfl, rfl⟩⟩
  | p :: ps, hs, y, z => by
    have h1 := hs p List.mem_cons_self
    obtain ⟨y', z', q, r⟩ := for_parts (n := n) (B := B) (x := x) ps (fun q hq => hs q (List.mem_cons_of_mem _ hq)) (.v (.str p.1)) (.v p.2)
    refine ⟨y', z', ?_, .inr ?_⟩
    · rw [List.map_cons, forGo_nx (env1 := BE n B x (.v (.str p.1)) (.v p.2) .u) (env' := BE n B x (.v (.str p.1)) (.v p.2) .u) (h' := h) rfl ?_]
      · exact q
      · simp [sIf, cNot, cB, cCall, aCons, aNil, cVar, h1, sNil]
    · rcases r with ⟨rfl, rfl⟩ | r
      · exact ⟨_, _, rfl, rfl⟩
      · exact r
theorem zipK_eq {m : ME} {env : List Sl} {h : List D} {xs : List D} (e : m env h = .ok (.lst xs) h) : iZipK (tb_PARTS.map (·.1)) m env h = .ok ((PKs.zip xs).map fun p => .tup [.str p.1, p.2]) h := by
  unfold iZipK
  rw [e]
  rfl
theorem split_short {x y w : Str} (h : w ∈ Txt.split x y) : w.length ≤ x.length := part_short h
theorem rows_ok {env : List Sl} {h : List D} {o : Str} (e1 : env[1]? = some (.v (.str o))) (nx : noX env = true) (e11 : env.length = 12) (ho : o.length ≤ 1000) :
    cLc (iSeq (cSplit (cVar 1) (cC (.str " ")))) (gN 11) (mYes) (cSplit (cVar 11) (cC (.str "="))) [11] env h = .ok (rowsD o) h := by
  have hz : sizeLine = 16777216 := by decide
  have l1 : Str.length " " = 1 := rfl
  have l2 : Str.length "=" = 1 := rfl
  have sp : iSeq (cSplit (cVar 1) (cC (.str " "))) env h = .ok ((Txt.split o " ").map .str) h := by
    unfold iSeq cSplit cVar cC
    rw [e1]
    simp only [R.bind_ok]
    rw [l1, decide_eq_true (show 0 < 1 by omega), decide_eq_true (show o.length + 2 ≤ sizeLine by omega)]
    rfl
  have hl := split_le o " "
  have q := lcGo_map (T := gN 11) (te := cSplit (cVar 11) (cC (.str "="))) (env := wipeE env [11]) (h := h) (f := fun d => match d with
    | .str w => .lst ((Txt.split w "=").map .str)
    | d => d) ((Txt.split o " ").map .str) (by rw [List.length_map]; omega) (fun d hd => by
      obtain ⟨w, hw, rfl⟩ := List.mem_map.mp hd
      have hs := split_short hw
      refine ⟨_, rfl, ?_⟩
      unfold cSplit cVar cC
      have e : ((wipeE env [11]).set 11 (.v (.str w)))[11]? = some (.v (.str w)) := List.getElem?_set_self (by simp [wipeE]; omega)
      rw [e]
      simp only [R.bind_ok]
      rw [l2, decide_eq_true (show 0 < 1 by omega), decide_eq_true (show w.length + 2 ≤ sizeLine by omega)]
      rfl)
  unfold cLc aLc
  rw [sp, R.bind_ok, nx, cond_true, q]
  simp only [R.bind_ok, rowsD, List.map_map]
  rfl
theorem ord_short : ∀ o ∈ ORD, o.length ≤ 30 := by decide +kernel
theorem init_ok {B : Bk} (k : B.Ok) (h : List D) : F_Book___init__ (.loc h.length :: B.vs) (h ++ [.obj "Book" [] []]) = .ok .non (h ++ bookD h.length B) := by
  have hz : sizeLine = 16777216 := by decide
  have z7 : (7 : Nat) ≤ sizeLine := by omega
  generalize hh : h ++ [D.obj "Book" [] []] = h1
  have hl1 : h1.length = h.length + 1 := by rw [← hh]; simp
  have g1 : h1[h.length]? = some (.obj "Book" [] []) := by rw [← hh]; simp
  show (m_Book___init__ (BE h.length B .u .u .u .u) h1).toR = _
  have q0 : sSet 8 (cLst (aCons (cVar 1) (aCons (cVar 2) (aCons (cVar 3) (aCons (cVar 4) (aCons (cVar 5) (aCons (cVar 6) (aCons (cVar 7) (aNil))))))))) (BE h.length B .u .u .u .u) h1 = .nx (BE h.length B (.v (.lst B.vs)) .u .u .u) h1 := by
    simp [sSet, cLst, aCons, aNil, cVar, z7, Bk.vs]
  obtain ⟨y, z, q1, yz⟩ := for_parts (n := h.length) (B := B) (h := h1) (x := .v (.lst B.vs)) (PKs.zip B.vs) (k.all) .u .u
  have nx : noX (BE h.length B (.v (.lst B.vs)) y z .u) = true := by
    rcases yz with ⟨rfl, rfl⟩ | ⟨a, b, rfl, rfl⟩ <;> rfl
  have q1' : sFor (iZipK (tb_PARTS.map (·.1)) (cVar 8)) T9 PBody (BE h.length B (.v (.lst B.vs)) .u .u .u) h1 = .nx (BE h.length B (.v (.lst B.vs)) y z .u) h1 := by
    unfold sFor
    rw [zipK_eq (xs := B.vs) rfl, R.thenS_ok]
    exact q1
  have dcq : cDc (iZipK (tb_PARTS.map (·.1)) (cVar 8)) T9 mYes (cVar 9) (cVar 10) [9, 10] (BE h.length B (.v (.lst B.vs)) y z .u) h1 = .ok (.loc (h.length + 1)) (h1 ++ [.dic PK B.vs]) := by
    unfold cDc
    rw [zipK_eq (xs := B.vs) rfl, R.bind_ok, nx, cond_true]
    have e0 : (PKs.zip B.vs).map (fun p => D.tup [.str p.1, p.2]) = (PK.zip B.vs).map itm := rfl
    have e1 : h1 ++ [D.dic [] []] = (h1 ++ [D.dic [] []]).set h1.length (.dic [] []) := by simp
    rw [e0, e1]
    have := dcGo_pairs (n := h1.length) (T := T9) (tk := cVar 9) (tv := cVar 10) (env := wipeE (BE h.length B (.v (.lst B.vs)) y z .u) [9, 10]) (H := h1 ++ [D.dic [] []]) (by simp) (PK.zip B.vs) [] [] (by simp only [List.nil_append, Bk.vs, PK, PKs, List.map, List.zip_cons_cons, List.zip_nil_left]; decide +kernel) (by simp [PK, PKs, Bk.vs]) (fun p hp => ⟨_, rfl, fun h => ⟨rfl, rfl⟩⟩)
    rw [this, R.bind_ok, hl1]
    have e2 : (PK.zip B.vs).map (·.1) = PK := rfl
    have e3 : (PK.zip B.vs).map (·.2) = B.vs := rfl
    rw [e2, e3, List.nil_append, List.nil_append, ← hl1]
    simp
  have q2 : sFldS "Book" "parts" (cVar 0) (cDc (iZipK (tb_PARTS.map (·.1)) (cVar 8)) T9 mYes (cVar 9) (cVar 10) [9, 10]) (BE h.length B (.v (.lst B.vs)) y z .u) h1 = .nx (BE h.length B (.v (.lst B.vs)) y z .u) (h ++ [.obj "Book" ["parts"] [.loc (h.length + 1)], .dic PK B.vs]) := by
    unfold sFldS
    rw [dcq, R.thenS_ok]
    have g2 : (h1 ++ [D.dic PK B.vs])[h.length]? = some (.obj "Book" [] []) := app_get g1
    simp only [cVar, List.getElem?_cons_zero, R.thenS_ok, g2]
    rw [← hh]
    simp [fput]
  have q3 : sFldS "Book" "rows" (cVar 0) (cLc (iSeq (cSplit (cVar 1) (cC (.str " ")))) (gN 11) (mYes) (cSplit (cVar 11) (cC (.str "="))) [11]) (BE h.length B (.v (.lst B.vs)) y z .u) (h ++ [.obj "Book" ["parts"] [.loc (h.length + 1)], .dic PK B.vs]) = .nx (BE h.length B (.v (.lst B.vs)) y z .u) (h ++ bookD h.length B) := by
    have ho := ord_short B.o k.o
    unfold sFldS
    rw [rows_ok (o := B.o) rfl nx rfl (by omega), R.thenS_ok]
    have g2 : (h ++ [D.obj "Book" ["parts"] [.loc (h.length + 1)], .dic PK B.vs])[h.length]? = some (.obj "Book" ["parts"] [.loc (h.length + 1)]) := by simp
    simp only [cVar, List.getElem?_cons_zero, R.thenS_ok, g2]
    have d1 : (decide True && decide ([("parts" : Str)].length < 1000)) = true := by decide
    rw [d1, cond_true]
    have f1 : fput ["parts"] [D.loc (h.length + 1)] "rows" (rowsD B.o) = ((["parts", "rows"] : List Str), [.loc (h.length + 1), rowsD B.o]) := rfl
    rw [f1]
    simp [bookD]
  unfold m_Book___init__
  rw [sSeq_nx q0, sSeq_nx q1', sSeq_nx q2, q3]
  rfl
theorem mk_ok {B : Bk} (k : B.Ok) (h : List D) : mkF "Book" F_Book___init__ B.vs h = .ok (.loc h.length) (h ++ bookD h.length B) := by
  unfold mkF
  rw [init_ok k h]
  rfl
end G

set_option Elab.async false
set_option linter.all false
set_option maxRecDepth 100000
set_option maxHeartbeats 4000000
/-! P82f: the plain law of k82: a book is read. -/
namespace G
open PySem PySem.Spec PyProof.Rows L2
def rp (a : Str) : Str := Txt.replace a "." " "
/-- the book of seven words -/
def toBk : List Str → Option Bk
  | [a, b, c, d, e, f, g] => bif (decide (f = "near") || decide (f = "far")) && ((decide (g = "marked") || decide (g = "free")) && (decide (rp a ∈ ORD) && (decide (b ∈ GIV) && (decide (c ∈ ALS) && (decide (d ∈ BOD) && decide (e ∈ SPR)))))) then some ⟨rp a, b, c, d, e, decide (f = "near"), decide (g = "marked")⟩ else none
  | _ => none
theorem toBk_ok {ws : List Str} {B : Bk} (h : toBk ws = some B) : B.Ok := by
  unfold toBk at h
  split at h
  · rename_i a b c d e f g
    cases hb : (decide (f = "near") || decide (f = "far")) && ((decide (g = "marked") || decide (g = "free")) && (decide (rp a ∈ ORD) && (decide (b ∈ GIV) && (decide (c ∈ ALS) && (decide (d ∈ BOD) && decide (e ∈ SPR)))))) with
    | false => rw [hb] at h; cases h
    | true =>
      rw [hb] at h
      simp only [cond_true, Option.some.injEq] at h
      subst h
      simp only [Bool.and_eq_true, decide_eq_true_eq] at hb
      exact ⟨hb.2.2.1, hb.2.2.2.1, hb.2.2.2.2.1, hb.2.2.2.2.2.1, hb.2.2.2.2.2.2⟩
  · cases h
theorem near_look (f : Str) : (tb_NEARS.map fun q => (q.1, q.2.d)).lookup f = if f = "near" then some (.bl true) else if f = "far" then some (.bl false) else none := by
  simp only [tb_NEARS, List.map, List.lookup_cons, List.lookup_nil, Dk.d, Dc.d]
  by_cases h1 : f = "near"
  · subst h1; rfl
  rw [if_neg h1, show (f == ("near" : Str)) = false by simpa using h1]
  by_cases h2 : f = "far"
  · subst h2; rfl
  rw [if_neg h2, show (f == ("far" : Str)) = false by simpa using h2]
theorem mark_look (f : Str) : (tb_MARKS.map fun q => (q.1, q.2.d)).lookup f = if f = "marked" then some (.bl true) else if f = "free" then some (.bl false) else none := by
  simp only [tb_MARKS, List.map, List.lookup_cons, List.lookup_nil, Dk.d, Dc.d]
  by_cases h1 : f = "marked"
  · subst h1; rfl
  rw [if_neg h1, show (f == ("marked" : Str)) = false by simpa using h1]
  by_cases h2 : f = "free"
  · subst h2; rfl
  rw [if_neg h2, show (f == ("free" : Str)) = false by simpa using h2]
section
variable {s : Str} {h : List D} {ws : List Str}
abbrev FE (s : Str) (w v p a b : Sl) : List Sl := [.v (.str s), w, v, p, a, b]
abbrev NrM : List (Str × D) := tb_NEARS.map fun q => (q.1, q.2.d)
abbrev MkM : List (Str × D) := tb_MARKS.map fun q => (q.1, q.2.d)
abbrev PtM : List (Str × D) := tb_PARTS.map fun q => (q.1, q.2.d)
def f0 : MS := sSet 1 (cSplitN (cVar 0) (cC (.str " ")))
def f1t : MT := cOr (cB (c2 (oEq true) (cCall (f1 lenD) (aCons (cVar 1) (aNil))) (cC (.int 7)))) (cOr (cB (cInK NrM true (c2 oIx (cVar 1) (cC (.int 5))))) (cB (cInK MkM true (c2 oIx (cVar 1) (cC (.int 6))))))
def f1' : MS := sIf f1t (sRet (cC .non)) (sNil)
def f2' : MS := sSub (cVar 1) (cC (.int 0)) (cRepl "." " " (c2 oIx (cVar 1) (cC (.int 0))))
def f3 : MS := sSet 2 (c2 oPlus (cSl (cVar 1) (oNone) (oSome (cC (.int 5)))) (cLst (aCons (cIxK NrM (c2 oIx (cVar 1) (cC (.int 5)))) (aCons (cIxK MkM (c2 oIx (cVar 1) (cC (.int 6)))) (aNil)))))
def T45 : Asg := gT 2 (gsC (gN 4) (gsC (gN 5) (gsN)))
def f4c : ME := cLc (iZipK (tb_PARTS.map (·.1)) (cVar 2)) T45 (mYes) (c2 (oIn false) (cVar 5) (cIxK PtM (cVar 4))) [4, 5]
def f4 : MS := sIf (cNot (cB (cCall (f1 allD) (aCons f4c (aNil))))) (sRet (cC .non)) (sNil)
def f5 : MS := sSet 3 (cDc (iZipK (tb_PARTS.map (·.1)) (cVar 2)) T45 (mYes) (cVar 4) (cVar 5) [4, 5])
def f6 : MS := sRet (cCallS (kws_Book___init__.map (·.1)) (mkF "Book" F_Book___init__) aNil (cVar 3))
theorem bf_eq : m_book_from = sSeq f0 (sSeq f1' (sSeq f2' (sSeq f3 (sSeq f4 (sSeq f5 f6))))) := rfl
theorem f0_ok (hs : s.length ≤ 1000) : f0 (FE s .u .u .u .u .u) h = .nx (FE s (.v (.loc h.length)) .u .u .u .u) (h ++ [.lst ((Txt.split s " ").map .str)]) := by
  have hz : sizeLine = 16777216 := by decide
  have l1 : Str.length " " = 1 := rfl
  unfold f0 sSet cSplitN cVar cC
  simp only [List.getElem?_cons_zero, R.bind_ok]
  rw [l1, decide_eq_true (show 0 < 1 by omega), decide_eq_true (show s.length + 2 ≤ sizeLine by omega)]
  rfl
theorem ix_at {n i : Nat} {xs : List D} {d : D} {env : List Sl} (hn : h[n]? = some (.lst xs)) (hi : xs[i]? = some d) (he : env[1]? = some (.v (.loc n))) : c2 oIx (cVar 1) (cC (.int i)) env h = .ok d h := by
  have hl := (List.getElem?_eq_some_iff.mp hi).1
  have ha : atI xs (i : Int) = some d := by
    unfold atI ixN
    rw [if_pos (by omega), if_pos (by omega)]
    exact hi
  unfold c2 cVar cC
  rw [he]
  simp [oIx, dicOf, seqOf, lstOf, tupOf, hn, ha]
theorem len_at {n : Nat} {xs : List D} {env : List Sl} (hn : h[n]? = some (.lst xs)) (he : env[1]? = some (.v (.loc n))) : cCall (f1 lenD) (aCons (cVar 1) (aNil)) env h = .ok (.int xs.length) h := by
  have e : cVar 1 env h = .ok (.loc n) h := by unfold cVar; rw [he]
  rw [cCall1 e]
  simp [lenD, dicOf, seqOf, lstOf, tupOf, hn]
/-- the first look -/
theorem f1_no {n : Nat} (hn : h[n]? = some (.lst (ws.map .str))) (hl : ws.length ≠ 7) : f1t (FE s (.v (.loc n)) .u .u .u .u) h = .ok true h := by
  have hl' : ¬ ((ws.length : Int) = 7) := by omega
  unfold f1t cOr cB c2
  rw [len_at hn rfl]
  simp [cC, oEq, hl']
theorem f1_7 {n : Nat} {a b c d e f g : Str} (hn : h[n]? = some (.lst [.str a, .str b, .str c, .str d, .str e, .str f, .str g])) : f1t (FE s (.v (.loc n)) .u .u .u .u) h = .ok (!((decide (f = "near") || decide (f = "far")) && (decide (g = "marked") || decide (g = "free")))) h := by
  have i5 := ix_at (env := FE s (.v (.loc n)) .u .u .u .u) (i := 5) hn rfl rfl
  have i6 := ix_at (env := FE s (.v (.loc n)) .u .u .u .u) (i := 6) hn rfl rfl
  have ln := len_at (env := FE s (.v (.loc n)) .u .u .u .u) hn rfl
  have e5 : cInK NrM true (c2 oIx (cVar 1) (cC (.int 5))) (FE s (.v (.loc n)) .u .u .u .u) h = .ok (.bl (!(decide (f = "near") || decide (f = "far")))) h := by
    unfold cInK
    rw [show ((5 : Int)) = ((5 : Nat) : Int) from rfl, i5, R.bind_ok]
    dsimp only
    rw [near_look]
    by_cases h1 : f = "near"
    · simp [h1]
    · by_cases h2 : f = "far"
      · subst h2; rfl
      · simp [h1, h2]
  have e6 : cInK MkM true (c2 oIx (cVar 1) (cC (.int 6))) (FE s (.v (.loc n)) .u .u .u .u) h = .ok (.bl (!(decide (g = "marked") || decide (g = "free")))) h := by
    unfold cInK
    rw [show ((6 : Int)) = ((6 : Nat) : Int) from rfl, i6, R.bind_ok]
    dsimp only
    rw [mark_look]
    by_cases h1 : g = "marked"
    · simp [h1]
    · by_cases h2 : g = "free"
      · subst h2; rfl
      · simp [h1, h2]
  have e0 : cB (c2 (oEq true) (cCall (f1 lenD) (aCons (cVar 1) (aNil))) (cC (.int 7))) (FE s (.v (.loc n)) .u .u .u .u) h = .ok false h := by
    unfold cB c2
    rw [ln]
    rfl
  unfold f1t cOr
  rw [e0, R.bind_ok]
  dsimp only
  unfold cB
  rw [e5]
  cases h5 : (decide (f = "near") || decide (f = "far")) with
  | false => rfl
  | true =>
    simp only [R.bind_ok, Bool.not_true]
    rw [e6]
    cases h6 : (decide (g = "marked") || decide (g = "free")) <;> rfl
theorem f2_ok {n : Nat} {a b c d e f g : Str} (hn : h[n]? = some (.lst [.str a, .str b, .str c, .str d, .str e, .str f, .str g])) (ha : a.length ≤ 1000) :
    f2' (FE s (.v (.loc n)) .u .u .u .u) h = .nx (FE s (.v (.loc n)) .u .u .u .u) (h.set n (.lst [.str (rp a), .str b, .str c, .str d, .str e, .str f, .str g])) := by
  have i0 := ix_at (env := FE s (.v (.loc n)) .u .u .u .u) (i := 0) hn rfl rfl
  have l1 : Str.length " " = 1 := rfl
  have er : cRepl "." " " (c2 oIx (cVar 1) (cC (.int 0))) (FE s (.v (.loc n)) .u .u .u .u) h = .ok (.str (rp a)) h := by
    unfold cRepl
    rw [show ((0 : Int)) = ((0 : Nat) : Int) from rfl, i0, R.bind_ok]
    dsimp only
    rw [l1, decide_eq_true (show a.length + (a.length + 1) * 1 ≤ 16777216 by omega)]
    rfl
  unfold f2' sSub
  rw [er, R.thenS_ok]
  simp only [cVar, cC, List.getElem?_cons_zero, List.getElem?_cons_succ, R.thenS_ok, hn]
  rfl
theorem f3_ok {n : Nat} {a b c d e f g : Str} (hn : h[n]? = some (.lst [.str a, .str b, .str c, .str d, .str e, .str f, .str g])) (h5 : (decide (f = "near") || decide (f = "far")) = true) (h6 : (decide (g = "marked") || decide (g = "free")) = true) :
    f3 (FE s (.v (.loc n)) .u .u .u .u) h = .nx (FE s (.v (.loc n)) (.v (.lst [.str a, .str b, .str c, .str d, .str e, .bl (decide (f = "near")), .bl (decide (g = "marked"))])) .u .u .u) h := by
  have i5 := ix_at (env := FE s (.v (.loc n)) .u .u .u .u) (i := 5) hn rfl rfl
  have i6 := ix_at (env := FE s (.v (.loc n)) .u .u .u .u) (i := 6) hn rfl rfl
  have hz : sizeLine = 16777216 := by decide
  have e5 : cIxK NrM (c2 oIx (cVar 1) (cC (.int 5))) (FE s (.v (.loc n)) .u .u .u .u) h = .ok (.bl (decide (f = "near"))) h := by
    unfold cIxK
    rw [show ((5 : Int)) = ((5 : Nat) : Int) from rfl, i5, R.bind_ok]
    dsimp only
    rw [near_look]
    by_cases h1 : f = "near"
    · simp [h1]
    · have h2 : f = "far" := by simpa [h1] using h5
      subst h2; rfl
  have e6 : cIxK MkM (c2 oIx (cVar 1) (cC (.int 6))) (FE s (.v (.loc n)) .u .u .u .u) h = .ok (.bl (decide (g = "marked"))) h := by
    unfold cIxK
    rw [show ((6 : Int)) = ((6 : Nat) : Int) from rfl, i6, R.bind_ok]
    dsimp only
    rw [mark_look]
    by_cases h1 : g = "marked"
    · simp [h1]
    · have h2 : g = "free" := by simpa [h1] using h6
      subst h2; rfl
  have sl : cSl (cVar 1) oNone (oSome (cC (.int 5))) (FE s (.v (.loc n)) .u .u .u .u) h = .ok (.lst [.str a, .str b, .str c, .str d, .str e]) h := by
    unfold cSl cVar oNone oSome cC
    simp only [List.getElem?_cons_zero, List.getElem?_cons_succ, R.bind_ok]
    unfold oSl lstOf
    simp only [hn]
    rfl
  have z2 : (2 : Nat) ≤ sizeLine := by omega
  have z7 : (7 : Nat) ≤ sizeLine := by omega
  unfold f3 sSet c2
  rw [sl, R.bind_ok]
  have el : cLst (aCons (cIxK NrM (c2 oIx (cVar 1) (cC (.int 5)))) (aCons (cIxK MkM (c2 oIx (cVar 1) (cC (.int 6)))) (aNil))) (FE s (.v (.loc n)) .u .u .u .u) h = .ok (.lst [.bl (decide (f = "near")), .bl (decide (g = "marked"))]) h := by
    unfold cLst aCons
    rw [e5, R.bind_ok, e6]
    simp [aNil, z2]
  have el' := el
  unfold c2 at el'
  rw [el', R.bind_ok]
  simp [oPlus, lstH, z7]
abbrev VS (a b c d e : Str) (n m : Bool) : List D := [.str a, .str b, .str c, .str d, .str e, .bl n, .bl m]
def inP (d : D) : D := match d with
  | .tup [.str k, v] => .bl (match prt k with
    | some xs => inD v xs
    | none => false)
  | d => d
theorem lc_item {k : Str} {v : D} {xs : List D} {env : List Sl} (sb : Sb v) (hk : prt k = some xs) (hf : xs.all D.fl = true) (hl : env.length = 6) :
    ∃ env1, T45 env (.tup [.str k, v]) = some env1 ∧ c2 (oIn false) (cVar 5) (cIxK PtM (cVar 4)) env1 h = .ok (inP (.tup [.str k, v])) h := by
  refine ⟨(env.set 4 (.v (.str k))).set 5 (.v v), rfl, ?_⟩
  rw [in_ok sb hk hf (by rw [List.getElem?_set_ne (by decide)]; exact List.getElem?_set_self (by omega)) (List.getElem?_set_self (by simp [hl]))]
  unfold inP
  dsimp only
  rw [hk]
theorem f4c_ok {n : Nat} {a b c d e : Str} {p q : Bool} : f4c (FE s (.v (.loc n)) (.v (.lst (VS a b c d e p q))) .u .u .u) h = .ok (.lst ((PKs.zip (VS a b c d e p q)).map fun p => inP (.tup [.str p.1, p.2]))) h := by
  unfold f4c cLc aLc
  rw [zipK_eq (xs := VS a b c d e p q) rfl, R.bind_ok]
  have nx : noX (FE s (.v (.loc n)) (.v (.lst (VS a b c d e p q))) .u .u .u) = true := rfl
  rw [nx, cond_true]
  have := lcGo_map (T := T45) (te := c2 (oIn false) (cVar 5) (cIxK PtM (cVar 4))) (env := wipeE (FE s (.v (.loc n)) (.v (.lst (VS a b c d e p q))) .u .u .u) [4, 5]) (h := h) (f := inP) ((PKs.zip (VS a b c d e p q)).map fun p => .tup [.str p.1, p.2]) (by simp [PKs]; decide) (fun x hx => by
    simp only [PKs, List.zip_cons_cons, List.map_cons, List.mem_cons, List.zip_nil_left, List.map_nil, List.not_mem_nil, or_false] at hx
    rcases hx with rfl | rfl | rfl | rfl | rfl | rfl | rfl
    · exact lc_item (.str _) rfl (fl_strs ORD) rfl
    · exact lc_item (.str _) rfl (fl_strs GIV) rfl
    · exact lc_item (.str _) rfl (fl_strs ALS) rfl
    · exact lc_item (.str _) rfl (fl_strs BOD) rfl
    · exact lc_item (.str _) rfl (fl_strs SPR) rfl
    · exact lc_item (.bl _) rfl (by rfl) rfl
    · exact lc_item (.bl _) rfl (by rfl) rfl)
  rw [this, R.bind_ok, List.map_map]
  rfl
def allP (a b c d e : Str) : Bool := decide (a ∈ ORD) && (decide (b ∈ GIV) && (decide (c ∈ ALS) && (decide (d ∈ BOD) && decide (e ∈ SPR))))
theorem f4_ok {n : Nat} {a b c d e : Str} {p q : Bool} : f4 (FE s (.v (.loc n)) (.v (.lst (VS a b c d e p q))) .u .u .u) h = if allP a b c d e then .nx (FE s (.v (.loc n)) (.v (.lst (VS a b c d e p q))) .u .u .u) h else .rt .non h := by
  have e1 : (PKs.zip (VS a b c d e p q)).map (fun p => inP (.tup [.str p.1, p.2])) = ([decide (a ∈ ORD), decide (b ∈ GIV), decide (c ∈ ALS), decide (d ∈ BOD), decide (e ∈ SPR), inD (.bl p) bls, inD (.bl q) bls]).map .bl := by
    rw [← inD_str a ORD, ← inD_str b GIV, ← inD_str c ALS, ← inD_str d BOD, ← inD_str e SPR]
    rfl
  have bl_in : ∀ b : Bool, inD (.bl b) bls = true := by intro b; cases b <;> rfl
  have al : cB (cCall (f1 allD) (aCons f4c aNil)) (FE s (.v (.loc n)) (.v (.lst (VS a b c d e p q))) .u .u .u) h = .ok (allP a b c d e) h := by
    unfold cB
    rw [cCall1 f4c_ok, e1]
    unfold allD lstOf
    dsimp only
    rw [blsOf_map, bl_in, bl_in]
    simp [allP]
  unfold f4 sIf cNot
  rw [al, R.bind_ok, R.thenS_ok]
  cases allP a b c d e <;> rfl
theorem f5_ok {n : Nat} {B : Bk} : f5 (FE s (.v (.loc n)) (.v (.lst B.vs)) .u .u .u) h = .nx (FE s (.v (.loc n)) (.v (.lst B.vs)) (.v (.loc h.length)) .u .u) (h ++ [.dic PK B.vs]) := by
  have dcq : cDc (iZipK (tb_PARTS.map (·.1)) (cVar 2)) T45 mYes (cVar 4) (cVar 5) [4, 5] (FE s (.v (.loc n)) (.v (.lst B.vs)) .u .u .u) h = .ok (.loc h.length) (h ++ [.dic PK B.vs]) := by
    unfold cDc
    have nx : noX (FE s (.v (.loc n)) (.v (.lst B.vs)) .u .u .u) = true := rfl
    rw [zipK_eq (xs := B.vs) rfl, R.bind_ok, nx, cond_true]
    have e0 : (PKs.zip B.vs).map (fun p => D.tup [.str p.1, p.2]) = (PK.zip B.vs).map itm := rfl
    have e1 : h ++ [D.dic [] []] = (h ++ [D.dic [] []]).set h.length (.dic [] []) := by simp
    rw [e0, e1]
    have := dcGo_pairs (n := h.length) (T := T45) (tk := cVar 4) (tv := cVar 5) (env := wipeE (FE s (.v (.loc n)) (.v (.lst B.vs)) .u .u .u) [4, 5]) (H := h ++ [D.dic [] []]) (by simp) (PK.zip B.vs) [] [] (by simp only [List.nil_append, Bk.vs, PK, PKs, List.map, List.zip_cons_cons, List.zip_nil_left]; decide +kernel) (by simp [PK, PKs, Bk.vs]) (fun p hp => ⟨_, rfl, fun h => ⟨rfl, rfl⟩⟩)
    rw [this, R.bind_ok]
    have e2 : (PK.zip B.vs).map (·.1) = PK := rfl
    have e3 : (PK.zip B.vs).map (·.2) = B.vs := rfl
    rw [e2, e3, List.nil_append, List.nil_append]
    simp
  unfold f5 sSet
  rw [dcq]
  rfl
theorem callS_ok {B : Bk} (k : B.Ok) {m : ME} {env : List Sl} {n : Nat} (e : m env h = .ok (.loc n) h) (hn : h[n]? = some (.dic PK B.vs)) : cCallS (kws_Book___init__.map (·.1)) (mkF "Book" F_Book___init__) aNil m env h = .ok (.loc h.length) (h ++ bookD h.length B) := by
  unfold cCallS
  have d1 : dicOf h (.loc n) = some (PK, B.vs) := by unfold dicOf; simp only [hn]
  have d2 : decide (PK = (kws_Book___init__.map (·.1)).map Sum.inr) = true := by decide +kernel
  show ((aNil env h).bind _) = _
  unfold aNil
  rw [R.bind_ok, e, R.bind_ok, d1]
  dsimp only
  rw [d2, cond_true, List.nil_append, mk_ok k]
theorem f6_ok {n m : Nat} {B : Bk} (k : B.Ok) (hm : h[m]? = some (.dic PK B.vs)) : f6 (FE s (.v (.loc n)) (.v (.lst B.vs)) (.v (.loc m)) .u .u) h = .rt (.loc h.length) (h ++ bookD h.length B) := by
  unfold f6 sRet
  rw [callS_ok k rfl hm]
  rfl
theorem bf_none (hs : s.length ≤ 1000) (hb : toBk (Txt.split s " ") = none) : ∃ t, F_book_from [.str s] h = .ok .non (h ++ t) := by
  show ∃ t, (m_book_from (FE s .u .u .u .u .u) h).toR = _
  rw [bf_eq, sSeq_nx (f0_ok hs)]
  have hn : (h ++ [D.lst ((Txt.split s " ").map .str)])[h.length]? = some (.lst ((Txt.split s " ").map .str)) := by simp
  have rt : ∀ r, f1t (FE s (.v (.loc h.length)) .u .u .u .u) (h ++ [.lst ((Txt.split s " ").map .str)]) = .ok true (h ++ [.lst ((Txt.split s " ").map .str)]) → ∃ t, ((sSeq f1' r) (FE s (.v (.loc h.length)) .u .u .u .u) (h ++ [.lst ((Txt.split s " ").map .str)])).toR = .ok .non (h ++ t) := fun r e => ⟨_, by
    rw [sSeq_rt (d := .non) (h' := h ++ [.lst ((Txt.split s " ").map .str)]) (by unfold f1' sIf; rw [e]; rfl)]
    rfl⟩
  by_cases hl : (Txt.split s " ").length = 7
  · generalize hw : Txt.split s " " = ws at hb hl hn rt ⊢
    match ws, hl with
    | [a, b, c, d, e, f, g], _ =>
      have hn' : (h ++ [D.lst ([a, b, c, d, e, f, g].map .str)])[h.length]? = some (.lst [.str a, .str b, .str c, .str d, .str e, .str f, .str g]) := hn
      have e1 := f1_7 (s := s) hn'
      cases h56 : ((decide (f = "near") || decide (f = "far")) && (decide (g = "marked") || decide (g = "free"))) with
      | false => rw [h56] at e1; exact rt _ e1
      | true =>
        rw [h56] at e1
        rw [Bool.and_eq_true] at h56
        have ha : a.length ≤ s.length := split_short (show a ∈ Txt.split s " " by rw [hw]; exact List.mem_cons_self)
        have e2 := f2_ok (s := s) hn' (by omega)
        rw [sSeq_nx (env' := FE s (.v (.loc h.length)) .u .u .u .u) (h' := h ++ [.lst ([a, b, c, d, e, f, g].map .str)]) (by unfold f1' sIf; rw [e1]; rfl), sSeq_nx e2]
        generalize hh : (h ++ [D.lst ([a, b, c, d, e, f, g].map .str)]).set h.length (.lst [.str (rp a), .str b, .str c, .str d, .str e, .str f, .str g]) = h2
        have hh' : h2 = h ++ [.lst [.str (rp a), .str b, .str c, .str d, .str e, .str f, .str g]] := by rw [← hh]; simp
        have hn2 : h2[h.length]? = some (.lst [.str (rp a), .str b, .str c, .str d, .str e, .str f, .str g]) := by rw [hh']; simp
        rw [sSeq_nx (f3_ok (s := s) hn2 h56.1 h56.2)]
        have nb : allP (rp a) b c d e = false := by
          unfold toBk at hb
          simp only [h56.1, h56.2, Bool.true_and] at hb
          unfold allP
          cases q : (decide (rp a ∈ ORD) && (decide (b ∈ GIV) && (decide (c ∈ ALS) && (decide (d ∈ BOD) && decide (e ∈ SPR))))) with
          | false => rfl
          | true => rw [q] at hb; cases hb
        rw [sSeq_rt (d := .non) (h' := h2) (by rw [f4_ok, nb]; rfl)]
        exact ⟨_, by rw [hh']; rfl⟩
  · exact rt _ (f1_no hn hl)
theorem bf_some {B : Bk} (hs : s.length ≤ 1000) (hb : toBk (Txt.split s " ") = some B) : ∃ t, F_book_from [.str s] h = .ok (.loc (h ++ t).length) (h ++ t ++ bookD (h ++ t).length B) := by
  have ok := toBk_ok hb
  show ∃ t, (m_book_from (FE s .u .u .u .u .u) h).toR = _
  rw [bf_eq, sSeq_nx (f0_ok hs)]
  have hn : (h ++ [D.lst ((Txt.split s " ").map .str)])[h.length]? = some (.lst ((Txt.split s " ").map .str)) := by simp
  generalize hw : Txt.split s " " = ws at hb hn ⊢
  match ws, hb with
  | [a, b, c, d, e, f, g], hb =>
    have hn' : (h ++ [D.lst ([a, b, c, d, e, f, g].map .str)])[h.length]? = some (.lst [.str a, .str b, .str c, .str d, .str e, .str f, .str g]) := hn
    have e1 := f1_7 (s := s) hn'
    unfold toBk at hb
    dsimp only at hb
    cases hq : (decide (f = "near") || decide (f = "far")) && ((decide (g = "marked") || decide (g = "free")) && (decide (rp a ∈ ORD) && (decide (b ∈ GIV) && (decide (c ∈ ALS) && (decide (d ∈ BOD) && decide (e ∈ SPR)))))) with
    | false => rw [hq] at hb; cases hb
    | true =>
      rw [hq] at hb
      simp only [cond_true, Option.some.injEq] at hb
      rw [Bool.and_eq_true, Bool.and_eq_true] at hq
      obtain ⟨h5, h6, hp⟩ := hq
      rw [h5, h6] at e1
      have ha : a.length ≤ s.length := split_short (show a ∈ Txt.split s " " by rw [hw]; exact List.mem_cons_self)
      have e2 := f2_ok (s := s) hn' (by omega)
      rw [sSeq_nx (env' := FE s (.v (.loc h.length)) .u .u .u .u) (h' := h ++ [.lst ([a, b, c, d, e, f, g].map .str)]) (by unfold f1' sIf; rw [e1]; rfl), sSeq_nx e2]
      generalize hh : (h ++ [D.lst ([a, b, c, d, e, f, g].map .str)]).set h.length (.lst [.str (rp a), .str b, .str c, .str d, .str e, .str f, .str g]) = h2
      have hh' : h2 = h ++ [.lst [.str (rp a), .str b, .str c, .str d, .str e, .str f, .str g]] := by rw [← hh]; simp
      have hn2 : h2[h.length]? = some (.lst [.str (rp a), .str b, .str c, .str d, .str e, .str f, .str g]) := by rw [hh']; simp
      rw [sSeq_nx (f3_ok (s := s) hn2 h5 h6)]
      have nb : allP (rp a) b c d e = true := hp
      have ev : VS (rp a) b c d e (decide (f = "near")) (decide (g = "marked")) = B.vs := by rw [← hb]; rfl
      rw [sSeq_nx (env' := FE s (.v (.loc h.length)) (.v (.lst B.vs)) .u .u .u) (h' := h2) (by rw [f4_ok, nb, ev]; rfl), sSeq_nx f5_ok, f6_ok ok (by simp)]
      exact ⟨[.lst [.str (rp a), .str b, .str c, .str d, .str e, .str f, .str g], .dic PK B.vs], by rw [hh']; simp [RS.toR]⟩
/-! ### read_book, and what it refuses -/
theorem rb_isi : cIsiO (isiT io2_t io2_o) (cVar 0) [.v (.str s), .u] h = .ok (.bl true) h := rfl
theorem rb_none (hs : s.length ≤ 1000) (hb : toBk (Txt.split s " ") = none) : ∃ t, F_read_book [.str s] h = .exc "BadText" ["index"] [.non] (h ++ t) := by
  obtain ⟨t, e⟩ := bf_none (h := h) hs hb
  refine ⟨t, ?_⟩
  show (m_read_book [.v (.str s), .u] h).toR = _
  unfold m_read_book
  rw [sSeq_nx (env' := [.v (.str s), .v .non]) (h' := h ++ t) (by
    unfold sSet cIf cB
    rw [rb_isi, R.bind_ok, R.bind_ok]
    simp [cCall, aCons, aNil, cVar, e])]
  have q : (sIf (cB (c2 (oIsN false) (cVar 1) (cC .non))) (sRaise "BadText" "index" (cC .non)) (sNil)) [.v (.str s), .v .non] (h ++ t) = .exc "BadText" ["index"] [.non] [.v (.str s), .v .non] (h ++ t) := rfl
  rw [sSeq_exc q]
  rfl
theorem rb_some {B : Bk} (hs : s.length ≤ 1000) (hb : toBk (Txt.split s " ") = some B) : ∃ t, F_read_book [.str s] h = .ok (.loc (h ++ t).length) (h ++ t ++ bookD (h ++ t).length B) := by
  obtain ⟨t, e⟩ := bf_some (h := h) hs hb
  refine ⟨t, ?_⟩
  show (m_read_book [.v (.str s), .u] h).toR = _
  unfold m_read_book
  rw [sSeq_nx (env' := [.v (.str s), .v (.loc (h ++ t).length)]) (h' := h ++ t ++ bookD (h ++ t).length B) (by
    unfold sSet cIf cB
    rw [rb_isi, R.bind_ok, R.bind_ok]
    simp only [cCall, aCons, aNil, cVar, List.getElem?_cons_zero, R.bind_ok, e]
    rfl)]
  rfl
/-- what is no text -/
theorem rb_no {d : D} (hd : cIsiO (isiT io2_t io2_o) (cVar 0) [.v d, .u] h = .ok (.bl false) h) : F_read_book [d] h = .exc "BadText" ["index"] [.non] h := by
  show (m_read_book [.v d, .u] h).toR = _
  unfold m_read_book
  rw [sSeq_nx (env' := [.v d, .v .non]) (h' := h) (by
    unfold sSet cIf cB
    rw [hd, R.bind_ok, R.bind_ok]
    rfl)]
  have q : (sIf (cB (c2 (oIsN false) (cVar 1) (cC .non))) (sRaise "BadText" "index" (cC .non)) (sNil)) [.v d, .v .non] h = .exc "BadText" ["index"] [.non] [.v d, .v .non] h := rfl
  rw [sSeq_exc q]
  rfl
theorem rf_book {d : D} {t : List D} (hd : F_read_book [d] h = .exc "BadText" ["index"] [.non] (h ++ t)) : F_law_refused [d, .bl true] h = .ok (.lst [.non]) (h ++ t) := by
  show (m_law_refused [.v d, .v (.bl true), .u] h).toR = _
  unfold m_law_refused
  have b : (sIf (cB (cVar 1)) (sExpr (cCall F_read_book (aCons (cVar 0) (aNil)))) (sExpr (cCall F_read_place (aCons (cVar 0) (aNil))))) [.v d, .v (.bl true), .u] h = .exc "BadText" ["index"] [.non] [.v d, .v (.bl true), .u] (h ++ t) := by
    unfold sIf cB
    simp only [cVar, List.getElem?_cons_succ, List.getElem?_cons_zero, R.bind_ok, R.thenS_ok]
    unfold sExpr cCall aCons aNil
    simp only [cVar, List.getElem?_cons_zero, R.bind_ok, hd]
    rfl
  have tr : ∀ cl, hand "BadText" ["index"] [.non] [.v d, .v (.bl true), .u] (h ++ t) cl = .rt (.lst [.non]) (h ++ t) → sTry (sIf (cB (cVar 1)) (sExpr (cCall F_read_book (aCons (cVar 0) (aNil)))) (sExpr (cCall F_read_place (aCons (cVar 0) (aNil))))) cl [.v d, .v (.bl true), .u] h = .rt (.lst [.non]) (h ++ t) := fun cl e => by
    unfold sTry
    rw [show noX [.v d, .v (.bl true), .u] = true from rfl, cond_true, b]
    exact e
  rw [sSeq_rt (tr _ rfl)]
  rfl
theorem rf_place {d : D} {t : List D} (hd : F_read_place [d] h = .exc "BadText" ["index"] [.non] (h ++ t)) : F_law_refused [d, .bl false] h = .ok (.lst [.non]) (h ++ t) := by
  show (m_law_refused [.v d, .v (.bl false), .u] h).toR = _
  unfold m_law_refused
  have b : (sIf (cB (cVar 1)) (sExpr (cCall F_read_book (aCons (cVar 0) (aNil)))) (sExpr (cCall F_read_place (aCons (cVar 0) (aNil))))) [.v d, .v (.bl false), .u] h = .exc "BadText" ["index"] [.non] [.v d, .v (.bl false), .u] (h ++ t) := by
    unfold sIf cB
    simp only [cVar, List.getElem?_cons_succ, List.getElem?_cons_zero, R.bind_ok, R.thenS_ok]
    unfold sExpr cCall aCons aNil
    simp only [cVar, List.getElem?_cons_zero, R.bind_ok, hd]
    rfl
  have tr : ∀ cl, hand "BadText" ["index"] [.non] [.v d, .v (.bl false), .u] (h ++ t) cl = .rt (.lst [.non]) (h ++ t) → sTry (sIf (cB (cVar 1)) (sExpr (cCall F_read_book (aCons (cVar 0) (aNil)))) (sExpr (cCall F_read_place (aCons (cVar 0) (aNil))))) cl [.v d, .v (.bl false), .u] h = .rt (.lst [.non]) (h ++ t) := fun cl e => by
    unfold sTry
    rw [show noX [.v d, .v (.bl false), .u] = true from rfl, cond_true, b]
    exact e
  rw [sSeq_rt (tr _ rfl)]
  rfl
end
end G

set_option Elab.async false
set_option linter.all false
set_option maxRecDepth 100000
set_option maxHeartbeats 4000000
/-! P82g: the plain law of k82: a book's text, books made by changes, books compared. -/
namespace G
open PySem PySem.Spec PyProof.Rows L2
def BookAt (h : List D) (n : Nat) (B : Bk) : Prop := ∃ m, h[n]? = some (.obj "Book" ["parts", "rows"] [.loc m, rowsD B.o]) ∧ h[m]? = some (.dic PK B.vs)
theorem BookAt.app {h t : List D} {n : Nat} {B : Bk} (b : BookAt h n B) : BookAt (h ++ t) n B := by
  obtain ⟨m, b1, b2⟩ := b
  exact ⟨m, app_get b1, app_get b2⟩
theorem bookAt_new {h : List D} {n : Nat} {B : Bk} (e : n = h.length) : BookAt (h ++ bookD n B) n B := by
  subst e
  refine ⟨h.length + 1, ?_, ?_⟩
  · rw [List.getElem?_append_right (Nat.le_refl _), Nat.sub_self]; rfl
  · rw [List.getElem?_append_right (by omega), show h.length + 1 - h.length = 1 by omega]; rfl
theorem BookAt.obj {h : List D} {n : Nat} {B : Bk} (b : BookAt h n B) : ∃ ds : List D, objOf h (.loc n) = some (("Book" : Str), (["parts", "rows"] : List Str), ds) := by
  obtain ⟨m, b1, b2⟩ := b
  exact ⟨[.loc m, rowsD B.o], by unfold objOf; simp only [b1]⟩
theorem BookAt.fld {h : List D} {n i : Nat} {B : Bk} {env : List Sl} (b : BookAt h n B) (e : env[i]? = some (.v (.loc n))) : ∃ m, cFld "Book" "parts" (cVar i) env h = .ok (.loc m) h ∧ h[m]? = some (.dic PK B.vs) := by
  obtain ⟨m, b1, b2⟩ := b
  refine ⟨m, ?_, b2⟩
  unfold cFld cVar
  rw [e]
  simp only [R.bind_ok]
  unfold objOf
  simp only [b1]
  rfl
theorem get_part {h : List D} {n : Nat} {B : Bk} (b : BookAt h n B) (k : Str) (d : D) (hk : kget PK B.vs (.inr k) = some d) : (runF (sRet (c2 oIx (cFld "Book" "parts" (cVar 0)) (cC (.str k)))) 1 1) [.loc n] h = .ok d h := by
  obtain ⟨m, e, hm⟩ := b.fld (i := 0) (env := [.v (.loc n)]) rfl
  show (sRet (c2 oIx (cFld "Book" "parts" (cVar 0)) (cC (.str k))) [.v (.loc n)] h).toR = _
  unfold sRet c2
  rw [e, R.bind_ok]
  have d1 : dicOf h (.loc m) = some (PK, B.vs) := by unfold dicOf; simp only [hm]
  simp only [cC, R.bind_ok]
  unfold oIx
  rw [d1]
  simp only [keyOf, hk]
  rfl
theorem prop_ok {h : List D} {n i : Nat} {B : Bk} {env : List Sl} (b : BookAt h n B) (e : env[i]? = some (.v (.loc n))) (k : Str) (d : D) (hk : kget PK B.vs (.inr k) = some d) :
    cProp "Book" (runF (sRet (c2 oIx (cFld "Book" "parts" (cVar 0)) (cC (.str k)))) 1 1) (cVar i) env h = .ok d h := by
  obtain ⟨ds, ho⟩ := BookAt.obj b
  have ev : cVar i env h = .ok (.loc n) h := by unfold cVar; rw [e]
  unfold cProp
  rw [ev, R.bind_ok, ho]
  dsimp only
  rw [get_part b k d hk]
  rfl
/-! ### the text -/
def dotO (o : Str) : Str := Txt.replace o " " "."
def wN (b : Bool) : Str := if b then "near" else "far"
def wM (b : Bool) : Str := if b then "marked" else "free"
def Bk.ws (B : Bk) : List Str := [dotO B.o, B.g, B.a, B.b, B.s, wN B.n, wM B.m]
theorem dot_short : ∀ o ∈ ORD, (dotO o).length ≤ 30 := by decide +kernel
theorem Bk.Ok.short {B : Bk} (k : B.Ok) : ∀ w ∈ B.ws, w.length ≤ 30 := by
  intro w hw
  have s1 : ∀ x ∈ GIV ++ ALS ++ BOD ++ SPR, x.length ≤ 30 := by decide +kernel
  have s2 : ∀ b : Bool, (wN b).length ≤ 30 ∧ (wM b).length ≤ 30 := by decide +kernel
  simp only [Bk.ws, List.mem_cons, List.not_mem_nil, or_false] at hw
  rcases hw with rfl | rfl | rfl | rfl | rfl | rfl | rfl
  · exact dot_short _ k.o
  · exact s1 _ (List.mem_append_left _ (List.mem_append_left _ (List.mem_append_left _ k.g)))
  · exact s1 _ (List.mem_append_left _ (List.mem_append_left _ (List.mem_append_right _ k.a)))
  · exact s1 _ (List.mem_append_left _ (List.mem_append_right _ k.b))
  · exact s1 _ (List.mem_append_right _ k.s)
  · exact (s2 _).1
  · exact (s2 _).2
def AllJ (env : List Sl) (h : List D) : List ME → List Str → Prop
  | [], [] => True
  | m :: ms, y :: ys => m env h = .ok (.str y) h ∧ AllJ env h ms ys
  | _, _ => False
theorem cJs_ok {env : List Sl} {h : List D} : ∀ (ms : List ME) (ys : List Str) (acc : Str), AllJ env h ms ys → acc.length + (ys.map (·.length)).sum ≤ sizeLine → cJs ms acc env h = .ok (ys.foldl (· ++ ·) acc) h
  | [], [], acc, _, _ => rfl
  | [], _ :: _, _, e, _ => e.elim
  | _ :: _, [], _, e, _ => e.elim
  | m :: ms, y :: ys, acc, e, hl => by
    simp only [List.map_cons, List.sum_cons] at hl
    have la : (acc ++ y).length = acc.length + y.length := by rw [TL.len_tl, TL.tl_append, List.length_append, ← TL.len_tl, ← TL.len_tl]
    have ih := cJs_ok ms ys (acc ++ y) e.2 (by rw [la]; omega)
    unfold cJs
    rw [e.1, R.bind_ok]
    dsimp only
    rw [decide_eq_true (show (acc ++ y).length ≤ sizeLine by rw [la]; omega), cond_true, ih]
    rfl
theorem fold_J (a b c d e f g : Str) : [a, " ", b, " ", c, " ", d, " ", e, " ", f, " ", g].foldl (· ++ ·) Str.empty = J [a, b, c, d, e, f, g] := by
  refine TL.ext_tl ?_
  rw [tl_J]
  have e0 : TL.tl Str.empty = [] := rfl
  have e1 : TL.tl " " = [32] := rfl
  simp only [List.foldl_cons, List.foldl_nil, TL.tl_append, e0, e1, List.map, TL.joinL, List.nil_append, List.append_assoc]
theorem cFmt_str {m : ME} {env : List Sl} {h : List D} {x : Str} (e : m env h = .ok (.str x) h) (hx : x.length ≤ 30) : cFmt m env h = .ok (.str x) h := by
  have hz : sizeLine = 16777216 := by decide
  unfold cFmt
  rw [e, R.bind_ok]
  dsimp only
  rw [decide_eq_true (show x.length ≤ sizeLine by omega)]
  rfl
theorem write_ok {h : List D} {n : Nat} {B : Bk} (k : B.Ok) (b : BookAt h n B) : F_write_book [.loc n] h = .ok (.str (J B.ws)) h := by
  have hz : sizeLine = 16777216 := by decide
  have sh := k.short
  have l1 : Str.length "." = 1 := rfl
  have ho := ord_short B.o k.o
  show (m_write_book [.v (.loc n), .u, .u, .u] h).toR = _
  have q0 : sSet 1 (cRepl " " "." (cProp "Book" F_Book_order (cVar 0))) [.v (.loc n), .u, .u, .u] h = .nx [.v (.loc n), .v (.str (dotO B.o)), .u, .u] h := by
    have := prop_ok (env := [.v (.loc n), .u, .u, .u]) (i := 0) b rfl "order" (.str B.o) rfl
    unfold sSet cRepl
    rw [show F_Book_order = runF (sRet (c2 oIx (cFld "Book" "parts" (cVar 0)) (cC (.str "order")))) 1 1 from rfl, this, R.bind_ok]
    dsimp only
    rw [l1, decide_eq_true (show B.o.length + (B.o.length + 1) * 1 ≤ 16777216 by omega)]
    rfl
  have q1 : sPar 2 3 (aCons (cIf (cB (cProp "Book" F_Book_near (cVar 0))) (cC (.str "near")) (cC (.str "far"))) (aCons (cIf (cB (cProp "Book" F_Book_marks (cVar 0))) (cC (.str "marked")) (cC (.str "free"))) (aNil))) [.v (.loc n), .v (.str (dotO B.o)), .u, .u] h = .nx [.v (.loc n), .v (.str (dotO B.o)), .v (.str (wN B.n)), .v (.str (wM B.m))] h := by
    have p1 := prop_ok (env := [.v (.loc n), .v (.str (dotO B.o)), .u, .u]) (i := 0) b rfl "near" (.bl B.n) rfl
    have p2 := prop_ok (env := [.v (.loc n), .v (.str (dotO B.o)), .u, .u]) (i := 0) b rfl "marks" (.bl B.m) rfl
    unfold sPar aCons aNil cIf cB
    rw [show F_Book_near = runF (sRet (c2 oIx (cFld "Book" "parts" (cVar 0)) (cC (.str "near")))) 1 1 from rfl, show F_Book_marks = runF (sRet (c2 oIx (cFld "Book" "parts" (cVar 0)) (cC (.str "marks")))) 1 1 from rfl, p1]
    cases B.n <;> cases hm : B.m <;> (rw [hm] at p2; simp [cC, p2, wN, wM])
  unfold m_write_book
  rw [sSeq_nx q0, sSeq_nx q1]
  have E : ∀ (kk : Str) (x : Str), kget PK B.vs (.inr kk) = some (.str x) → x.length ≤ 30 → cFmt (cProp "Book" (runF (sRet (c2 oIx (cFld "Book" "parts" (cVar 0)) (cC (.str kk)))) 1 1) (cVar 0)) [.v (.loc n), .v (.str (dotO B.o)), .v (.str (wN B.n)), .v (.str (wM B.m))] h = .ok (.str x) h := fun kk x hk hx =>
    cFmt_str (prop_ok (env := [.v (.loc n), .v (.str (dotO B.o)), .v (.str (wN B.n)), .v (.str (wM B.m))]) (i := 0) b rfl kk (.str x) hk) hx
  have J1 := cJs_ok (env := [.v (.loc n), .v (.str (dotO B.o)), .v (.str (wN B.n)), .v (.str (wM B.m))]) (h := h) [cFmt (cVar 1), cC (.str " "), cFmt (cProp "Book" F_Book_given (cVar 0)), cC (.str " "), cFmt (cProp "Book" F_Book_alls (cVar 0)), cC (.str " "), cFmt (cProp "Book" F_Book_bodies (cVar 0)), cC (.str " "), cFmt (cProp "Book" F_Book_spreads (cVar 0)), cC (.str " "), cFmt (cVar 2), cC (.str " "), cFmt (cVar 3)]
    [dotO B.o, " ", B.g, " ", B.a, " ", B.b, " ", B.s, " ", wN B.n, " ", wM B.m] Str.empty
    ⟨cFmt_str rfl (sh _ (by simp [Bk.ws])), rfl, E "given" _ rfl (sh _ (by simp [Bk.ws])), rfl, E "alls" _ rfl (sh _ (by simp [Bk.ws])), rfl, E "bodies" _ rfl (sh _ (by simp [Bk.ws])), rfl, E "spreads" _ rfl (sh _ (by simp [Bk.ws])), rfl, cFmt_str rfl (sh _ (by simp [Bk.ws])), rfl, cFmt_str rfl (sh _ (by simp [Bk.ws])), True.intro⟩ (by
      have s1 := sh (dotO B.o) (by simp [Bk.ws])
      have s2 := sh B.g (by simp [Bk.ws])
      have s3 := sh B.a (by simp [Bk.ws])
      have s4 := sh B.b (by simp [Bk.ws])
      have s5 := sh B.s (by simp [Bk.ws])
      have s6 := sh (wN B.n) (by simp [Bk.ws])
      have s7 := sh (wM B.m) (by simp [Bk.ws])
      have l0 : Str.empty.length = 0 := rfl
      have l1 : Str.length " " = 1 := rfl
      simp only [List.map_cons, List.map_nil, List.sum_cons, List.sum_nil, l0, l1]
      omega)
  unfold sRet cFs
  rw [J1, R.bind_ok, fold_J]
  rfl
/-- the rules' dict -/
abbrev RKs : List Str := ["order", "given", "alls", "near", "bodies", "spreads", "marks"]
def RK : List Key := RKs.map .inr
def Bk.rv (B : Bk) : List D := [.str B.o, .str B.g, .str B.a, .bl B.n, .str B.b, .str B.s, .bl B.m]
theorem ix_rule {h : List D} {r i : Nat} {B : Bk} {env : List Sl} (hr : dicOf h (.loc r) = some (RK, B.rv)) (e : env[i]? = some (.v (.loc r))) (k : Str) (d : D) (hk : kget RK B.rv (.inr k) = some d) : c2 oIx (cVar i) (cC (.str k)) env h = .ok d h := by
  unfold c2 cVar cC
  rw [e]
  simp only [R.bind_ok]
  unfold oIx
  rw [hr]
  simp only [keyOf, hk]
theorem strsOf_map : ∀ xs : List Str, strsOf (xs.map .str) = some xs
  | [] => rfl
  | x :: xs => by rw [List.map_cons]; unfold strsOf; rw [strsOf_map xs]; rfl
theorem join_ok {m : ME} {env : List Sl} {h : List D} {d : D} {ys : List Str} (e : m env h = .ok d h) (hd : seqOf h d = some (ys.map .str)) (hl : (ys.map (·.length)).sum + ys.length ≤ 10000) : cJoin (cC (.str " ")) m env h = .ok (.str (J ys)) h := by
  have l1 : Str.length " " = 1 := rfl
  unfold cJoin cC
  simp only [R.bind_ok]
  rw [e, R.bind_ok, hd]
  dsimp only
  rw [strsOf_map]
  dsimp only
  rw [l1, decide_eq_true (show (ys.map (·.length)).sum + ys.length * 1 ≤ 16777216 by omega)]
  rfl
theorem sum_short {n : Nat} : ∀ {ws : List Str}, (∀ w ∈ ws, w.length ≤ n) → (ws.map (·.length)).sum ≤ ws.length * n
  | [], _ => by simp
  | w :: ws, h => by
    have := sum_short (ws := ws) fun x hx => h x (List.mem_cons_of_mem _ hx)
    have h1 := h w List.mem_cons_self
    simp only [List.map_cons, List.sum_cons, List.length_cons, Nat.add_mul, Nat.one_mul]
    omega
theorem text_ok {h : List D} {r : Nat} {B : Bk} (k : B.Ok) (hr : dicOf h (.loc r) = some (RK, B.rv)) : F_law_book_text [.loc r] h = .ok (.str (J B.ws)) h := by
  have hz : sizeLine = 16777216 := by decide
  have z2 : (2 : Nat) ≤ sizeLine := by omega
  have z5 : (5 : Nat) ≤ sizeLine := by omega
  have z7 : (7 : Nat) ≤ sizeLine := by omega
  have l1 : Str.length "." = 1 := rfl
  have ho := ord_short B.o k.o
  show (m_law_book_text [.v (.loc r), .u] h).toR = _
  have ix := fun (x : Sl) => ix_rule (env := [.v (.loc r), x]) (i := 0) hr rfl
  have e0 : cRepl " " "." (c2 oIx (cVar 0) (cC (.str "order"))) [.v (.loc r), .u] h = .ok (.str (dotO B.o)) h := by
    unfold cRepl
    rw [ix .u "order" (.str B.o) rfl, R.bind_ok]
    dsimp only
    rw [l1, decide_eq_true (show B.o.length + (B.o.length + 1) * 1 ≤ 16777216 by omega)]
    rfl
  have q0 : sSet 1 (cLst (aCons (cRepl " " "." (c2 oIx (cVar 0) (cC (.str "order")))) (aCons (c2 oIx (cVar 0) (cC (.str "given"))) (aCons (c2 oIx (cVar 0) (cC (.str "alls"))) (aCons (c2 oIx (cVar 0) (cC (.str "bodies"))) (aCons (c2 oIx (cVar 0) (cC (.str "spreads"))) (aNil))))))) [.v (.loc r), .u] h = .nx [.v (.loc r), .v (.lst [.str (dotO B.o), .str B.g, .str B.a, .str B.b, .str B.s])] h := by
    unfold sSet cLst aCons
    rw [e0, R.bind_ok, ix .u "given" (.str B.g) rfl, R.bind_ok, ix .u "alls" (.str B.a) rfl, R.bind_ok, ix .u "bodies" (.str B.b) rfl, R.bind_ok, ix .u "spreads" (.str B.s) rfl]
    simp [aNil, z5]
  have q1 : sSet 1 (c2 oPlus (cVar 1) (cLst (aCons (cIf (cB (c2 oIx (cVar 0) (cC (.str "near")))) (cC (.str "near")) (cC (.str "far"))) (aCons (cIf (cB (c2 oIx (cVar 0) (cC (.str "marks")))) (cC (.str "marked")) (cC (.str "free"))) (aNil))))) [.v (.loc r), .v (.lst [.str (dotO B.o), .str B.g, .str B.a, .str B.b, .str B.s])] h = .nx [.v (.loc r), .v (.lst (B.ws.map .str))] h := by
    have i1 := ix (.v (.lst [.str (dotO B.o), .str B.g, .str B.a, .str B.b, .str B.s])) "near" (.bl B.n) rfl
    have i2 := ix (.v (.lst [.str (dotO B.o), .str B.g, .str B.a, .str B.b, .str B.s])) "marks" (.bl B.m) rfl
    have el : cLst (aCons (cIf (cB (c2 oIx (cVar 0) (cC (.str "near")))) (cC (.str "near")) (cC (.str "far"))) (aCons (cIf (cB (c2 oIx (cVar 0) (cC (.str "marks")))) (cC (.str "marked")) (cC (.str "free"))) (aNil))) [.v (.loc r), .v (.lst [.str (dotO B.o), .str B.g, .str B.a, .str B.b, .str B.s])] h = .ok (.lst [.str (wN B.n), .str (wM B.m)]) h := by
      unfold cLst aCons cIf cB
      rw [i1]
      cases B.n <;> cases hm : B.m <;> (rw [hm] at i2; simp [cC, i2, aNil, wN, wM, z2])
    unfold sSet
    have : c2 oPlus (cVar 1) (cLst (aCons (cIf (cB (c2 oIx (cVar 0) (cC (.str "near")))) (cC (.str "near")) (cC (.str "far"))) (aCons (cIf (cB (c2 oIx (cVar 0) (cC (.str "marks")))) (cC (.str "marked")) (cC (.str "free"))) (aNil)))) [.v (.loc r), .v (.lst [.str (dotO B.o), .str B.g, .str B.a, .str B.b, .str B.s])] h = .ok (.lst (B.ws.map .str)) h := by
      show ((cVar 1 _ h).bind fun x h1 => (cLst _ _ h1).bind fun y h2 => oPlus x y h2) = _
      rw [show cVar 1 [.v (.loc r), .v (.lst [.str (dotO B.o), .str B.g, .str B.a, .str B.b, .str B.s])] h = .ok (.lst [.str (dotO B.o), .str B.g, .str B.a, .str B.b, .str B.s]) h from rfl, R.bind_ok, el, R.bind_ok]
      simp [oPlus, lstH, z7, Bk.ws]
    rw [this]
    rfl
  have q2 := join_ok (m := cVar 1) (env := [.v (.loc r), .v (.lst (B.ws.map .str))]) (h := h) (d := .lst (B.ws.map .str)) (ys := B.ws) rfl rfl (by
    have := sum_short k.short
    have hl : B.ws.length = 7 := rfl
    omega)
  unfold m_law_book_text
  rw [sSeq_nx q0, sSeq_nx q1]
  unfold sRet
  rw [q2]
  rfl
/-! ### == -/
theorem eq_ok {h : List D} {n m : Nat} {B : Bk} (b : BookAt h n B) (c : BookAt h m B) : F_Book___eq__ [.loc n, .loc m] h = .ok (.bl true) h := by
  obtain ⟨p, e1, h1⟩ := b.fld (i := 0) (env := [.v (.loc n), .v (.loc m)]) rfl
  obtain ⟨q, e2, h2⟩ := c.fld (i := 1) (env := [.v (.loc n), .v (.loc m)]) rfl
  obtain ⟨ds, ho⟩ := BookAt.obj c
  show (m_Book___eq__ [.v (.loc n), .v (.loc m)] h).toR = _
  have t : cIsiO (isiT io0_t io0_o) (cVar 1) [.v (.loc n), .v (.loc m)] h = .ok (.bl true) h := by
    unfold cIsiO cVar
    simp only [List.getElem?_cons_succ, List.getElem?_cons_zero, R.bind_ok]
    unfold tyO
    rw [ho]
    rfl
  have eqs : ∀ x : Str, flEq (.str x) (.str x) = true := fun x => decide_eq_true rfl
  have eqb : ∀ x : Bool, flEq (.bl x) (.bl x) = true := fun x => beq_self_eq_true x
  have r : c2 oEqDic (cFld "Book" "parts" (cVar 0)) (cFld "Book" "parts" (cVar 1)) [.v (.loc n), .v (.loc m)] h = .ok (.bl true) h := by
    show ((cFld "Book" "parts" (cVar 0) _ h).bind fun x h1 => (cFld "Book" "parts" (cVar 1) _ h1).bind fun y h2 => oEqDic x y h2) = _
    rw [e1, R.bind_ok, e2, R.bind_ok]
    unfold oEqDic dicH
    simp only [h1, h2]
    show (bif (flEq (.str B.o) (.str B.o) && (flEq (.str B.g) (.str B.g) && (flEq (.str B.a) (.str B.a) && (flEq (.str B.b) (.str B.b) && (flEq (.str B.s) (.str B.s) && (flEq (.bl B.n) (.bl B.n) && (flEq (.bl B.m) (.bl B.m) && true))))))) then R.ok (D.bl true) h else R.bad) = _
    rw [eqs, eqs, eqs, eqs, eqs, eqb, eqb]
    rfl
  unfold m_Book___eq__ sRet cAndV
  rw [t, R.bind_ok]
  dsimp only
  rw [r]
  rfl
end G

set_option Elab.async false
set_option linter.all false
set_option maxRecDepth 100000
set_option maxHeartbeats 600000
/-! P82h: the plain law of k82: a book made by changes. -/
namespace G
open PySem PySem.Spec PyProof.Rows L2
theorem runF1 {m : MS} {n : Nat} {a : D} {h : List D} : runF m 1 n [a] h = (m (.v a :: List.replicate (n - 1) .u) h).toR := rfl
theorem runF2 {m : MS} {n : Nat} {a b : D} {h : List D} : runF m 2 n [a, b] h = (m (.v a :: .v b :: List.replicate (n - 2) .u) h).toR := rfl
theorem changed_ok {h : List D} {n : Nat} {B B' : Bk} {k : Str} {v : D} {xs : List D} (b : BookAt h n B) (k' : B'.Ok) (sb : Sb v) (hk : prt k = some xs) (hf : xs.all D.fl = true) (hv : inD v xs = true) (hp : kput PK B.vs (.inr k) v = (PK, B'.vs)) :
    F_Book_changed [.loc n, .str k, v] h = .ok (.loc (h.length + 1)) (h ++ [.dic PK B'.vs] ++ bookD (h.length + 1) B') := by
  show (m_Book_changed [.v (.loc n), .v (.str k), .v v, .u] h).toR = _
  have q0 : sIf (cOr (cNot (cB (cCall F_is_book_part (aCons (cVar 1) (aNil))))) (cNot (cB (cCall F_is_value (aCons (cVar 1) (aCons (cVar 2) (aNil))))))) (sRaise "BadPart" "part" (cVar 1)) (sNil) [.v (.loc n), .v (.str k), .v v, .u] h = .nx [.v (.loc n), .v (.str k), .v v, .u] h := by
    have e1 := is_part_ok (h := h) hk
    have e2 := is_value_ok (h := h) sb hk hf
    rw [hv] at e2
    simp [sIf, cOr, cNot, cB, cCall, aCons, aNil, cVar, e1, e2, sNil]
  have q1 : sSet 3 (cDisU (cFld "Book" "parts" (cVar 0)) (cVar 1) (cVar 2)) [.v (.loc n), .v (.str k), .v v, .u] h = .nx [.v (.loc n), .v (.str k), .v v, .v (.loc h.length)] (h ++ [.dic PK B'.vs]) := by
    obtain ⟨m, e, hm⟩ := (b.app (t := [D.dic [] []])).fld (i := 0) (env := [.v (.loc n), .v (.str k), .v v, .u]) rfl
    have hl : (h ++ [D.dic [] []])[h.length]? = some (.dic [] []) := by simp
    have d1 : dicOf (h ++ [D.dic [] []]) (.loc m) = some (PK, B.vs) := by unfold dicOf; simp only [hm]
    unfold sSet cDisU
    rw [e, R.bind_ok, d1, hl]
    have d2 : (decide (0 < PK.length) && decide (PK.length < 1000)) = true := by decide +kernel
    dsimp only
    rw [d2, cond_true]
    have g2 : ((h ++ [D.dic [] []]).set h.length (.dic PK B.vs))[h.length]? = some (.dic PK B.vs) := List.getElem?_set_self (by simp)
    have d3 : decide (PK.length < 1000) = true := by decide +kernel
    simp only [cVar, List.getElem?_cons_succ, List.getElem?_cons_zero, R.bind_ok, keyOf, g2, d3, cond_true, hp, R.thenS_ok]
    simp
  have q2 := callS_ok (h := h ++ [D.dic PK B'.vs]) k' (m := cVar 3) (env := [.v (.loc n), .v (.str k), .v v, .v (.loc h.length)]) (n := h.length) rfl (by simp)
  unfold m_Book_changed
  rw [sSeq_nx q0, sSeq_nx q1]
  unfold sRet
  rw [q2]
  simp [RS.toR]
/-- a round of the changes -/
abbrev ChS : MS := sSet 1 (cMeth "Book" "changed" F_Book_changed (cVar 1) (aCons (cVar 2) (aCons (c2 oIx (cVar 0) (cVar 2)) (aNil))))
theorem round_ok {H : List D} {r n : Nat} {B Q B' : Bk} {k : Str} {v : D} {xs : List D} {x : Sl} (b : BookAt H n B) (hr : dicOf H (.loc r) = some (RK, Q.rv)) (hg : kget RK Q.rv (.inr k) = some v) (k' : B'.Ok) (sb : Sb v) (hk : prt k = some xs) (hf : xs.all D.fl = true) (hv : inD v xs = true) (hp : kput PK B.vs (.inr k) v = (PK, B'.vs)) :
    ChS [.v (.loc r), .v (.loc n), .v (.str k)] H = .nx [.v (.loc r), .v (.loc (H.length + 1)), .v (.str k)] (H ++ [.dic PK B'.vs] ++ bookD (H.length + 1) B') := by
  obtain ⟨ds, ho⟩ := BookAt.obj b
  obtain ⟨m, b1, b2⟩ := b
  have ho : objOf H (.loc n) = some (("Book" : Str), (["parts", "rows"] : List Str), [.loc m, rowsD B.o]) := by unfold objOf; simp only [b1]
  have e := changed_ok (h := H) (n := n) ⟨m, b1, b2⟩ k' sb hk hf hv hp
  have ei : c2 oIx (cVar 0) (cVar 2) [.v (.loc r), .v (.loc n), .v (.str k)] H = .ok v H := by
    unfold c2 cVar
    simp only [List.getElem?_cons_succ, List.getElem?_cons_zero, R.bind_ok]
    unfold oIx
    rw [hr]
    simp only [keyOf, hg]
  unfold ChS sSet cMeth
  rw [show cVar 1 [.v (.loc r), .v (.loc n), .v (.str k)] H = .ok (.loc n) H from rfl, R.bind_ok, ho]
  have ea : aCons (cVar 2) (aCons (c2 oIx (cVar 0) (cVar 2)) aNil) [.v (.loc r), .v (.loc n), .v (.str k)] H = .ok [.str k, v] H := by
    unfold aCons
    rw [show cVar 2 [.v (.loc r), .v (.loc n), .v (.str k)] H = .ok (.str k) H from rfl, R.bind_ok, ei]
    rfl
  have d : (decide True && (fget ([("parts" : Str), "rows"]) [D.loc m, rowsD B.o] "changed").isNone) = true := rfl
  dsimp only
  simp only [decide_true] at d ⊢
  rw [ea]
  show ((bif (true && (fget ([("parts" : Str), "rows"]) [D.loc m, rowsD B.o] "changed").isNone) then _ else R.bad) : R D).thenS _ _ = _
  rw [d, cond_true, R.bind_ok, e]
  rfl
def B0 : Bk := ⟨"own named all", "own", "use", "ahead", "member", true, false⟩
theorem b0_ok : B0.Ok := ⟨by decide +kernel, by decide +kernel, by decide +kernel, by decide +kernel, by decide +kernel⟩
def rk1 (k : Str) : D := .str k
theorem gN_some {i : Nat} {env : List Sl} {d : D} : gN i env d = some (env.set i (.v d)) := rfl
/-- all the changes -/
theorem rounds_ok {H : List D} {r n : Nat} {Q : Bk} {x : Sl} (k : Q.Ok) (b : BookAt H n B0) (hr : dicOf H (.loc r) = some (RK, Q.rv)) (hrl : r < H.length) :
    ∃ (n' : Nat) (t : List D) (x' : Sl), forGo (gN 2) ChS (RK.map keyD) [.v (.loc r), .v (.loc n), x] H = .nx [.v (.loc r), .v (.loc n'), x'] (H ++ t) ∧ BookAt (H ++ t) n' Q := by
  have keep : ∀ t : List D, dicOf (H ++ t) (.loc r) = some (RK, Q.rv) := fun t => by
    unfold dicOf at hr ⊢
    dsimp only at hr ⊢
    rw [List.getElem?_append_left hrl]
    exact hr
  have bl_in : ∀ b : Bool, inD (.bl b) bls = true := by intro b; cases b <;> rfl
  have step : ∀ {t : List D} {n : Nat} {B B' : Bk} {kk : Str} {v : D} {xs : List D} {x : Sl} {items : List D}, BookAt (H ++ t) n B → kget RK Q.rv (.inr kk) = some v → B'.Ok → Sb v → prt kk = some xs → xs.all D.fl = true → inD v xs = true → kput PK B.vs (.inr kk) v = (PK, B'.vs) →
      ∃ n' t', forGo (gN 2) ChS (.str kk :: items) [.v (.loc r), .v (.loc n), x] (H ++ t) = forGo (gN 2) ChS items [.v (.loc r), .v (.loc n'), .v (.str kk)] (H ++ t') ∧ BookAt (H ++ t') n' B' := fun {t n B B' kk v xs x items} b hg k' sb hk hf hv hp => by
    have e := round_ok (x := x) b (keep t) hg k' sb hk hf hv hp
    refine ⟨(H ++ t).length + 1, t ++ ([.dic PK B'.vs] ++ bookD ((H ++ t).length + 1) B'), ?_, ?_⟩
    · rw [forGo_nx (env1 := [.v (.loc r), .v (.loc n), .v (.str kk)]) gN_some e]
      simp only [List.append_assoc]
    · have := bookAt_new (h := H ++ t ++ [D.dic PK B'.vs]) (B := B') (n := (H ++ t).length + 1) (by simp; omega)
      simpa only [List.append_assoc] using this
  have hin : ∀ (x : Str) (l : List Str), x ∈ l → inD (.str x) (l.map .str) = true := fun x l m => by rw [inD_str, decide_eq_true m]
  have b00 : BookAt (H ++ []) n B0 := by rw [List.append_nil]; exact b
  obtain ⟨n1, t1, e1, b1⟩ := step (x := x) (B' := { B0 with o := Q.o }) (items := [.str "given", .str "alls", .str "near", .str "bodies", .str "spreads", .str "marks"]) b00 (kk := "order") rfl { b0_ok with o := k.o } (.str _) rfl (fl_strs ORD) (hin _ _ k.o) rfl
  obtain ⟨n2, t2, e2, b2⟩ := step (x := .v (.str "order")) (B' := { B0 with o := Q.o, g := Q.g }) (items := [.str "alls", .str "near", .str "bodies", .str "spreads", .str "marks"]) b1 (kk := "given") rfl { b0_ok with o := k.o, g := k.g } (.str _) rfl (fl_strs GIV) (hin _ _ k.g) rfl
  obtain ⟨n3, t3, e3, b3⟩ := step (x := .v (.str "given")) (B' := { B0 with o := Q.o, g := Q.g, a := Q.a }) (items := [.str "near", .str "bodies", .str "spreads", .str "marks"]) b2 (kk := "alls") rfl { b0_ok with o := k.o, g := k.g, a := k.a } (.str _) rfl (fl_strs ALS) (hin _ _ k.a) rfl
  obtain ⟨n4, t4, e4, b4⟩ := step (x := .v (.str "alls")) (B' := { B0 with o := Q.o, g := Q.g, a := Q.a, n := Q.n }) (items := [.str "bodies", .str "spreads", .str "marks"]) b3 (kk := "near") rfl { b0_ok with o := k.o, g := k.g, a := k.a } (.bl _) rfl (by rfl) (bl_in _) rfl
  obtain ⟨n5, t5, e5, b5⟩ := step (x := .v (.str "near")) (B' := { B0 with o := Q.o, g := Q.g, a := Q.a, n := Q.n, b := Q.b }) (items := [.str "spreads", .str "marks"]) b4 (kk := "bodies") rfl { b0_ok with o := k.o, g := k.g, a := k.a, b := k.b } (.str _) rfl (fl_strs BOD) (hin _ _ k.b) rfl
  obtain ⟨n6, t6, e6, b6⟩ := step (x := .v (.str "bodies")) (B' := { B0 with o := Q.o, g := Q.g, a := Q.a, n := Q.n, b := Q.b, s := Q.s }) (items := [.str "marks"]) b5 (kk := "spreads") rfl { b0_ok with o := k.o, g := k.g, a := k.a, b := k.b, s := k.s } (.str _) rfl (fl_strs SPR) (hin _ _ k.s) rfl
  obtain ⟨n7, t7, e7, b7⟩ := step (x := .v (.str "spreads")) (B' := Q) (items := []) b6 (kk := "marks") rfl k (.bl _) rfl (by rfl) (bl_in _) rfl
  refine ⟨n7, t7, .v (.str "marks"), ?_, b7⟩
  rw [List.append_nil] at e1
  show forGo (gN 2) ChS [.str "order", .str "given", .str "alls", .str "near", .str "bodies", .str "spreads", .str "marks"] _ H = _
  rw [e1, e2, e3, e4, e5, e6, e7]
  rfl
def mb0 : MS := sSet 1 (cCall (mkF "Book" fun es h => F_Book___init__ (es ++ kws_Book___init__.map fun q => q.2.d) h) aNil)
theorem mb_eq : m_law_made_book = sSeq mb0 (sSeq (sForDic (cVar 0) (gN 2) ChS) (sRet (cVar 1))) := rfl
theorem mb0_ok {h : List D} {r : Nat} : mb0 [.v (.loc r), .u, .u] h = .nx [.v (.loc r), .v (.loc h.length), .u] (h ++ bookD h.length B0) := by
  have := mk_ok b0_ok h
  unfold mb0 sSet cCall aNil
  rw [R.bind_ok]
  have e : mkF "Book" (fun es h => F_Book___init__ (es ++ kws_Book___init__.map fun q => q.2.d) h) [] h = mkF "Book" F_Book___init__ B0.vs h := rfl
  rw [e, this]
  rfl
theorem made_ok {h : List D} {r : Nat} {Q : Bk} (k : Q.Ok) (hr : h[r]? = some (.dic RK Q.rv)) : ∃ (n : Nat) (t : List D), F_law_made_book [.loc r] h = .ok (.loc n) (h ++ t) ∧ BookAt (h ++ t) n Q := by
  have hrl := (List.getElem?_eq_some_iff.mp hr).1
  have q0 := mb0_ok (h := h) (r := r)
  generalize hh : h ++ bookD h.length B0 = h1 at q0
  have hr1 : h1[r]? = some (.dic RK Q.rv) := by rw [← hh]; exact app_get hr
  have b0 : BookAt h1 h.length B0 := by rw [← hh]; exact bookAt_new rfl
  have hl1 : r < h1.length := (List.getElem?_eq_some_iff.mp hr1).1
  have bL : BookAt (h1.set r (.lck RK Q.rv)) h.length B0 := by
    obtain ⟨m, c1, c2⟩ := b0
    refine ⟨m, ?_, ?_⟩
    · rw [set_ne (fun e => by subst e; rw [hr1] at c1; cases c1)]; exact c1
    · rw [set_ne (fun e => by subst e; rw [hr1] at c2; injection c2 with c2; injection c2 with c2 _; revert c2; decide +kernel)]; exact c2
  have dL : dicOf (h1.set r (.lck RK Q.rv)) (.loc r) = some (RK, Q.rv) := by unfold dicOf; simp only [List.getElem?_set_self hl1]
  obtain ⟨n', t, x', e, bn⟩ := rounds_ok (x := .u) k bL dL (by simpa using hl1)
  have gl : (h1.set r (.lck RK Q.rv) ++ t)[r]? = some (.lck RK Q.rv) := by rw [List.getElem?_append_left (by simpa using hl1)]; exact List.getElem?_set_self hl1
  have back : (h1.set r (.lck RK Q.rv) ++ t).set r (.dic RK Q.rv) = h1 ++ t := by
    rw [List.set_append_left _ _ (by simpa using hl1), List.set_set, set_same hr1]
  have q1 : sForDic (cVar 0) (gN 2) ChS [.v (.loc r), .v (.loc h.length), .u] h1 = .nx [.v (.loc r), .v (.loc n'), x'] (h1 ++ t) := by
    unfold sForDic
    rw [show cVar 0 [.v (.loc r), .v (.loc h.length), .u] h1 = .ok (.loc r) h1 from rfl]
    dsimp only
    rw [hr1]
    dsimp only
    have ks : iKeysD r (cVar 0) [.v (.loc r), .v (.loc h.length), .u] (h1.set r (.lck RK Q.rv)) = .ok (RK.map keyD) (h1.set r (.lck RK Q.rv)) := by
      unfold iKeysD
      rw [show cVar 0 [.v (.loc r), .v (.loc h.length), .u] (h1.set r (.lck RK Q.rv)) = .ok (.loc r) _ from rfl, R.bind_ok]
      dsimp only
      rw [decide_eq_true rfl, cond_true, List.getElem?_set_self hl1]
    unfold sFor
    rw [ks, R.thenS_ok, e]
    unfold unS
    dsimp only
    rw [gl]
    dsimp only
    rw [back]
  refine ⟨n', bookD h.length B0 ++ t, ?_, ?_⟩
  · unfold F_law_made_book
    rw [runF1, mb_eq, show (List.replicate (3 - 1) Sl.u) = [.u, .u] from rfl, sSeq_nx q0, sSeq_nx q1, ← List.append_assoc, hh]
    rfl
  · obtain ⟨m, c1, c2⟩ := bn
    rw [← List.append_assoc, hh, ← back]
    refine ⟨m, ?_, ?_⟩
    · rw [set_ne (fun e => by subst e; rw [gl] at c1; cases c1)]; exact c1
    · rw [set_ne (fun e => by subst e; rw [gl] at c2; cases c2)]; exact c2
end G

set_option Elab.async false
set_option linter.all false
set_option maxRecDepth 100000
set_option maxHeartbeats 4000000
/-! P82i: the plain law of k82: names, rules. -/
namespace G
open PySem PySem.Spec PyProof.Rows L2
/-- a name that may come -/
def Nq (x : Str) : Bool := nmB x && (nsp x && (decide (x.length ≤ 20) && (decide (wordLen x = 0) && (!nmB (Txt.upper x) && (nsp (Txt.upper x) && (!nmB (x ++ "\n") && (nsp (x ++ "\n") && (decide ((Txt.upper x).length ≤ 100) && PyData.strOk x))))))))
def p_law_names_of_0 : MS := sSet 2 (cC (.str "abcdefghijklmnopqrstuvwxyz"))
def p_law_names_of_1 : MS := sAsg (gT 2 (gsC (gN 4) (gsC (gN 5) (gsN)))) (cTup (aCons (cCall F_law_draw (aCons (cVar 0) (aCons (cC (.int 26)) (aNil)))) (aCons (c2 oPlus (cC (.int 1)) (c2 oMul (cC (.int 2)) (cCall F_law_draw (aCons (cVar 0) (aCons (cC (.int 6)) (aNil)))))) (aNil))))
def p_law_names_of_2 : MS := sSet 3 (cLst (aCons (cTup (aCons (cC (.str "")) (aCons (cC (.str "")) (aNil)))) (aCons (cTup (aCons (cC (.str "")) (aCons (cC (.str "q")) (aNil)))) (aCons (cTup (aCons (cC (.str "ab")) (aCons (cC (.str "")) (aNil)))) (aCons (cTup (aCons (cC (.str "abcdefg")) (aCons (cC (.str "")) (aNil)))) (aCons (cTup (aCons (cC (.str "")) (aCons (cC (.str "abcdefg")) (aNil)))) (aNil)))))))
def p_law_names_of_3 : MS := sAsg (gT 2 (gsC (gN 6) (gsC (gN 7) (gsN)))) (cCall F_law_pick (aCons (cVar 0) (aCons (cVar 3) (aNil))))
def p_law_names_of_4 : MS := sRet (cLc (iRange1 (aCons (cVar 1) (aNil))) (gN 8) (mYes) (c2 oPlus (c2 oPlus (cVar 6) (c2 oIx (cVar 2) (c2 oMod (c2 oPlus (cVar 4) (c2 oMul (cVar 5) (cVar 8))) (cC (.int 26))))) (cVar 7)) [8])
def p_law_names_of : MS := sSeq p_law_names_of_0 (sSeq p_law_names_of_1 (sSeq p_law_names_of_2 (sSeq p_law_names_of_3 p_law_names_of_4)))
theorem m_law_names_of_eq : m_law_names_of = p_law_names_of := rfl

/-! ### the names -/
def ENDS : List (Str × Str) := [("", ""), ("", "q"), ("ab", ""), ("abcdefg", ""), ("", "abcdefg")]
def signAt (z : Int) : Nat := (LET.cps.toList[(z % 26).toNat]?).getD 0
def mkName (hd tl : Str) (z : Int) : Str := hd ++ ⟨#[signAt z]⟩ ++ tl
theorem names_nm : ∀ p ∈ ENDS, ∀ i ∈ List.range 26, Nq (p.1 ++ ⟨#[(LET.cps.toList[i]?).getD 0]⟩ ++ p.2) = true := by decide +kernel
theorem mkName_nm {p : Str × Str} (hp : p ∈ ENDS) (z : Int) : Nq (mkName p.1 p.2 z) = true :=
  names_nm p hp (z % 26).toNat (List.mem_range.mpr (by have := Int.emod_nonneg z (show (26 : Int) ≠ 0 by decide); have := Int.emod_lt_of_pos z (show (0 : Int) < 26 by decide); omega))
theorem LET_len : LET.cps.toList.length = 26 := by decide +kernel
theorem LET_at {z : Int} (h0 : 0 ≤ z) (h1 : z < 26) : atI LET.cps.toList z = some ((LET.cps.toList[z.toNat]?).getD 0) := by
  have hl : z.toNat < LET.cps.toList.length := by rw [LET_len]; omega
  unfold atI ixN
  rw [if_pos h0, if_pos (by rw [LET_len]; exact h1)]
  simp [List.getElem?_eq_getElem hl]
abbrev endsD : List D := ENDS.map fun p => D.tup [.str p.1, .str p.2]
theorem ends_len : endsD.length = 5 := rfl
theorem ends_short : ∀ p ∈ ENDS, p.1.length + p.2.length ≤ 10 ∧ p.1.length ≤ 10 := by decide +kernel
theorem names_of_ok {h : List D} {p : Nat} (P : Pool h p) : ∃ (xs : List Str) (c : D), F_law_names_of [.loc p, .int 3] h = .ok (.lst (xs.map .str)) (h.set p c) ∧ xs.length = 3 ∧ (∀ x ∈ xs, Nq x = true) ∧ Pool (h.set p c) p := by
  have hz : sizeLine = 16777216 := by decide
  obtain ⟨o, c1, e1, o0, o1, P1⟩ := draw_ok (many := 26) P (by decide) (by decide)
  obtain ⟨r, c2', e2, r0, r1, P2⟩ := draw_ok (many := 6) P1 (by decide) (by decide)
  obtain ⟨j, d, c3, hj, e3, P3⟩ := pick_ok (row := endsD) P2 (by rw [ends_len]; decide) (by rw [ends_len]; decide)
  have hd : d ∈ endsD := List.mem_of_getElem? hj
  obtain ⟨q, hq, rfl⟩ := List.mem_map.mp hd
  have m2 : cMul 2 r = true := by simp [cMul]
  have k0 : p_law_names_of_0 [.v (.loc p), .v (.int 3), .u, .u, .u, .u, .u, .u, .u] h = .nx [.v (.loc p), .v (.int 3), .v (.str LET), .u, .u, .u, .u, .u, .u] h := rfl
  have k1 : p_law_names_of_1 [.v (.loc p), .v (.int 3), .v (.str LET), .u, .u, .u, .u, .u, .u] h = .nx [.v (.loc p), .v (.int 3), .v (.str LET), .u, .v (.int o), .v (.int (1 + 2 * r)), .u, .u, .u] ((h.set p c1).set p c2') := by
    have h2 : (2 : Nat) ≤ sizeLine := by omega
    simp only [p_law_names_of_1, sAsg, cTup, aCons, cCall, cVar, cC, aNil, R.bind_ok, List.getElem?_cons_zero, e1, c2, e2, oMul, oI, m2, cond_true, oPlus, List.length_cons, List.length_nil, if_pos h2, R.thenS_ok, gT, gsC, gN, gsN]
    rfl
  have k2 : p_law_names_of_2 [.v (.loc p), .v (.int 3), .v (.str LET), .u, .v (.int o), .v (.int (1 + 2 * r)), .u, .u, .u] ((h.set p c1).set p c2') = .nx [.v (.loc p), .v (.int 3), .v (.str LET), .v (.lst endsD), .v (.int o), .v (.int (1 + 2 * r)), .u, .u, .u] ((h.set p c1).set p c2') := by
    have h2 : (2 : Nat) ≤ sizeLine := by omega
    have h5 : (5 : Nat) ≤ sizeLine := by omega
    simp [p_law_names_of_2, sSet, cLst, cTup, aCons, aNil, cC, h2, h5, endsD, ENDS]
  have k3 : p_law_names_of_3 [.v (.loc p), .v (.int 3), .v (.str LET), .v (.lst endsD), .v (.int o), .v (.int (1 + 2 * r)), .u, .u, .u] ((h.set p c1).set p c2') = .nx [.v (.loc p), .v (.int 3), .v (.str LET), .v (.lst endsD), .v (.int o), .v (.int (1 + 2 * r)), .v (.str q.1), .v (.str q.2), .u] (((h.set p c1).set p c2').set p c3) := by
    simp only [p_law_names_of_3, sAsg, cCall, aCons, aNil, cVar, R.bind_ok, List.getElem?_cons_zero, List.getElem?_cons_succ, e3, R.thenS_ok, gT, gsC, gN, gsN]
    rfl
  generalize hH : (((h.set p c1).set p c2').set p c3) = h' at k3
  have hh : h' = h.set p c3 := by rw [← hH, List.set_set, List.set_set]
  have wk := lcGo_map (T := gN 8) (te := c2 oPlus (c2 oPlus (cVar 6) (c2 oIx (cVar 2) (c2 oMod (c2 oPlus (cVar 4) (c2 oMul (cVar 5) (cVar 8))) (cC (.int 26))))) (cVar 7)) (env := [.v (.loc p), .v (.int 3), .v (.str LET), .v (.lst endsD), .v (.int o), .v (.int (1 + 2 * r)), .v (.str q.1), .v (.str q.2), .u]) (h := h') (f := fun d => match d with | .int k => .str (mkName q.1 q.2 (o + (1 + 2 * r) * k)) | _ => .non) (rangeD 0 3) (by rw [hz]; decide) (fun d hd => by
    obtain ⟨i, _, rfl⟩ := List.mem_map.mp hd
    refine ⟨_, rfl, ?_⟩
    have m1 : cMul (1 + 2 * r) (0 + (i : Int)) = true := by
      simp only [cMul, Bool.or_eq_true, Bool.and_eq_true, decide_eq_true_eq]
      left
      have e64 : (2 : Int) ^ 64 = 18446744073709551616 := by decide +kernel
      rw [e64]
      omega
    generalize hz2 : o + (1 + 2 * r) * (0 + (i : Int)) = z
    have z0 := Int.emod_nonneg z (show (26 : Int) ≠ 0 by decide)
    have z1 := Int.emod_lt_of_pos z (show (0 : Int) < 26 by decide)
    have la := LET_at z0 z1
    have sh := ends_short q hq
    have ll : LET.length ≤ sizeLine := by rw [hz]; decide +kernel
    have one : ∀ c : Nat, (⟨#[c]⟩ : Str).length = 1 := fun _ => rfl
    have s1 : q.1.length + 1 ≤ sizeLine := by omega
    have s2 : (q.1 ++ (⟨#[signAt z]⟩ : Str)).length + q.2.length ≤ sizeLine := by rw [Str.length_append, one]; omega
    simp only [c2, cVar, List.set_cons_succ, List.set_cons_zero, List.getElem?_cons_zero, List.getElem?_cons_succ, R.bind_ok, oMul, oI, m1, cond_true, oPlus, hz2, oMod, show decide ((0 : Int) < 26) = true from rfl, cC, oIx, dicOf, la, decide_eq_true ll, one, decide_eq_true s1]
    rw [show (⟨#[(LET.cps.toList[(z % 26).toNat]?).getD 0]⟩ : Str) = ⟨#[signAt z]⟩ from rfl, decide_eq_true s2]
    rfl)
  have src : iRange1 (aCons (cVar 1) (aNil)) [.v (.loc p), .v (.int 3), .v (.str LET), .v (.lst endsD), .v (.int o), .v (.int (1 + 2 * r)), .v (.str q.1), .v (.str q.2), .u] h' = .ok (rangeD 0 3) h' := by
    unfold iRange1 aCons aNil
    simp only [cVar, List.getElem?_cons_zero, List.getElem?_cons_succ, R.bind_ok]
    rw [show (decide (-(2 ^ 62) ≤ (3 : Int)) && decide ((3 : Int) < 2 ^ 62)) = true by decide +kernel]
    rfl
  have k4 : p_law_names_of_4 [.v (.loc p), .v (.int 3), .v (.str LET), .v (.lst endsD), .v (.int o), .v (.int (1 + 2 * r)), .v (.str q.1), .v (.str q.2), .u] h' = .rt (.lst ((List.range 3).map fun (i : Nat) => D.str (mkName q.1 q.2 (o + (1 + 2 * r) * (0 + (i : Int)))))) h' := by
    unfold p_law_names_of_4 sRet cLc aLc
    rw [src]
    simp only [R.bind_ok, noX, List.all_cons, List.all_nil, Sl.noX, Bool.and_self, cond_true]
    show R.thenS (R.bind (lcGo (gN 8) mYes _ [.v (.loc p), .v (.int 3), .v (.str LET), .v (.lst endsD), .v (.int o), .v (.int (1 + 2 * r)), .v (.str q.1), .v (.str q.2), .u] _ _ h') _) _ _ = _
    rw [wk]
    simp only [R.bind_ok, R.thenS_ok, rangeD, List.map_map]
    rfl
  refine ⟨(List.range 3).map fun (i : Nat) => mkName q.1 q.2 (o + (1 + 2 * r) * (0 + (i : Int))), c3, ?_, by simp, fun x hx => ?_, by simpa only [List.set_set] using P3⟩
  · show (m_law_names_of [.v (.loc p), .v (.int 3), .u, .u, .u, .u, .u, .u, .u] h).toR = _
    rw [m_law_names_of_eq]
    unfold p_law_names_of
    rw [sSeq_nx k0, sSeq_nx k1, sSeq_nx k2, sSeq_nx k3, k4, hh, List.map_map]
    rfl
  · obtain ⟨i, _, rfl⟩ := List.mem_map.mp hx
    exact mkName_nm hq _
/-! ### the rules -/
def lev (a b c : Int) : List (List Str) := [0, 1, 2].map fun l => ([(("own" : Str), a), ("named", b), ("all", c)].filter fun q => decide (q.2 = l)).map (·.1)
def ordOf (a b c : Int) : Str := J (((lev a b c).filter fun l => decide (l ≠ [])).map fun l => Txt.join "=" l)
theorem ord_in : ∀ a ∈ ([0, 1, 2] : List Int), ∀ b ∈ ([0, 1, 2] : List Int), ∀ c ∈ ([0, 1, 2] : List Int), ordOf a b c ∈ ORD := by decide +kernel
abbrev GR : D := .lst [.str "own", .str "named", .str "all"]
abbrev RE (p : Nat) (l r w : Sl) (a b c : Int) (x y : Sl) : List Sl := [.v (.loc p), l, r, w, .v GR, .v (.lst [.int a, .int b, .int c]), x, y, .u, .u]
def rLev : ME := cLc (iRange1 (aCons (cC (.int 3)) (aNil))) (gN 8) (mYes) (cLc (iRange1 (aCons (cC (.int 3)) (aNil))) (gN 9) (cB (c2 (oEq false) (c2 oIx (cVar 5) (cVar 9)) (cVar 8))) (c2 oIx (cVar 4) (cVar 9)) [9]) [8]
def rOrd : ME := cJoin (cC (.str " ")) (cLc (iSeq (cVar 1)) (gN 8) (cB (c2 (oEq true) (cVar 8) (cLst (aNil)))) (cJoin (cC (.str "=")) (cVar 8)) [8])
theorem three {a : Int} (h0 : 0 ≤ a) (h1 : a < 3) : a = 0 ∨ a = 1 ∨ a = 2 := by omega
theorem lev_ok {p : Nat} {a b c : Int} {H : List D} (a0 : 0 ≤ a) (a1 : a < 3) (b0 : 0 ≤ b) (b1 : b < 3) (c0 : 0 ≤ c) (c1 : c < 3) : rLev (RE p .u .u .u a b c .u .u) H = .ok (.lst ((lev a b c).map fun l => .lst (l.map .str))) H := by
  rcases three a0 a1 with rfl | rfl | rfl <;> rcases three b0 b1 with rfl | rfl | rfl <;> rcases three c0 c1 with rfl | rfl | rfl <;> kernel_rfl
theorem ord_ok {p : Nat} {a b c : Int} {H : List D} (a0 : 0 ≤ a) (a1 : a < 3) (b0 : 0 ≤ b) (b1 : b < 3) (c0 : 0 ≤ c) (c1 : c < 3) : rOrd (RE p (.v (.lst ((lev a b c).map fun l => .lst (l.map .str)))) .u .u a b c .u .u) H = .ok (.str (ordOf a b c)) H := by
  rcases three a0 a1 with rfl | rfl | rfl <;> rcases three b0 b1 with rfl | rfl | rfl <;> rcases three c0 c1 with rfl | rfl | rfl <;> kernel_rfl
end G

set_option Elab.async false
set_option linter.all false
set_option maxRecDepth 100000
set_option maxHeartbeats 1000000
/-! P82j: the plain law of k82: the rules are drawn. -/
namespace G
open PySem PySem.Spec PyProof.Rows L2
def r0 : MS := sAsg (gT 2 (gsC (gN 4) (gsC (gN 5) (gsN)))) (cTup (aCons (cLst (aCons (cC (.str "own")) (aCons (cC (.str "named")) (aCons (cC (.str "all")) (aNil))))) (aCons (cLst (aCons (cCall F_law_draw (aCons (cVar 0) (aCons (cC (.int 3)) (aNil)))) (aCons (cCall F_law_draw (aCons (cVar 0) (aCons (cC (.int 3)) (aNil)))) (aCons (cCall F_law_draw (aCons (cVar 0) (aCons (cC (.int 3)) (aNil)))) (aNil))))) (aNil))))
def r1 : MS := sSet 1 rLev
def r2 : MS := sSet 2 (cDis [(cC (.str "order"), rOrd)])
def r3 : MS := sSet 3 (cLst (aCons (cTup (aCons (cC (.str "given")) (aCons (cLst (aCons (cC (.str "own")) (aCons (cC (.str "both")) (aNil)))) (aNil)))) (aCons (cTup (aCons (cC (.str "alls")) (aCons (cLst (aCons (cC (.str "use")) (aCons (cC (.str "once")) (aCons (cC (.str "first")) (aCons (cC (.str "last")) (aNil)))))) (aNil)))) (aCons (cTup (aCons (cC (.str "near")) (aCons (cLst (aCons (cC (.bl true)) (aCons (cC (.bl false)) (aNil)))) (aNil)))) (aNil)))))
def r4 : MS := sSet 3 (c2 oPlus (cVar 3) (cLst (aCons (cTup (aCons (cC (.str "bodies")) (aCons (cLst (aCons (cC (.str "ahead")) (aCons (cC (.str "behind")) (aCons (cC (.str "never")) (aNil))))) (aNil)))) (aCons (cTup (aCons (cC (.str "spreads")) (aCons (cLst (aCons (cC (.str "member")) (aCons (cC (.str "spread")) (aCons (cC (.str "tie")) (aNil))))) (aNil)))) (aNil)))))
def r5i : MA := iSeq (c2 oPlus (cVar 3) (cLst (aCons (cTup (aCons (cC (.str "marks")) (aCons (cLst (aCons (cC (.bl true)) (aCons (cC (.bl false)) (aNil)))) (aNil)))) (aNil))))
def r5b : MS := sSub (cVar 2) (cVar 6) (cCall F_law_pick (aCons (cVar 0) (aCons (cVar 7) (aNil))))
abbrev T67 : Asg := gT 2 (gsC (gN 6) (gsC (gN 7) (gsN)))
theorem ro_eq : m_law_rules_of = sSeq r0 (sSeq r1 (sSeq r2 (sSeq r3 (sSeq r4 (sSeq (sFor r5i T67 r5b) (sRet (cVar 2))))))) := rfl
theorem r0_ok {h : List D} {p : Nat} (P : Pool h p) : ∃ (a b c : Int) (x : D), r0 [.v (.loc p), .u, .u, .u, .u, .u, .u, .u, .u, .u] h = .nx (RE p .u .u .u a b c .u .u) (h.set p x) ∧ Pool (h.set p x) p ∧ 0 ≤ a ∧ a < 3 ∧ 0 ≤ b ∧ b < 3 ∧ 0 ≤ c ∧ c < 3 := by
  have hz : sizeLine = 16777216 := by decide
  have z2 : (2 : Nat) ≤ sizeLine := by omega
  have z3 : (3 : Nat) ≤ sizeLine := by omega
  obtain ⟨a, c1, e1, a0, a1, P1⟩ := draw_ok (many := 3) P (by decide) (by decide)
  obtain ⟨b, c2', e2, b0, b1, P2⟩ := draw_ok (many := 3) P1 (by decide) (by decide)
  obtain ⟨c, c3, e3, c0, c1', P3⟩ := draw_ok (many := 3) P2 (by decide) (by decide)
  rw [List.set_set] at e2 P2 P3 e3
  rw [List.set_set] at e3 P3
  refine ⟨a, b, c, c3, ?_, P3, a0, a1, b0, b1, c0, c1'⟩
  simp [r0, sAsg, cTup, cLst, aCons, aNil, cC, cCall, cVar, e1, e2, e3, z2, z3, gT, gsC, gN, gsN]
abbrev R3 : List D := [.tup [.str "given", .lst (GIV.map .str)], .tup [.str "alls", .lst (ALS.map .str)], .tup [.str "near", .lst bls]]
abbrev R5 : List D := R3 ++ [.tup [.str "bodies", .lst (BOD.map .str)], .tup [.str "spreads", .lst (SPR.map .str)]]
abbrev R6 : List D := R5 ++ [.tup [.str "marks", .lst bls]]
section
variable {h H : List D} {p n : Nat} {a b c : Int} {l r w x y : Sl}
theorem r2_ok {h : List D} (a0 : 0 ≤ a) (a1 : a < 3) (b0 : 0 ≤ b) (b1 : b < 3) (c0 : 0 ≤ c) (c1 : c < 3) : r2 (RE p (.v (.lst ((lev a b c).map fun l => .lst (l.map .str)))) .u .u a b c .u .u) h = .nx (RE p (.v (.lst ((lev a b c).map fun l => .lst (l.map .str)))) (.v (.loc h.length)) .u a b c .u .u) (h ++ [.dic [.inr "order"] [.str (ordOf a b c)]]) := by
  have e := ord_ok (p := p) (H := h ++ [.dic [] []]) a0 a1 b0 b1 c0 c1
  have g : (h ++ [D.dic [] []])[h.length]? = some (.dic [] []) := by simp
  have ep : aPs [(cC (.str "order"), rOrd)] (RE p (.v (.lst ((lev a b c).map fun l => .lst (l.map .str)))) .u .u a b c .u .u) (h ++ [.dic [] []]) = .ok [(.str "order", .str (ordOf a b c))] (h ++ [.dic [] []]) := by
    unfold aPs
    simp only [cC, R.bind_ok]
    rw [e]
    rfl
  unfold r2 sSet cDis
  rw [ep, R.bind_ok, g]
  simp [keysOf, keyOf, mergeD, kput]
theorem r34_ok : ∀ s, (sSeq r3 (sSeq r4 s)) (RE p l r .u a b c x y) H = s (RE p l r (.v (.lst R5)) a b c x y) H := fun s => by
  have e3 : r3 (RE p l r .u a b c x y) H = .nx (RE p l r (.v (.lst R3)) a b c x y) H := by kernel_rfl
  have e4 : r4 (RE p l r (.v (.lst R3)) a b c x y) H = .nx (RE p l r (.v (.lst R5)) a b c x y) H := by kernel_rfl
  rw [sSeq_nx e3, sSeq_nx e4]
theorem r5i_ok : r5i (RE p l r (.v (.lst R5)) a b c x y) H = .ok R6 H := by kernel_rfl
/-- a part's value is drawn -/
theorem part_step {k : Str} {row : List D} {ks : List Key} {ds : List D} (hp : p < h.length) (P : Pool h p) (h1 : 0 < row.length) (h2 : row.length < 1000) (hk : Sum.inr k ∉ ks) (hl : ks.length < 1000) :
    ∃ (v d : D), v ∈ row ∧ Pool (h.set p d) p ∧ ∀ items, forGo T67 r5b (.tup [.str k, .lst row] :: items) (RE p l (.v (.loc h.length)) w a b c x y) (h ++ [.dic ks ds]) = forGo T67 r5b items (RE p l (.v (.loc (h.set p d).length)) w a b c (.v (.str k)) (.v (.lst row))) (h.set p d ++ [.dic (ks ++ [.inr k]) (ds ++ [v])]) := by
  have hz : sizeLine = 16777216 := by decide
  have PH : Pool (h ++ [.dic ks ds]) p := by
    obtain ⟨A, B, g, r⟩ := P
    exact ⟨A, B, app_get g, r⟩
  obtain ⟨j, v, d, hj, e, P'⟩ := pick_ok (row := row) PH h1 (by omega)
  have es : (h ++ [D.dic ks ds]).set p d = h.set p d ++ [.dic ks ds] := List.set_append_left _ _ hp
  rw [es] at e P'
  refine ⟨v, d, List.mem_of_getElem? hj, ?_, fun items => ?_⟩
  · obtain ⟨A, B, g, r⟩ := P'
    rw [List.getElem?_append_left (by simpa using hp)] at g
    exact ⟨A, B, g, r⟩
  · refine forGo_nx (env1 := RE p l (.v (.loc h.length)) w a b c (.v (.str k)) (.v (.lst row))) rfl ?_
    have ln : (h.set p d).length = h.length := List.length_set
    rw [ln]
    unfold r5b sSub cCall aCons aNil
    simp only [cVar, List.getElem?_cons_succ, List.getElem?_cons_zero, R.bind_ok]
    rw [e, R.thenS_ok]
    have g : (h.set p d ++ [D.dic ks ds])[h.length]? = some (.dic ks ds) := by rw [← ln]; simp
    simp only [R.thenS_ok, g, keyOf]
    rw [decide_eq_true (show ks.length < sizeLine by omega), cond_true, kput_new hk]
    rw [List.set_append_right _ _ (by rw [ln]; exact Nat.le_refl _), ln, Nat.sub_self]
    rfl
end
theorem rules_ok {h : List D} {p : Nat} (P : Pool h p) : ∃ (B : Bk) (d : D), F_law_rules_of [.loc p] h = .ok (.loc h.length) (h.set p d ++ [.dic RK B.rv]) ∧ B.Ok ∧ Pool (h.set p d) p := by
  have hp : p < h.length := by
    obtain ⟨A, B, g, _⟩ := P
    exact (List.getElem?_eq_some_iff.mp g).1
  obtain ⟨a, b, c, x0, e0, P0, a0, a1, b0, b1, c0, c1⟩ := r0_ok P
  have ho : ordOf a b c ∈ ORD := ord_in a (by rcases three a0 a1 with rfl | rfl | rfl <;> simp) b (by rcases three b0 b1 with rfl | rfl | rfl <;> simp) c (by rcases three c0 c1 with rfl | rfl | rfl <;> simp)
  have e1 : r1 (RE p .u .u .u a b c .u .u) (h.set p x0) = .nx (RE p (.v (.lst ((lev a b c).map fun l => .lst (l.map .str)))) .u .u a b c .u .u) (h.set p x0) := by
    unfold r1 sSet
    rw [lev_ok a0 a1 b0 b1 c0 c1]
    rfl
  have e2 := r2_ok (p := p) (h := h.set p x0) a0 a1 b0 b1 c0 c1
  have lt : ∀ d : D, p < (h.set p d).length := fun d => by rw [List.length_set]; exact hp
  have nin : ∀ (k : Str) (l : List Str), k ∉ l → (Sum.inr k : Key) ∉ l.map Sum.inr := fun k l hk m => by
    obtain ⟨q, hq, e⟩ := List.mem_map.mp m
    cases e
    exact hk hq
  obtain ⟨v1, d1, m1, P1, s1⟩ := part_step (l := .v (.lst ((lev a b c).map fun l => .lst (l.map .str)))) (w := .v (.lst R5)) (x := .u) (y := .u) (a := a) (b := b) (c := c) (k := "given") (row := GIV.map .str) (ks := ([("order" : Str)]).map Sum.inr) (ds := [.str (ordOf a b c)]) (lt x0) P0 (by decide) (by decide) (nin _ _ (by decide +kernel)) (by decide)
  rw [List.set_set] at P1 s1
  obtain ⟨v2, d2, m2, P2, s2⟩ := part_step (l := .v (.lst ((lev a b c).map fun l => .lst (l.map .str)))) (w := .v (.lst R5)) (x := .v (.str "given")) (y := .v (.lst (GIV.map .str))) (a := a) (b := b) (c := c) (k := "alls") (row := ALS.map .str) (ks := ([("order" : Str), "given"]).map Sum.inr) (ds := [.str (ordOf a b c), v1]) (lt d1) P1 (by decide) (by decide) (nin _ _ (by decide +kernel)) (by decide)
  rw [List.set_set] at P2 s2
  obtain ⟨v3, d3, m3, P3, s3⟩ := part_step (l := .v (.lst ((lev a b c).map fun l => .lst (l.map .str)))) (w := .v (.lst R5)) (x := .v (.str "alls")) (y := .v (.lst (ALS.map .str))) (a := a) (b := b) (c := c) (k := "near") (row := bls) (ks := ([("order" : Str), "given", "alls"]).map Sum.inr) (ds := [.str (ordOf a b c), v1, v2]) (lt d2) P2 (by decide) (by decide) (nin _ _ (by decide +kernel)) (by decide)
  rw [List.set_set] at P3 s3
  obtain ⟨v4, d4, m4, P4, s4⟩ := part_step (l := .v (.lst ((lev a b c).map fun l => .lst (l.map .str)))) (w := .v (.lst R5)) (x := .v (.str "near")) (y := .v (.lst bls)) (a := a) (b := b) (c := c) (k := "bodies") (row := BOD.map .str) (ks := ([("order" : Str), "given", "alls", "near"]).map Sum.inr) (ds := [.str (ordOf a b c), v1, v2, v3]) (lt d3) P3 (by decide) (by decide) (nin _ _ (by decide +kernel)) (by decide)
  rw [List.set_set] at P4 s4
  obtain ⟨v5, d5, m5, P5, s5⟩ := part_step (l := .v (.lst ((lev a b c).map fun l => .lst (l.map .str)))) (w := .v (.lst R5)) (x := .v (.str "bodies")) (y := .v (.lst (BOD.map .str))) (a := a) (b := b) (c := c) (k := "spreads") (row := SPR.map .str) (ks := ([("order" : Str), "given", "alls", "near", "bodies"]).map Sum.inr) (ds := [.str (ordOf a b c), v1, v2, v3, v4]) (lt d4) P4 (by decide) (by decide) (nin _ _ (by decide +kernel)) (by decide)
  rw [List.set_set] at P5 s5
  obtain ⟨v6, d6, m6, P6, s6⟩ := part_step (l := .v (.lst ((lev a b c).map fun l => .lst (l.map .str)))) (w := .v (.lst R5)) (x := .v (.str "spreads")) (y := .v (.lst (SPR.map .str))) (a := a) (b := b) (c := c) (k := "marks") (row := bls) (ks := ([("order" : Str), "given", "alls", "near", "bodies", "spreads"]).map Sum.inr) (ds := [.str (ordOf a b c), v1, v2, v3, v4, v5]) (lt d5) P5 (by decide) (by decide) (nin _ _ (by decide +kernel)) (by decide)
  rw [List.set_set] at P6 s6
  obtain ⟨g, hg, rfl⟩ := List.mem_map.mp m1
  obtain ⟨al, hal, rfl⟩ := List.mem_map.mp m2
  obtain ⟨bo, hbo, rfl⟩ := List.mem_map.mp m4
  obtain ⟨sp, hsp, rfl⟩ := List.mem_map.mp m5
  have bl : ∀ v : D, v ∈ bls → ∃ q : Bool, v = .bl q := fun v m => by
    rcases List.mem_cons.mp m with e | m
    · exact ⟨true, e⟩
    · exact ⟨false, List.mem_singleton.mp m⟩
  obtain ⟨nq, rfl⟩ := bl _ m3
  obtain ⟨mq, rfl⟩ := bl _ m6
  refine ⟨⟨ordOf a b c, g, al, bo, sp, nq, mq⟩, d6, ?_, ⟨ho, hg, hal, hbo, hsp⟩, P6⟩
  have lf : sFor r5i T67 r5b (RE p (.v (.lst ((lev a b c).map fun l => .lst (l.map .str)))) (.v (.loc (h.set p x0).length)) (.v (.lst R5)) a b c .u .u) (h.set p x0 ++ [.dic [.inr "order"] [.str (ordOf a b c)]]) = .nx (RE p (.v (.lst ((lev a b c).map fun l => .lst (l.map .str)))) (.v (.loc (h.set p d6).length)) (.v (.lst R5)) a b c (.v (.str "marks")) (.v (.lst bls))) (h.set p d6 ++ [.dic RK [.str (ordOf a b c), .str g, .str al, .bl nq, .str bo, .str sp, .bl mq]]) := by
    unfold sFor
    rw [r5i_ok, R.thenS_ok]
    refine (s1 _).trans ?_
    refine (s2 _).trans ?_
    refine (s3 _).trans ?_
    refine (s4 _).trans ?_
    refine (s5 _).trans ?_
    exact s6 []
  unfold F_law_rules_of
  rw [runF1, ro_eq, show (List.replicate (10 - 1) Sl.u) = [.u, .u, .u, .u, .u, .u, .u, .u, .u] from rfl, sSeq_nx e0, sSeq_nx e1, sSeq_nx e2, r34_ok, sSeq_nx lf]
  simp only [List.length_set]
  rfl
end G

set_option Elab.async false
set_option linter.all false
set_option maxRecDepth 100000
set_option maxHeartbeats 1000000
/-! P82k: the plain law of k82: texts are spoilt. -/
namespace G
open PySem PySem.Spec PyProof.Rows L2
structure Wd (ws : List Str) : Prop where
  two : 2 ≤ ws.length
  few : ws.length ≤ 7
  nsp : ∀ w ∈ ws, nsp w = true
  short : ∀ w ∈ ws, w.length ≤ 40
  up : ∀ w ∈ ws, (Txt.upper w).length ≤ 100
theorem cut_take {xs : List D} {i : Nat} (h : i ≤ xs.length) : cutD xs none (some (i : Int)) = xs.take i := by
  unfold cutD
  have e1 : HT.sIx xs.length 0 none = 0 := by unfold HT.sIx; simp
  have e2 : HT.sIx xs.length xs.length (some (i : Int)) = i := by rw [HT.sIx_nat]; omega
  rw [e1, e2, List.drop_zero, Nat.sub_zero]
theorem cut_drop {xs : List D} {i : Nat} (h : i ≤ xs.length) : cutD xs (some (i : Int)) none = xs.drop i := by
  unfold cutD
  have e1 : HT.sIx xs.length 0 (some (i : Int)) = i := by rw [HT.sIx_nat]; omega
  have e2 : HT.sIx xs.length xs.length none = xs.length := by unfold HT.sIx; simp
  rw [e1, e2]
  exact List.take_of_length_le (by rw [List.length_drop]; exact Nat.le_refl _)
section
variable {H : List D} {env : List Sl} {ws : List Str} {i : Nat}
theorem slA (e2 : env[2]? = some (.v (.lst (ws.map .str)))) {m : ME} (em : m env H = .ok (.int (i : Int)) H) (hi : i ≤ ws.length) : cSl (cVar 2) oNone (oSome m) env H = .ok (.lst ((ws.take i).map .str)) H := by
  have ev : cVar 2 env H = .ok (.lst (ws.map .str)) H := by unfold cVar; rw [e2]
  unfold cSl oNone oSome
  rw [ev, R.bind_ok, R.bind_ok, em, R.bind_ok, R.bind_ok]
  unfold oSl lstOf
  dsimp only
  rw [cut_take (by rw [List.length_map]; exact hi), List.map_take]
theorem slZ (e2 : env[2]? = some (.v (.lst (ws.map .str)))) {m : ME} (em : m env H = .ok (.int (i : Int)) H) (hi : i ≤ ws.length) : cSl (cVar 2) (oSome m) oNone env H = .ok (.lst ((ws.drop i).map .str)) H := by
  have ev : cVar 2 env H = .ok (.lst (ws.map .str)) H := by unfold cVar; rw [e2]
  unfold cSl oNone oSome
  rw [ev, R.bind_ok, em, R.bind_ok, R.bind_ok, R.bind_ok]
  unfold oSl lstOf
  dsimp only
  rw [cut_drop (by rw [List.length_map]; exact hi), List.map_drop]
theorem plusL {m1 m2 : ME} {xs ys : List D} (e1 : m1 env H = .ok (.lst xs) H) (e2 : m2 env H = .ok (.lst ys) H) (hl : xs.length + ys.length ≤ 1000) : c2 oPlus m1 m2 env H = .ok (.lst (xs ++ ys)) H := by
  have hz : sizeLine = 16777216 := by decide
  unfold c2
  rw [e1, R.bind_ok, e2, R.bind_ok]
  unfold oPlus
  simp only [lstH]
  rw [decide_eq_true (show xs.length + ys.length ≤ sizeLine by omega)]
  rfl
theorem plusS {m1 m2 : ME} {x y : Str} (e1 : m1 env H = .ok (.str x) H) (e2 : m2 env H = .ok (.str y) H) (hl : x.length + y.length ≤ 2000) : c2 oPlus m1 m2 env H = .ok (.str (x ++ y)) H := by
  have hz : sizeLine = 16777216 := by decide
  unfold c2
  rw [e1, R.bind_ok, e2, R.bind_ok]
  unfold oPlus
  dsimp only
  rw [decide_eq_true (show x.length + y.length ≤ sizeLine by omega)]
  rfl
/-- ' '.join of a list of few short words -/
theorem joinW {m : ME} {ys : List Str} (e : m env H = .ok (.lst (ys.map .str)) H) (hl : ys.length ≤ 20) (hs : ∀ w ∈ ys, w.length ≤ 100) : cJoin (cC (.str " ")) m env H = .ok (.str (J ys)) H := by
  refine join_ok e rfl ?_
  have := sum_short hs
  have h2 : ys.length * 100 ≤ 20 * 100 := Nat.mul_le_mul_right _ hl
  omega
theorem aCons_ok {m : ME} {t : MA} {d : D} {ds H2 : List D} {h : List D} (e1 : m env h = .ok d H) (e2 : t env H = .ok ds H2) : aCons m t env h = .ok (d :: ds) H2 := by unfold aCons; rw [e1, R.bind_ok, e2, R.bind_ok]
theorem mapapp (xs ys : List Str) : xs.map D.str ++ ys.map D.str = (xs ++ ys).map D.str := (List.map_append).symm
end
/-- the eleven texts -/
def spoil (ws : List Str) (i : Nat) : List Str := [J (ws.take i ++ ws.drop (i + 1)), J (ws ++ ws.take 1), J ws ++ " ", " " ++ J ws, J (ws.take i ++ [Txt.upper ((ws[i]?).getD "")] ++ ws.drop (i + 1)), J (ws.take i ++ ([("a.b" : Str)] : List Str) ++ ws.drop (i + 1)), J (ws.take i ++ ([("" : Str)] : List Str) ++ ws.drop (i + 1)), Txt.replace (J ws) " " "  ", J ws ++ "\n", "", Txt.replace (J ws) " " "\t"]
def s2m : MS := sSet 4 (cLstN (aCons (cJoin (cC (.str " ")) (c2 oPlus (cSl (cVar 2) (oNone) (oSome (cVar 3))) (cSl (cVar 2) (oSome (c2 oPlus (cVar 3) (cC (.int 1)))) (oNone)))) (aCons (cJoin (cC (.str " ")) (c2 oPlus (cVar 2) (cSl (cVar 2) (oNone) (oSome (cC (.int 1)))))) (aCons (c2 oPlus (cVar 1) (cC (.str " "))) (aCons (c2 oPlus (cC (.str " ")) (cVar 1)) (aNil))))))
def s3i : MA := iSeq (cLst (aCons (cUpper (c2 oIx (cVar 2) (cVar 3))) (aCons (cC (.str "a.b")) (aCons (cC (.str "")) (aNil)))))
def s3b : MS := sExpr (cApp (cVar 4) (cJoin (cC (.str " ")) (c2 oPlus (c2 oPlus (cSl (cVar 2) (oNone) (oSome (cVar 3))) (cLst (aCons (cVar 5) (aNil)))) (cSl (cVar 2) (oSome (c2 oPlus (cVar 3) (cC (.int 1)))) (oNone)))))
def s4m : MS := sRet (c2 oPlus (cVar 4) (cLst (aCons (cRepl " " "  " (cVar 1)) (aCons (c2 oPlus (cVar 1) (cC (.str "\n"))) (aCons (cC (.str "")) (aCons (cRepl " " "\t" (cVar 1)) (aNil)))))))
theorem sp_eq : m_law_spoilt = sSeq (sSet 2 (cSplit (cVar 1) (cC (.str " ")))) (sSeq (sSet 3 (cCall F_law_draw (aCons (cVar 0) (aCons (cCall (f1 lenD) (aCons (cVar 2) (aNil))) (aNil))))) (sSeq s2m (sSeq (sFor s3i (gN 5) s3b) s4m))) := rfl
abbrev SE' (p : Nat) (T : Str) (ws : List Str) (i : Nat) (x y : Sl) : List Sl := [.v (.loc p), .v (.str T), .v (.lst (ws.map .str)), .v (.int (i : Int)), x, y]
section
variable {h H : List D} {p i : Nat} {ws : List Str} {x y : Sl}
theorem sA (hi : i < ws.length) : cSl (cVar 2) oNone (oSome (cVar 3)) (SE' p (J ws) ws i x y) H = .ok (.lst ((ws.take i).map .str)) H := slA rfl rfl (by omega)
theorem sZ (hi : i < ws.length) : cSl (cVar 2) (oSome (c2 oPlus (cVar 3) (cC (.int 1)))) oNone (SE' p (J ws) ws i x y) H = .ok (.lst ((ws.drop (i + 1)).map .str)) H := slZ rfl (by rfl) (by omega)
theorem mem_take' {w : Str} {n : Nat} (h : w ∈ ws.take n) : w ∈ ws := List.mem_of_mem_take h
theorem mem_drop' {w : Str} {n : Nat} (h : w ∈ ws.drop n) : w ∈ ws := List.mem_of_mem_drop h
theorem J_short (W : Wd ws) : (J ws).length ≤ 287 := by
  have := len_J_le (n := 40) W.short
  have h2 : ws.length * (40 + 1) ≤ 7 * 41 := Nat.mul_le_mul W.few (Nat.le_refl _)
  omega
theorem s2_ok (W : Wd ws) (hi : i < ws.length) : s2m (SE' p (J ws) ws i .u .u) H = .nx (SE' p (J ws) ws i (.v (.loc H.length)) .u) (H ++ [.lst (([J (ws.take i ++ ws.drop (i + 1)), J (ws ++ ws.take 1), J ws ++ " ", " " ++ J ws] : List Str).map .str)]) := by
  have hz : sizeLine = 16777216 := by decide
  have z4 : (4 : Nat) ≤ sizeLine := by omega
  have few := W.few
  have two := W.two
  have js := J_short W
  have lA : (ws.take i).length ≤ 7 := by rw [List.length_take]; omega
  have lZ : (ws.drop (i + 1)).length ≤ 7 := by rw [List.length_drop]; omega
  have l1 : (ws.take 1).length ≤ 7 := by rw [List.length_take]; omega
  have e1 := joinW (ys := ws.take i ++ ws.drop (i + 1)) (plusL (sA (p := p) (x := .u) (y := .u) (H := H) hi) (sZ hi) (by simp only [List.length_map]; omega) |>.trans (by rw [mapapp])) (by rw [List.length_append]; omega) (fun w hw => by
    rcases List.mem_append.mp hw with m | m
    · have := W.short w (mem_take' m); omega
    · have := W.short w (mem_drop' m); omega)
  have sH : cSl (cVar 2) oNone (oSome (cC (.int 1))) (SE' p (J ws) ws i .u .u) H = .ok (.lst ((ws.take 1).map .str)) H := slA rfl rfl (by omega)
  have e2 := joinW (ys := ws ++ ws.take 1) (plusL (m1 := cVar 2) (env := SE' p (J ws) ws i .u .u) (H := H) rfl sH (by simp only [List.length_map]; omega) |>.trans (by rw [mapapp])) (by rw [List.length_append]; omega) (fun w hw => by
    rcases List.mem_append.mp hw with m | m
    · have := W.short w m; omega
    · have := W.short w (mem_take' m); omega)
  have l0 : Str.length " " = 1 := rfl
  have e3 := plusS (m1 := cVar 1) (m2 := cC (.str " ")) (env := SE' p (J ws) ws i .u .u) (H := H) rfl rfl (by rw [l0]; omega)
  have e4 := plusS (m1 := cC (.str " ")) (m2 := cVar 1) (env := SE' p (J ws) ws i .u .u) (H := H) rfl rfl (by rw [l0]; omega)
  unfold s2m sSet cLstN aCons
  rw [e1, R.bind_ok, e2, R.bind_ok, e3, R.bind_ok, e4]
  simp [aNil, z4]
theorem up_ok (W : Wd ws) (hi : i < ws.length) : s3i (SE' p (J ws) ws i x y) H = .ok (([Txt.upper ((ws[i]?).getD ""), "a.b", ""] : List Str).map .str) H := by
  have hz : sizeLine = 16777216 := by decide
  have z3 : (3 : Nat) ≤ sizeLine := by omega
  have ei : ws[i]? = some ws[i] := List.getElem?_eq_getElem hi
  have sh := W.short ws[i] (List.getElem_mem hi)
  have ix : c2 oIx (cVar 2) (cVar 3) (SE' p (J ws) ws i x y) H = .ok (.str ws[i]) H := by
    have ha : atI (ws.map D.str) (i : Int) = some (.str ws[i]) := by
      unfold atI ixN
      rw [List.length_map, if_pos (by omega), if_pos (by omega)]
      simp [ei]
    simp [c2, cVar, oIx, dicOf, seqOf, lstOf, tupOf, ha]
  unfold s3i iSeq cLst aCons
  have eu : cUpper (c2 oIx (cVar 2) (cVar 3)) (SE' p (J ws) ws i x y) H = .ok (.str (Txt.upper ws[i])) H := by
    unfold cUpper
    rw [ix, R.bind_ok]
    dsimp only
    rw [decide_eq_true (show ws[i].length ≤ 5592405 by omega)]
    rfl
  rw [eu, ei]
  simp [cC, aNil, z3]
theorem app1 {n : Nat} {L : List Str} {w : Str} (W : Wd ws) (hi : i < ws.length) (hn : H[n]? = some (.lst (L.map .str))) (hL : L.length ≤ 20) (hw : w.length ≤ 100) : s3b (SE' p (J ws) ws i (.v (.loc n)) (.v (.str w))) H = .nx (SE' p (J ws) ws i (.v (.loc n)) (.v (.str w))) (H.set n (.lst ((L ++ [J (ws.take i ++ [w] ++ ws.drop (i + 1))]).map .str))) := by
  have hz : sizeLine = 16777216 := by decide
  have z1 : (1 : Nat) ≤ sizeLine := by omega
  have few := W.few
  have lA : (ws.take i).length ≤ 7 := by rw [List.length_take]; omega
  have lZ : (ws.drop (i + 1)).length ≤ 7 := by rw [List.length_drop]; omega
  have e5 : cLst (aCons (cVar 5) aNil) (SE' p (J ws) ws i (.v (.loc n)) (.v (.str w))) H = .ok (.lst ([w].map .str)) H := by simp [cLst, aCons, aNil, cVar, z1]
  have e1 := plusL (sA (p := p) (x := .v (.loc n)) (y := .v (.str w)) (H := H) hi) e5 (by simp only [List.length_map, List.length_singleton]; omega)
  rw [mapapp] at e1
  have e2 := plusL e1 (sZ hi) (by simp only [List.length_map, List.length_append, List.length_singleton]; omega)
  rw [mapapp] at e2
  have e3 := joinW e2 (by simp only [List.length_append, List.length_singleton]; omega) (fun v hv => by
    rcases List.mem_append.mp hv with m | m
    · rcases List.mem_append.mp m with m | m
      · have := W.short v (mem_take' m); omega
      · rw [List.mem_singleton.mp m]; exact hw
    · have := W.short v (mem_drop' m); omega)
  unfold s3b sExpr cApp
  rw [show cVar 4 (SE' p (J ws) ws i (.v (.loc n)) (.v (.str w))) H = .ok (.loc n) H from rfl, R.bind_ok]
  have hs : (lstH H (.loc n)).isSome = true := by unfold lstH; simp only [hn]; rfl
  rw [hs, cond_true, e3, R.bind_ok]
  unfold appD
  simp only [hn]
  have hlen : (L.map D.str).length < sizeLine := by rw [List.length_map]; omega
  rw [decide_eq_true hlen, cond_true, R.thenS_ok, List.map_append]
  rfl
theorem spoilt_ok (W : Wd ws) (P : Pool h p) : ∃ (i : Nat) (c x : D), i < ws.length ∧ F_law_spoilt [.loc p, .str (J ws)] h = .ok (.lst ((spoil ws i).map .str)) (h.set p c ++ [x]) ∧ Pool (h.set p c ++ [x]) p := by
  have hz : sizeLine = 16777216 := by decide
  have few := W.few
  have two := W.two
  have js := J_short W
  have ne : ws ≠ [] := fun e => by rw [e] at two; simp at two
  have l1 : Str.length " " = 1 := rfl
  have e0 : sSet 2 (cSplit (cVar 1) (cC (.str " "))) [.v (.loc p), .v (.str (J ws)), .u, .u, .u, .u] h = .nx [.v (.loc p), .v (.str (J ws)), .v (.lst (ws.map .str)), .u, .u, .u] h := by
    unfold sSet cSplit cVar cC
    simp only [List.getElem?_cons_succ, List.getElem?_cons_zero, R.bind_ok]
    rw [l1, decide_eq_true (show 0 < 1 by omega), decide_eq_true (show (J ws).length + 2 ≤ sizeLine by omega), split_J W.nsp ne]
    rfl
  obtain ⟨r, c, er, r0, r1, P1⟩ := draw_ok (many := ws.length) P (by omega) (by omega)
  obtain ⟨i, rfl⟩ : ∃ i : Nat, r = i := ⟨r.toNat, by omega⟩
  have hi : i < ws.length := by omega
  have e1 : sSet 3 (cCall F_law_draw (aCons (cVar 0) (aCons (cCall (f1 lenD) (aCons (cVar 2) (aNil))) (aNil)))) [.v (.loc p), .v (.str (J ws)), .v (.lst (ws.map .str)), .u, .u, .u] h = .nx (SE' p (J ws) ws i .u .u) (h.set p c) := by
    have el : cCall (f1 lenD) (aCons (cVar 2) aNil) [.v (.loc p), .v (.str (J ws)), .v (.lst (ws.map .str)), .u, .u, .u] h = .ok (.int ws.length) h := by
      rw [cCall1 (show cVar 2 [.v (.loc p), .v (.str (J ws)), .v (.lst (ws.map .str)), .u, .u, .u] h = .ok (.lst (ws.map .str)) h from rfl)]
      simp [lenD, dicOf, seqOf, lstOf, tupOf]
    unfold sSet
    have : cCall F_law_draw (aCons (cVar 0) (aCons (cCall (f1 lenD) (aCons (cVar 2) (aNil))) (aNil))) [.v (.loc p), .v (.str (J ws)), .v (.lst (ws.map .str)), .u, .u, .u] h = .ok (.int i) (h.set p c) := by
      show ((aCons _ _ _ h).bind fun ds h1 => F_law_draw ds h1) = _
      rw [aCons_ok (m := cVar 0) (d := .loc p) (H := h) (H2 := h) (ds := [.int ws.length]) rfl (aCons_ok el rfl), R.bind_ok]
      exact er
    rw [this]
    rfl
  generalize hH : h.set p c = H at e1 P1
  have e2 := s2_ok (p := p) (H := H) W hi
  have up : (Txt.upper ((ws[i]?).getD "")).length ≤ 100 := by
    have ei : ws[i]? = some ws[i] := List.getElem?_eq_getElem hi
    rw [ei]
    exact W.up _ (List.getElem_mem hi)
  have hp : p < H.length := by
    obtain ⟨A, B, g, _⟩ := P1
    exact (List.getElem?_eq_some_iff.mp g).1
  have gn : ∀ L : List Str, (H ++ [D.lst (L.map .str)])[H.length]? = some (.lst (L.map .str)) := fun L => by simp
  have sn : ∀ (L : List Str) (d : D), (H ++ [D.lst (L.map .str)]).set H.length d = H ++ [d] := fun L d => by simp
  have lf : ∃ y, sFor s3i (gN 5) s3b (SE' p (J ws) ws i (.v (.loc H.length)) .u) (H ++ [.lst (([J (ws.take i ++ ws.drop (i + 1)), J (ws ++ ws.take 1), J ws ++ " ", " " ++ J ws] : List Str).map .str)]) = .nx (SE' p (J ws) ws i (.v (.loc H.length)) y) (H ++ [.lst (([J (ws.take i ++ ws.drop (i + 1)), J (ws ++ ws.take 1), J ws ++ " ", " " ++ J ws, J (ws.take i ++ [Txt.upper ((ws[i]?).getD "")] ++ ws.drop (i + 1)), J (ws.take i ++ ([("a.b" : Str)] : List Str) ++ ws.drop (i + 1)), J (ws.take i ++ ([("" : Str)] : List Str) ++ ws.drop (i + 1))] : List Str).map .str)]) := by
    refine ⟨.v (.str ""), ?_⟩
    unfold sFor
    rw [up_ok W hi, R.thenS_ok]
    show forGo (gN 5) s3b [.str (Txt.upper ((ws[i]?).getD "")), .str "a.b", .str ""] _ _ = _
    have a1 := app1 (p := p) (w := Txt.upper ((ws[i]?).getD "")) (L := [J (ws.take i ++ ws.drop (i + 1)), J (ws ++ ws.take 1), J ws ++ " ", " " ++ J ws]) W hi (gn _) (by simp) up
    rw [sn] at a1
    have a2 := app1 (p := p) (w := "a.b") (L := [J (ws.take i ++ ws.drop (i + 1)), J (ws ++ ws.take 1), J ws ++ " ", " " ++ J ws] ++ [J (ws.take i ++ [Txt.upper ((ws[i]?).getD "")] ++ ws.drop (i + 1))]) W hi (gn _) (by simp) (by decide +kernel)
    rw [sn] at a2
    have a3 := app1 (p := p) (w := "") (L := [J (ws.take i ++ ws.drop (i + 1)), J (ws ++ ws.take 1), J ws ++ " ", " " ++ J ws] ++ [J (ws.take i ++ [Txt.upper ((ws[i]?).getD "")] ++ ws.drop (i + 1))] ++ [J (ws.take i ++ ([("a.b" : Str)] : List Str) ++ ws.drop (i + 1))]) W hi (gn _) (by simp) (by decide +kernel)
    rw [sn] at a3
    rw [forGo_nx gN_some a1, forGo_nx gN_some a2, forGo_nx gN_some a3]
    rfl
  obtain ⟨y, e3⟩ := lf
  refine ⟨i, c, .lst (([J (ws.take i ++ ws.drop (i + 1)), J (ws ++ ws.take 1), J ws ++ " ", " " ++ J ws, J (ws.take i ++ [Txt.upper ((ws[i]?).getD "")] ++ ws.drop (i + 1)), J (ws.take i ++ ([("a.b" : Str)] : List Str) ++ ws.drop (i + 1)), J (ws.take i ++ ([("" : Str)] : List Str) ++ ws.drop (i + 1))] : List Str).map .str), hi, ?_, ?_⟩
  · unfold F_law_spoilt
    rw [runF2, sp_eq, show (List.replicate (6 - 2) Sl.u) = [.u, .u, .u, .u] from rfl, sSeq_nx e0, sSeq_nx e1, sSeq_nx e2, sSeq_nx e3, hH]
    have z4 : (4 : Nat) ≤ sizeLine := by omega
    have z11 : (11 : Nat) ≤ sizeLine := by omega
    have l2 : Str.length "  " = 2 := rfl
    have lt : Str.length "\t" = 1 := rfl
    have ln : Str.length "\n" = 1 := rfl
    have gh := gn [J (ws.take i ++ ws.drop (i + 1)), J (ws ++ ws.take 1), J ws ++ " ", " " ++ J ws, J (ws.take i ++ [Txt.upper ((ws[i]?).getD "")] ++ ws.drop (i + 1)), J (ws.take i ++ ([("a.b" : Str)] : List Str) ++ ws.drop (i + 1)), J (ws.take i ++ ([("" : Str)] : List Str) ++ ws.drop (i + 1))]
    have so : spoil ws i = [J (ws.take i ++ ws.drop (i + 1)), J (ws ++ ws.take 1), J ws ++ " ", " " ++ J ws, J (ws.take i ++ [Txt.upper ((ws[i]?).getD "")] ++ ws.drop (i + 1)), J (ws.take i ++ ([("a.b" : Str)] : List Str) ++ ws.drop (i + 1)), J (ws.take i ++ ([("" : Str)] : List Str) ++ ws.drop (i + 1))] ++ [Txt.replace (J ws) " " "  ", J ws ++ "\n", "", Txt.replace (J ws) " " "\t"] := rfl
    rw [so]
    generalize hL : ([J (ws.take i ++ ws.drop (i + 1)), J (ws ++ ws.take 1), J ws ++ " ", " " ++ J ws, J (ws.take i ++ [Txt.upper ((ws[i]?).getD "")] ++ ws.drop (i + 1)), J (ws.take i ++ ([("a.b" : Str)] : List Str) ++ ws.drop (i + 1)), J (ws.take i ++ ([("" : Str)] : List Str) ++ ws.drop (i + 1))] : List Str) = L at gh ⊢
    have l7 : L.length = 7 := by rw [← hL]; rfl
    generalize H ++ [D.lst (L.map .str)] = H2 at gh ⊢
    have q1 : cRepl " " "  " (cVar 1) (SE' p (J ws) ws i (.v (.loc H.length)) y) H2 = .ok (.str (Txt.replace (J ws) " " "  ")) H2 := by
      unfold cRepl
      rw [show cVar 1 (SE' p (J ws) ws i (.v (.loc H.length)) y) H2 = .ok (.str (J ws)) H2 from rfl, R.bind_ok]
      dsimp only
      rw [l2, decide_eq_true (show (J ws).length + ((J ws).length + 1) * 2 ≤ 16777216 by omega)]
      rfl
    have q4 : cRepl " " "\t" (cVar 1) (SE' p (J ws) ws i (.v (.loc H.length)) y) H2 = .ok (.str (Txt.replace (J ws) " " "\t")) H2 := by
      unfold cRepl
      rw [show cVar 1 (SE' p (J ws) ws i (.v (.loc H.length)) y) H2 = .ok (.str (J ws)) H2 from rfl, R.bind_ok]
      dsimp only
      rw [lt, decide_eq_true (show (J ws).length + ((J ws).length + 1) * 1 ≤ 16777216 by omega)]
      rfl
    have q2 := plusS (m1 := cVar 1) (m2 := cC (.str "\n")) (env := SE' p (J ws) ws i (.v (.loc H.length)) y) (H := H2) rfl rfl (by rw [ln]; omega)
    have ql : cLst (aCons (cRepl " " "  " (cVar 1)) (aCons (c2 oPlus (cVar 1) (cC (.str "\n"))) (aCons (cC (.str "")) (aCons (cRepl " " "\t" (cVar 1)) (aNil))))) (SE' p (J ws) ws i (.v (.loc H.length)) y) H2 = .ok (.lst (([Txt.replace (J ws) " " "  ", J ws ++ "\n", "", Txt.replace (J ws) " " "\t"] : List Str).map .str)) H2 := by
      unfold cLst
      rw [aCons_ok q1 (aCons_ok q2 (aCons_ok rfl (aCons_ok q4 rfl))), R.bind_ok]
      simp [z4]
    have fin : c2 oPlus (cVar 4) (cLst (aCons (cRepl " " "  " (cVar 1)) (aCons (c2 oPlus (cVar 1) (cC (.str "\n"))) (aCons (cC (.str "")) (aCons (cRepl " " "\t" (cVar 1)) (aNil)))))) (SE' p (J ws) ws i (.v (.loc H.length)) y) H2 = .ok (.lst ((L ++ [Txt.replace (J ws) " " "  ", J ws ++ "\n", "", Txt.replace (J ws) " " "\t"]).map .str)) H2 := by
      show ((cVar 4 _ H2).bind fun x h1 => (cLst _ _ h1).bind fun y h2 => oPlus x y h2) = _
      rw [show cVar 4 (SE' p (J ws) ws i (.v (.loc H.length)) y) H2 = .ok (.loc H.length) H2 from rfl, R.bind_ok, ql, R.bind_ok]
      unfold oPlus
      simp only [lstH, gh]
      rw [List.length_map, l7, List.map_append]
      simp [z11]
    unfold s4m sRet
    rw [fin]
    rfl
  · obtain ⟨A, B, g, r⟩ := P1
    rw [hH]
    exact ⟨A, B, app_get g, r⟩
end
end G

set_option Elab.async false
set_option linter.all false
set_option maxRecDepth 100000
set_option maxHeartbeats 1000000
/-! P82l: the plain law of k82: spoilt books are refused. -/
namespace G
open PySem PySem.Spec PyProof.Rows L2
theorem tb_len {ws : List Str} (h : ws.length ≠ 7) : toBk ws = none := by
  unfold toBk
  split
  · exact absurd rfl h
  · rfl
section
variable {a b c d e f g : Str}
theorem tb0 (h : decide (rp a ∈ ORD) = false) : toBk [a, b, c, d, e, f, g] = none := by unfold toBk; dsimp only; rw [h]; simp
theorem tb1 (h : decide (b ∈ GIV) = false) : toBk [a, b, c, d, e, f, g] = none := by unfold toBk; dsimp only; rw [h]; simp
theorem tb2 (h : decide (c ∈ ALS) = false) : toBk [a, b, c, d, e, f, g] = none := by unfold toBk; dsimp only; rw [h]; simp
theorem tb3 (h : decide (d ∈ BOD) = false) : toBk [a, b, c, d, e, f, g] = none := by unfold toBk; dsimp only; rw [h]; simp
theorem tb4 (h : decide (e ∈ SPR) = false) : toBk [a, b, c, d, e, f, g] = none := by unfold toBk; dsimp only; rw [h]; simp
theorem tb5 (h : (decide (f = "near") || decide (f = "far")) = false) : toBk [a, b, c, d, e, f, g] = none := by unfold toBk; dsimp only; rw [h]; rfl
theorem tb6 (h : (decide (g = "marked") || decide (g = "free")) = false) : toBk [a, b, c, d, e, f, g] = none := by unfold toBk; dsimp only; rw [h]; simp
end
def bad3 (w : Str) : List Str := [Txt.upper w, "a.b", ""]
theorem x0 : ∀ o ∈ ORD, ∀ w ∈ bad3 (dotO o), decide (rp w ∈ ORD) = false := by decide +kernel
theorem x1 : ∀ o ∈ GIV, ∀ w ∈ bad3 o, decide (w ∈ GIV) = false := by decide +kernel
theorem x2 : ∀ o ∈ ALS, ∀ w ∈ bad3 o, decide (w ∈ ALS) = false := by decide +kernel
theorem x3 : ∀ o ∈ BOD, ∀ w ∈ bad3 o, decide (w ∈ BOD) = false := by decide +kernel
theorem x4 : ∀ o ∈ SPR, ∀ w ∈ bad3 o, decide (w ∈ SPR) = false := by decide +kernel
theorem x5 : ∀ b : Bool, ∀ w ∈ bad3 (wN b), (decide (w = "near") || decide (w = "far")) = false := by decide +kernel
theorem x6 : ∀ b : Bool, ∀ w ∈ bad3 (wM b), (decide (w = "marked") || decide (w = "free")) = false := by decide +kernel
theorem ex_bad {B : Bk} (k : B.Ok) : ∀ i : Nat, i < 7 → ∀ w ∈ bad3 ((B.ws[i]?).getD ""), toBk (B.ws.take i ++ [w] ++ B.ws.drop (i + 1)) = none
  | 0, _, w, hw => tb0 (x0 _ k.o w hw)
  | 1, _, w, hw => tb1 (x1 _ k.g w hw)
  | 2, _, w, hw => tb2 (x2 _ k.a w hw)
  | 3, _, w, hw => tb3 (x3 _ k.b w hw)
  | 4, _, w, hw => tb4 (x4 _ k.s w hw)
  | 5, _, w, hw => tb5 (x5 _ w hw)
  | 6, _, w, hw => tb6 (x6 _ w hw)
  | n + 7, h, _, _ => absurd h (by omega)
/-- the words of a book -/
def wordOk (w : Str) : Bool := nsp w && (decide (w.length ≤ 40) && (decide ((Txt.upper w).length ≤ 100) && (nsp (Txt.upper w) && nsp (w ++ "\n"))))
theorem y0 : ∀ o ∈ ORD, wordOk (dotO o) = true := by decide +kernel
theorem y1 : ∀ o ∈ GIV ++ ALS ++ BOD ++ SPR, wordOk o = true := by decide +kernel
theorem y2 : ∀ b : Bool, wordOk (wN b) = true ∧ wordOk (wM b) = true := by decide +kernel
theorem Bk.Ok.word {B : Bk} (k : B.Ok) : ∀ w ∈ B.ws, wordOk w = true := by
  intro w hw
  simp only [Bk.ws, List.mem_cons, List.not_mem_nil, or_false] at hw
  rcases hw with rfl | rfl | rfl | rfl | rfl | rfl | rfl
  · exact y0 _ k.o
  · exact y1 _ (List.mem_append_left _ (List.mem_append_left _ (List.mem_append_left _ k.g)))
  · exact y1 _ (List.mem_append_left _ (List.mem_append_left _ (List.mem_append_right _ k.a)))
  · exact y1 _ (List.mem_append_left _ (List.mem_append_right _ k.b))
  · exact y1 _ (List.mem_append_right _ k.s)
  · exact (y2 _).1
  · exact (y2 _).2
theorem wd_of {ws : List Str} (h2 : 2 ≤ ws.length) (h7 : ws.length ≤ 7) (h : ∀ w ∈ ws, wordOk w = true) : Wd ws := by
  refine ⟨h2, h7, fun w hw => ?_, fun w hw => ?_, fun w hw => ?_⟩ <;> (have := h w hw; simp only [wordOk, Bool.and_eq_true, decide_eq_true_eq] at this)
  · exact this.1
  · exact this.2.1
  · exact this.2.2.1
theorem Bk.Ok.wd {B : Bk} (k : B.Ok) : Wd B.ws := wd_of (by show 2 ≤ 7; decide) (Nat.le_refl 7) k.word
/-- X is refused as a book -/
def RefB (X : Str) : Prop := X.length ≤ 1000 ∧ toBk (Txt.split X " ") = none
theorem refJ {ws : List Str} (h : ∀ w ∈ ws, nsp w = true ∧ w.length ≤ 100) (hl : ws.length ≤ 8) (hn : ws ≠ []) (ht : toBk ws = none) : RefB (J ws) := by
  refine ⟨?_, ?_⟩
  · have := len_J_le (n := 100) (ws := ws) fun w hw => (h w hw).2
    have h2 : ws.length * (100 + 1) ≤ 8 * 101 := Nat.mul_le_mul hl (Nat.le_refl _)
    omega
  · rw [split_J (fun w hw => (h w hw).1) hn]; exact ht
theorem refN {X : Str} (hl : X.length ≤ 1000) (h : ((Txt.split X " ").length : Int) ≠ 7) : RefB X := ⟨hl, tb_len (by omega)⟩
theorem repl_len (T z : Str) (ht : T.length ≤ 287) (hz : z.length ≤ 2) : (Txt.replace T " " z).length ≤ 1000 := by
  have := TK.replace_len T " " z
  have h2 : (T.length + 1) * z.length ≤ 288 * 2 := Nat.mul_le_mul (by omega) hz
  omega
section
variable {B : Bk} (k : B.Ok)
include k
theorem wq : ∀ w ∈ B.ws, nsp w = true ∧ w.length ≤ 100 := fun w hw => by
  have := k.word w hw
  simp only [wordOk, Bool.and_eq_true, decide_eq_true_eq] at this
  exact ⟨this.1, by omega⟩
theorem spoil_bad {i : Nat} (hi : i < 7) : ∀ X ∈ spoil B.ws i, RefB X := by
  have W := k.wd
  have q := wq k
  have js := J_short W
  have l7 : B.ws.length = 7 := rfl
  have ne : B.ws ≠ [] := fun e => by rw [e] at l7; simp at l7
  have qu : ∀ w ∈ bad3 ((B.ws[i]?).getD ""), nsp w = true ∧ w.length ≤ 100 := fun w hw => by
    have ei : B.ws[i]? = some B.ws[i] := List.getElem?_eq_getElem (by omega)
    rw [ei] at hw
    have wo := k.word _ (List.getElem_mem (show i < B.ws.length by omega))
    simp only [wordOk, Bool.and_eq_true, decide_eq_true_eq] at wo
    simp only [bad3, Option.getD_some, List.mem_cons, List.not_mem_nil, or_false] at hw
    rcases hw with rfl | rfl | rfl
    · exact ⟨wo.2.2.2.1, by omega⟩
    · exact ⟨by decide +kernel, by decide +kernel⟩
    · exact ⟨by decide +kernel, by decide +kernel⟩
  have exq : ∀ w ∈ bad3 ((B.ws[i]?).getD ""), RefB (J (B.ws.take i ++ [w] ++ B.ws.drop (i + 1))) := fun w hw => by
    refine refJ (fun v hv => ?_) (by simp only [List.length_append, List.length_take, List.length_drop, List.length_singleton]; omega) (by simp) (ex_bad k i hi w hw)
    rcases List.mem_append.mp hv with m | m
    · rcases List.mem_append.mp m with m | m
      · exact q v (mem_take' m)
      · rw [List.mem_singleton.mp m]; exact qu w hw
    · exact q v (mem_drop' m)
  intro X hX
  simp only [spoil, List.mem_cons, List.not_mem_nil, or_false] at hX
  rcases hX with rfl | rfl | rfl | rfl | rfl | rfl | rfl | rfl | rfl | rfl | rfl
  · have hl : (B.ws.take i ++ B.ws.drop (i + 1)).length = 6 := by simp only [List.length_append, List.length_take, List.length_drop]; omega
    refine refJ (fun v hv => ?_) (by omega) (fun e => by rw [e] at hl; simp at hl) (tb_len (by omega))
    rcases List.mem_append.mp hv with m | m
    · exact q v (mem_take' m)
    · exact q v (mem_drop' m)
  · have hl : (B.ws ++ B.ws.take 1).length = 8 := rfl
    refine refJ (fun v hv => ?_) (by omega) (fun e => by rw [e] at hl; simp at hl) (tb_len (by omega))
    rcases List.mem_append.mp hv with m | m
    · exact q v m
    · exact q v (mem_take' m)
  · rw [J_end ne]
    have hl : (B.ws ++ ([""] : List Str)).length = 8 := rfl
    refine refJ (fun v hv => ?_) (by omega) (fun e => by rw [e] at hl; simp at hl) (tb_len (by omega))
    rcases List.mem_append.mp hv with m | m
    · exact q v m
    · rw [List.mem_singleton.mp m]; exact ⟨by decide +kernel, by decide +kernel⟩
  · rw [J_front ne]
    have hl : (("" : Str) :: B.ws).length = 8 := rfl
    refine refJ (fun v hv => ?_) (by omega) (fun e => by rw [e] at hl; simp at hl) (tb_len (by omega))
    rcases List.mem_cons.mp hv with rfl | m
    · exact ⟨by decide +kernel, by decide +kernel⟩
    · exact q v m
  · exact exq _ (by simp [bad3])
  · exact exq _ (by simp [bad3])
  · exact exq _ (by simp [bad3])
  · refine refN (repl_len _ _ js (by decide +kernel)) ?_
    rw [len_dbl ne W.nsp, l7]; decide
  · have e : B.ws = [dotO B.o, B.g, B.a, B.b, B.s, wN B.n] ++ [wM B.m] := rfl
    rw [e, J_nl]
    have wo := k.word (wM B.m) (by simp [Bk.ws])
    simp only [wordOk, Bool.and_eq_true, decide_eq_true_eq] at wo
    have z6 : ∀ b : Bool, (decide (wM b ++ "\n" = "marked") || decide (wM b ++ "\n" = "free")) = false := by decide +kernel
    have zl : ∀ b : Bool, (wM b ++ "\n").length ≤ 100 := by decide +kernel
    refine refJ (fun v hv => ?_) (Nat.le_succ 7) (by simp) (tb6 (z6 _))
    rcases List.mem_append.mp hv with m | m
    · exact q v (by rw [e]; exact List.mem_append_left _ m)
    · rw [List.mem_singleton.mp m]; exact ⟨wo.2.2.2.2, zl _⟩
  · exact ⟨by decide +kernel, by decide +kernel⟩
  · refine refN (repl_len _ _ js (by decide +kernel)) ?_
    rw [len_tab ne W.nsp]; decide
/-- the law's own bad texts -/
def badT (B : Bk) : List Str := [Txt.replace (J B.ws) "." " ", J ([dotO B.o, B.g, B.a, B.b, B.s] ++ [wM B.m, wN B.n]), J B.ws.reverse, "book " ++ J B.ws, J ([Txt.replace (dotO B.o) "own" "one"] ++ B.ws.drop 1)]
theorem badT_bad : ∀ X ∈ badT B, X = J B.ws ∨ RefB X := by
  have W := k.wd
  have q := wq k
  have js := J_short W
  have l7 : B.ws.length = 7 := rfl
  have ne : B.ws ≠ [] := fun e => by rw [e] at l7; simp at l7
  intro X hX
  simp only [badT, List.mem_cons, List.not_mem_nil, or_false] at hX
  rcases hX with rfl | rfl | rfl | rfl | rfl
  · by_cases h : cnt 46 (TL.tl (J B.ws)) = 0
    · exact .inl (repl_none h)
    · refine .inr (refN ?_ ?_)
      · have := TK.replace_len (J B.ws) "." " "
        have l1 : Str.length " " = 1 := rfl
        rw [l1] at this
        omega
      · rw [len_dot ne W.nsp, l7]; omega
  · have z : ∀ b : Bool, (decide (wM b = "near") || decide (wM b = "far")) = false := by decide +kernel
    refine .inr (refJ (fun v hv => q v ?_) (Nat.le_succ 7) (by simp) (tb5 (z _)))
    simp only [List.cons_append, List.nil_append, List.mem_cons, List.not_mem_nil, or_false] at hv
    simp only [Bk.ws, List.mem_cons, List.not_mem_nil, or_false]
    rcases hv with h | h | h | h | h | h | h <;> simp [h]
  · have z : ∀ g ∈ GIV, (decide (g = "near") || decide (g = "far")) = false := by decide +kernel
    exact .inr (refJ (fun v hv => q v (List.mem_reverse.mp hv)) (Nat.le_succ 7) (by simpa using ne) (tb5 (z _ k.g)))
  · rw [J_book ne]
    refine .inr (refJ (fun v hv => ?_) (Nat.le_refl 8) (by simp) (tb_len (by show (8 : Nat) ≠ 7; decide)))
    rcases List.mem_cons.mp hv with rfl | m
    · exact ⟨by decide +kernel, by decide +kernel⟩
    · exact q v m
  · have z : ∀ o ∈ ORD, decide (rp (Txt.replace (dotO o) "own" "one") ∈ ORD) = false ∧ nsp (Txt.replace (dotO o) "own" "one") = true ∧ (Txt.replace (dotO o) "own" "one").length ≤ 100 := by decide +kernel
    obtain ⟨z1, z2, z3⟩ := z _ k.o
    refine .inr (refJ (fun v hv => ?_) (Nat.le_succ 7) (by simp) (tb0 z1))
    rcases List.mem_append.mp hv with m | m
    · rw [List.mem_singleton.mp m]; exact ⟨z2, z3⟩
    · exact q v (mem_drop' m)
end
end G

set_option Elab.async false
set_option linter.all false
set_option maxRecDepth 100000
set_option maxHeartbeats 1000000
/-! P82m: the plain law of k82: places. -/
namespace G
open PySem PySem.Spec PyProof.Rows L2
def plB : List Str → Bool
  | w :: xs => decide (wordLen w = xs.length + 1) && xs.all nmB
  | [] => false
theorem plB_cons (w : Str) (xs : List Str) : plB (w :: xs) = (decide (wordLen w = xs.length + 1) && xs.all nmB) := rfl
theorem Nq_parts {x : Str} (h : Nq x = true) : nmB x = true ∧ nsp x = true ∧ x.length ≤ 20 ∧ wordLen x = 0 ∧ nmB (Txt.upper x) = false ∧ nsp (Txt.upper x) = true ∧ nmB (x ++ "\n") = false ∧ nsp (x ++ "\n") = true ∧ (Txt.upper x).length ≤ 100 ∧ PyData.strOk x = true := by
  simp only [Nq, Bool.and_eq_true, decide_eq_true_eq, Bool.not_eq_true'] at h
  exact h
/-- the words of a place -/
structure Pl (ws : List Str) : Prop where
  ex : ∃ w x y, ws = w :: x :: y ∧ (w = "name" ∨ w = "member" ∨ w = "spread") ∧ Nq x = true ∧ (∀ z ∈ y, Nq z = true) ∧ wordLen w = (y.length : Int) + 2 ∧ (y.length = 1 ∨ y.length = 2)
theorem kinds : ∀ w ∈ (["name", "member", "spread"] : List Str), wordOk w = true ∧ ∀ v ∈ bad3 w, wordLen v = 0 := by decide +kernel
theorem kin {w : Str} (h : w = "name" ∨ w = "member" ∨ w = "spread") : w ∈ (["name", "member", "spread"] : List Str) := by
  rcases h with rfl | rfl | rfl <;> simp
theorem Pl.cons {ws : List Str} (P : Pl ws) : ∃ w xs, ws = w :: xs ∧ w ∈ (["name", "member", "spread"] : List Str) ∧ (∀ z ∈ xs, Nq z = true) ∧ wordLen w = (xs.length : Int) + 1 ∧ (xs.length = 2 ∨ xs.length = 3) := by
  obtain ⟨w, x, y, rfl, hw, hx, hy, hl, h2⟩ := P.ex
  refine ⟨w, x :: y, rfl, kin hw, fun z hz => ?_, by rw [hl, List.length_cons]; omega, by rw [List.length_cons]; omega⟩
  rcases List.mem_cons.mp hz with rfl | m
  · exact hx
  · exact hy z m
theorem Pl.wd {ws : List Str} (P : Pl ws) : Wd ws := by
  obtain ⟨w, xs, rfl, hw, hx, hl, h2⟩ := P.cons
  obtain ⟨k1, k2⟩ := kinds w hw
  simp only [wordOk, Bool.and_eq_true, decide_eq_true_eq] at k1
  refine ⟨by rw [List.length_cons]; omega, by rw [List.length_cons]; omega, fun v hv => ?_, fun v hv => ?_, fun v hv => ?_⟩ <;> rcases List.mem_cons.mp hv with rfl | m
  · exact k1.1
  · exact (Nq_parts (hx v m)).2.1
  · exact k1.2.1
  · have := (Nq_parts (hx v m)).2.2.1; omega
  · exact k1.2.2.1
  · exact (Nq_parts (hx v m)).2.2.2.2.2.2.2.2.1
/-- X is refused as a place -/
def RefP (X : Str) : Prop := X.length ≤ 1000 ∧ (Txt.split X " ").length ≤ 20 ∧ plB (Txt.split X " ") = false
theorem refPJ {ws : List Str} (h : ∀ w ∈ ws, nsp w = true ∧ w.length ≤ 100) (hl : ws.length ≤ 8) (hn : ws ≠ []) (ht : plB ws = false) : RefP (J ws) := by
  refine ⟨?_, ?_, ?_⟩
  · have := len_J_le (n := 100) (ws := ws) fun w hw => (h w hw).2
    have h2 : ws.length * (100 + 1) ≤ 8 * 101 := Nat.mul_le_mul hl (Nat.le_refl _)
    omega
  · rw [split_J (fun w hw => (h w hw).1) hn]; omega
  · rw [split_J (fun w hw => (h w hw).1) hn]; exact ht
theorem wl_le (w : Str) : wordLen w = 3 ∨ wordLen w = 4 ∨ wordLen w = 0 := by
  unfold wordLen
  split
  · exact .inl rfl
  · split
    · exact .inl rfl
    · split
      · exact .inr (.inl rfl)
      · exact .inr (.inr rfl)
theorem pl_len {ws : List Str} (h3 : (ws.length : Int) ≠ 3) (h4 : (ws.length : Int) ≠ 4) : plB ws = false := by
  cases ws with
  | nil => rfl
  | cons w xs =>
    rw [plB_cons]
    rw [List.length_cons] at h3 h4
    have : ¬ (wordLen w = (xs.length : Int) + 1) := by rcases wl_le w with e | e | e <;> rw [e] <;> omega
    rw [decide_eq_false this]
    rfl
theorem pl_ne {w : Str} {xs : List Str} (h : wordLen w ≠ (xs.length : Int) + 1) : plB (w :: xs) = false := by rw [plB_cons, decide_eq_false h]; rfl
theorem pl_nm {w x : Str} {xs : List Str} (hx : x ∈ xs) (h : nmB x = false) : plB (w :: xs) = false := by
  rw [plB_cons]
  have : xs.all nmB = false := List.all_eq_false.mpr ⟨x, hx, by rw [h]; decide⟩
  rw [this, Bool.and_false]
section
variable {ws : List Str} (P : Pl ws)
include P
theorem pq : ∀ w ∈ ws, nsp w = true ∧ w.length ≤ 100 := fun w hw => by
  have W := P.wd
  have := W.short w hw
  exact ⟨W.nsp w hw, by omega⟩
theorem spoilP_bad {i : Nat} (hi : i < ws.length) : ∀ X ∈ spoil ws i, RefP X := by
  have W := P.wd
  have q := pq P
  have js := J_short W
  obtain ⟨w, xs, e, hw, hx, hl, h2⟩ := P.cons
  obtain ⟨k1, k2⟩ := kinds w hw
  have ne : ws ≠ [] := by rw [e]; simp
  have lw : ws.length = xs.length + 1 := by rw [e]; rfl
  -- the words that are put in
  have ub : ∀ v ∈ bad3 ((ws[i]?).getD ""), nsp v = true ∧ v.length ≤ 100 ∧ (i = 0 → wordLen v = 0) ∧ (0 < i → nmB v = false) := fun v hv => by
    have ei : ws[i]? = some ws[i] := List.getElem?_eq_getElem hi
    rw [ei, Option.getD_some] at hv
    by_cases h0 : i = 0
    · subst h0
      have e0 : ws[0] = w := by simp only [e, List.getElem_cons_zero]
      rw [e0] at hv
      have kv := k2 v hv
      simp only [wordOk, Bool.and_eq_true, decide_eq_true_eq] at k1
      refine ⟨?_, ?_, fun _ => kv, fun h => absurd h (Nat.lt_irrefl 0)⟩
      · simp only [bad3, List.mem_cons, List.not_mem_nil, or_false] at hv
        rcases hv with rfl | rfl | rfl
        · exact k1.2.2.2.1
        · decide +kernel
        · decide +kernel
      · simp only [bad3, List.mem_cons, List.not_mem_nil, or_false] at hv
        rcases hv with rfl | rfl | rfl
        · exact k1.2.2.1
        · decide +kernel
        · decide +kernel
    · obtain ⟨j, rfl⟩ : ∃ j, i = j + 1 := ⟨i - 1, by omega⟩
      have hm : ws[j + 1] ∈ xs := by simp only [e, List.getElem_cons_succ]; exact List.getElem_mem _
      have np := (Nq_parts (hx _ hm))
      simp only [bad3, List.mem_cons, List.not_mem_nil, or_false] at hv
      rcases hv with rfl | rfl | rfl
      · exact ⟨np.2.2.2.2.2.1, np.2.2.2.2.2.2.2.2.1, fun h => absurd h h0, fun _ => np.2.2.2.2.1⟩
      · exact ⟨by decide +kernel, by decide +kernel, fun h => absurd h h0, fun _ => by decide +kernel⟩
      · exact ⟨by decide +kernel, by decide +kernel, fun h => absurd h h0, fun _ => by decide +kernel⟩
  have exq : ∀ v ∈ bad3 ((ws[i]?).getD ""), RefP (J (ws.take i ++ [v] ++ ws.drop (i + 1))) := fun v hv => by
    obtain ⟨u1, u2, u3, u4⟩ := ub v hv
    refine refPJ (fun z hz => ?_) (by simp only [List.length_append, List.length_take, List.length_drop, List.length_singleton]; omega) (by simp) ?_
    · rcases List.mem_append.mp hz with m | m
      · rcases List.mem_append.mp m with m | m
        · exact q z (mem_take' m)
        · rw [List.mem_singleton.mp m]; exact ⟨u1, u2⟩
      · exact q z (mem_drop' m)
    · by_cases h0 : i = 0
      · subst h0
        rw [e]
        show plB (v :: xs) = false
        exact pl_ne (by rw [u3 rfl]; omega)
      · obtain ⟨j, rfl⟩ : ∃ j, i = j + 1 := ⟨i - 1, by omega⟩
        rw [e]
        show plB (w :: (xs.take j ++ [v] ++ xs.drop (j + 1))) = false
        exact pl_nm (x := v) (by simp) (u4 (Nat.succ_pos j))
  intro X hX
  simp only [spoil, List.mem_cons, List.not_mem_nil, or_false] at hX
  rcases hX with rfl | rfl | rfl | rfl | rfl | rfl | rfl | rfl | rfl | rfl | rfl
  · refine refPJ (fun v hv => ?_) (by simp only [List.length_append, List.length_take, List.length_drop]; omega) (fun z => ?_) ?_
    · rcases List.mem_append.mp hv with m | m
      · exact q v (mem_take' m)
      · exact q v (mem_drop' m)
    · have := congrArg List.length z
      simp only [List.length_append, List.length_take, List.length_drop, List.length_nil] at this
      omega
    · by_cases h0 : i = 0
      · subst h0
        rw [e]
        show plB xs = false
        cases xs with
        | nil => rfl
        | cons x ys => exact pl_ne (by rw [(Nq_parts (hx x List.mem_cons_self)).2.2.2.1]; omega)
      · obtain ⟨j, rfl⟩ : ∃ j, i = j + 1 := ⟨i - 1, by omega⟩
        rw [e]
        show plB (w :: (xs.take j ++ xs.drop (j + 1))) = false
        refine pl_ne ?_
        rw [hl, List.length_append, List.length_take, List.length_drop]
        omega
  · refine refPJ (fun v hv => ?_) (by simp only [List.length_append, List.length_take]; omega) (by simp [ne]) ?_
    · rcases List.mem_append.mp hv with m | m
      · exact q v m
      · exact q v (mem_take' m)
    · rw [e]
      show plB (w :: (xs ++ [w])) = false
      exact pl_ne (by rw [hl, List.length_append, List.length_singleton]; omega)
  · rw [J_end ne]
    refine refPJ (fun v hv => ?_) (by simp only [List.length_append, List.length_singleton]; omega) (by simp) ?_
    · rcases List.mem_append.mp hv with m | m
      · exact q v m
      · rw [List.mem_singleton.mp m]; exact ⟨by decide +kernel, by decide +kernel⟩
    · rw [e]
      show plB (w :: (xs ++ ([""] : List Str))) = false
      exact pl_ne (by rw [hl, List.length_append, List.length_singleton]; omega)
  · rw [J_front ne]
    refine refPJ (fun v hv => ?_) (by simp only [List.length_cons]; omega) (by simp) ?_
    · rcases List.mem_cons.mp hv with rfl | m
      · exact ⟨by decide +kernel, by decide +kernel⟩
      · exact q v m
    · have z : wordLen "" = 0 := by decide +kernel
      exact pl_ne (by rw [z]; omega)
  · exact exq _ (by simp [bad3])
  · exact exq _ (by simp [bad3])
  · exact exq _ (by simp [bad3])
  · have ld := len_dbl ne W.nsp
    exact ⟨repl_len _ _ js (by decide +kernel), by omega, pl_len (by omega) (by omega)⟩
  · have hd : ∃ ini x, xs = ini ++ [x] := ⟨xs.dropLast, xs.getLast (fun z => by rw [z] at h2; simp at h2), (List.dropLast_concat_getLast _).symm⟩
    obtain ⟨ini, x, ex⟩ := hd
    have hxm : x ∈ xs := by rw [ex]; simp
    have np := (Nq_parts (hx x hxm))
    have e' : ws = (w :: ini) ++ [x] := by rw [e, ex]; rfl
    rw [e', J_nl]
    have ln : (x ++ "\n").length ≤ 100 := by
      rw [TL.len_tl, TL.tl_append, List.length_append, ← TL.len_tl, ← TL.len_tl]
      have : Str.length "\n" = 1 := rfl
      have := np.2.2.1
      omega
    have li : ini.length + 1 = xs.length := by rw [ex]; simp
    refine refPJ (fun v hv => ?_) (by simp only [List.length_append, List.length_cons, List.length_nil]; omega) (by simp) ?_
    · rcases List.mem_append.mp hv with m | m
      · exact q v (by rw [e']; exact List.mem_append_left _ m)
      · rw [List.mem_singleton.mp m]; exact ⟨np.2.2.2.2.2.2.2.1, ln⟩
    · show plB (w :: (ini ++ [x ++ "\n"])) = false
      exact pl_nm (x := x ++ "\n") (by simp) np.2.2.2.2.2.2.1
  · exact ⟨by decide +kernel, by decide +kernel, by decide +kernel⟩
  · have ld := len_tab ne W.nsp
    exact ⟨repl_len _ _ js (by decide +kernel), by omega, pl_len (by omega) (by omega)⟩
theorem pl_ok : plB ws = true := by
  obtain ⟨w, xs, e, hw, hx, hl, h2⟩ := P.cons
  rw [e, plB_cons]
  rw [decide_eq_true hl, Bool.true_and, List.all_eq_true]
  exact fun x m => (Nq_parts (hx x m)).1
end
/-! ### read_place -/
section
variable {h : List D} {s : Str}
theorem rp_exc {d : D} (ht : F_is_place [d] h = .ok (.bl false) h) {x : D} (e : cIf (cB (cIsi ty_str (cVar 0))) (cTupOf (cSplit (cVar 0) (cC (.str " ")))) (cTup (aNil)) [.v x, .u] h = .ok d h) : F_read_place [x] h = .exc "BadText" ["index"] [.non] h := by
  unfold F_read_place
  rw [runF1]
  unfold m_read_place
  rw [show (Sl.v x :: List.replicate (2 - 1) .u) = [.v x, .u] from rfl, sSeq_nx (env' := [.v x, .v d]) (h' := h) (by unfold sSet; rw [e]; rfl)]
  have q : (sIf (cNot (cB (cCall F_is_place (aCons (cVar 1) (aNil))))) (sRaise "BadText" "index" (cC .non)) (sNil)) [.v x, .v d] h = .exc "BadText" ["index"] [.non] [.v x, .v d] h := by
    simp [sIf, cNot, cB, cCall, aCons, aNil, cVar, ht, sRaise, cC]
  rw [sSeq_exc q]
  rfl
theorem sp_split (hs : s.length ≤ 1000) : cIf (cB (cIsi ty_str (cVar 0))) (cTupOf (cSplit (cVar 0) (cC (.str " ")))) (cTup (aNil)) [.v (.str s), .u] h = .ok (.tup ((Txt.split s " ").map .str)) h := by
  have hz : sizeLine = 16777216 := by decide
  have l1 : Str.length " " = 1 := rfl
  have t : cB (cIsi ty_str (cVar 0)) [.v (.str s), .u] h = .ok true h := rfl
  unfold cIf
  rw [t, R.bind_ok]
  dsimp only
  unfold cTupOf cSplit cVar cC
  simp only [List.getElem?_cons_zero, R.bind_ok]
  rw [l1, decide_eq_true (show 0 < 1 by omega), decide_eq_true (show s.length + 2 ≤ sizeLine by omega)]
  rfl
theorem is_pl {ws : List Str} (hl : ws.length ≤ 20) (hn : ws ≠ []) (hx : ∀ w ∈ ws, w.length ≤ 1000) : F_is_place [.tup (ws.map .str)] h = .ok (.bl (plB ws)) h := by
  have hz : sizeLine = 16777216 := by decide
  cases ws with
  | nil => exact absurd rfl hn
  | cons w xs =>
    have := is_place_tup (h := h) w xs (by rw [List.length_cons] at hl; omega) (fun x m => by have := hx x (List.mem_cons_of_mem _ m); omega)
    exact this
theorem read_bad (r : RefP s) : F_read_place [.str s] h = .exc "BadText" ["index"] [.non] h := by
  have q := is_pl (h := h) r.2.1 (fun e => by have := split_pos s " "; rw [e] at this; simp at this) (fun w hw => by have := split_short hw; have := r.1; omega)
  rw [r.2.2] at q
  exact rp_exc q (sp_split r.1)
theorem read_good {ws : List Str} (P : Pl ws) : F_read_place [.str (J ws)] h = .ok (.tup (ws.map .str)) h := by
  have W := P.wd
  have js := J_short W
  have few := W.few
  have two := W.two
  have ne : ws ≠ [] := fun e => by rw [e] at two; simp at two
  have q := is_pl (h := h) (ws := ws) (by omega) ne (fun w hw => by have := W.short w hw; omega)
  rw [pl_ok P] at q
  have sp := sp_split (h := h) (s := J ws) (by omega)
  rw [split_J W.nsp ne] at sp
  unfold F_read_place
  rw [runF1]
  unfold m_read_place
  rw [show (Sl.v (.str (J ws)) :: List.replicate (2 - 1) .u) = [.v (.str (J ws)), .u] from rfl, sSeq_nx (env' := [.v (.str (J ws)), .v (.tup (ws.map .str))]) (h' := h) (by unfold sSet; rw [sp]; rfl)]
  have q2 : (sIf (cNot (cB (cCall F_is_place (aCons (cVar 1) (aNil))))) (sRaise "BadText" "index" (cC .non)) (sNil)) [.v (.str (J ws)), .v (.tup (ws.map .str))] h = .nx [.v (.str (J ws)), .v (.tup (ws.map .str))] h := by
    simp [sIf, cNot, cB, cCall, aCons, aNil, cVar, q, sNil]
  rw [sSeq_nx q2]
  rfl
theorem empty_pl : F_is_place [.tup []] h = .ok (.bl false) h := by kernel_rfl
theorem read_no {d : D} (t : cB (cIsi ty_str (cVar 0)) [.v d, .u] h = .ok false h) : F_read_place [d] h = .exc "BadText" ["index"] [.non] h := by
  refine rp_exc empty_pl ?_
  unfold cIf
  rw [t, R.bind_ok]
  dsimp only
  have hz : sizeLine = 16777216 := by decide
  simp [cTup, aNil]
theorem wplace_ok {ws : List Str} (W : Wd ws) : F_write_place [.tup (ws.map .str)] h = .ok (.str (J ws)) h := by
  have q := join_ok (m := cVar 0) (env := [.v (.tup (ws.map .str))]) (h := h) (d := .tup (ws.map .str)) (ys := ws) rfl rfl (by
    have := sum_short W.short
    have f := W.few
    have h2 : ws.length * 40 ≤ 7 * 40 := Nat.mul_le_mul_right _ f
    omega)
  unfold F_write_place
  rw [runF1]
  unfold m_write_place sRet
  show ((cJoin (cC (.str " ")) (cVar 0) [.v (.tup (ws.map .str))] h).thenS _ _).toR = _
  rw [q]
  rfl
end
end G

set_option Elab.async false
set_option linter.all false
set_option maxRecDepth 100000
set_option maxHeartbeats 1000000
/-! P82n: the plain law of k82: the law. -/
namespace G
open PySem PySem.Spec PyProof.Rows L2
abbrev LE (ns : List Int) (s2 s3 s4 s5 s6 s7 s8 s9 s10 : Sl) : List Sl := [.v (.scr ns), .v (.loc 0), s2, s3, s4, s5, s6, s7, s8, s9, s10, .u]
def lBody (b : Bool) : MS := sIf (cB (c2 (oEq true) (cCall F_law_refused (aCons (cVar 4) (aCons (cC (.bl b)) (aNil)))) (cLst (aCons (cC .non) (aNil))))) (sRet (cC (.bl false))) (sNil)
theorem non_eq {h : List D} : oEq true (.lst [.non]) (.lst [.non]) h = .ok (.bl false) h := by kernel_rfl
theorem body_ok {b : Bool} {env : List Sl} {h t : List D} {d : D} (e4 : env[4]? = some (.v d)) (r : F_law_refused [d, .bl b] h = .ok (.lst [.non]) (h ++ t)) : lBody b env h = .nx env (h ++ t) := by
  have hz : sizeLine = 16777216 := by decide
  have z1 : (1 : Nat) ≤ sizeLine := by omega
  have ev : cVar 4 env h = .ok d h := by unfold cVar; rw [e4]
  have ec : cCall F_law_refused (aCons (cVar 4) (aCons (cC (.bl b)) (aNil))) env h = .ok (.lst [.non]) (h ++ t) := by
    show ((aCons _ _ env h).bind fun ds h1 => F_law_refused ds h1) = _
    rw [aCons_ok ev (aCons_ok (m := cC (.bl b)) (d := .bl b) (H := h) rfl rfl), R.bind_ok]
    exact r
  have el : cLst (aCons (cC .non) aNil) env (h ++ t) = .ok (.lst [.non]) (h ++ t) := by simp [cLst, aCons, aNil, cC, z1]
  have e : cB (c2 (oEq true) (cCall F_law_refused (aCons (cVar 4) (aCons (cC (.bl b)) (aNil)))) (cLst (aCons (cC .non) (aNil)))) env h = .ok false (h ++ t) := by
    unfold cB
    show (((cCall _ _ env h).bind fun x h1 => (cLst _ env h1).bind fun y h2 => oEq true x y h2).bind _) = _
    rw [ec, R.bind_ok, el, R.bind_ok, non_eq, R.bind_ok]
  unfold lBody sIf
  rw [e, R.thenS_ok]
  rfl
theorem loop_ok {b : Bool} {ns : List Int} {s2 s3 s5 s6 s7 s8 s9 s10 : Sl} {H : List D} : ∀ (items : List D) (s4 : Sl) (t : List D), (∀ d ∈ items, ∀ t, ∃ t', F_law_refused [d, .bl b] (H ++ t) = .ok (.lst [.non]) (H ++ t ++ t')) →
    ∃ (s4' : Sl) (t' : List D), forGo (gN 4) (lBody b) items (LE ns s2 s3 s4 s5 s6 s7 s8 s9 s10) (H ++ t) = .nx (LE ns s2 s3 s4' s5 s6 s7 s8 s9 s10) (H ++ t') ∧ (s4' = s4 ∨ ∃ d, s4' = .v d)
  | [], s4, t, _ => ⟨s4, t, rfl, .inl rfl⟩
  | d :: items, s4, t, hs => by
    obtain ⟨t1, e1⟩ := hs d List.mem_cons_self t
    obtain ⟨s4', t', e2, q⟩ := loop_ok items (.v d) (t ++ t1) fun x hx => hs x (List.mem_cons_of_mem _ hx)
    refine ⟨s4', t', ?_, ?_⟩
    · rw [forGo_nx (env1 := LE ns s2 s3 (.v d) s5 s6 s7 s8 s9 s10) rfl (body_ok rfl e1), List.append_assoc]
      exact e2
    · rcases q with rfl | q
      · exact .inr ⟨d, rfl⟩
      · exact .inr q
/-! ### what is refused as a book -/
theorem refused_str {H : List D} {X : Str} (r : RefB X) : ∃ t, F_law_refused [.str X, .bl true] H = .ok (.lst [.non]) (H ++ t) := by
  obtain ⟨t, e⟩ := rb_none (h := H) r.1 r.2
  exact ⟨t, rf_book e⟩
theorem refused_no {H : List D} {d : D} (hd : cIsiO (isiT io2_t io2_o) (cVar 0) [.v d, .u] H = .ok (.bl false) H) : ∃ t, F_law_refused [d, .bl true] H = .ok (.lst [.non]) (H ++ t) := by
  refine ⟨[], rf_book ?_⟩
  rw [rb_no hd, List.append_nil]
theorem isi_book {H : List D} {n : Nat} {B : Bk} (b : BookAt H n B) : cIsiO (isiT io2_t io2_o) (cVar 0) [.v (.loc n), .u] H = .ok (.bl false) H := by
  obtain ⟨ds, ho⟩ := BookAt.obj b
  unfold cIsiO cVar
  simp only [List.getElem?_cons_zero, R.bind_ok]
  unfold tyO
  rw [ho]
  rfl
theorem BookAt.set {H : List D} {n p : Nat} {B : Bk} {d : D} (P : Pool H p) (b : BookAt H n B) : BookAt (H.set p d) n B := by
  obtain ⟨A, C, g, _⟩ := P
  obtain ⟨m, c1, c2⟩ := b
  refine ⟨m, ?_, ?_⟩
  · rw [set_ne (fun e => by subst e; rw [g] at c1; cases c1)]; exact c1
  · rw [set_ne (fun e => by subst e; rw [g] at c2; cases c2)]; exact c2
theorem Pool.app {h t : List D} {p : Nat} (P : Pool h p) : Pool (h ++ t) p := by
  obtain ⟨A, B, g, r⟩ := P
  exact ⟨A, B, app_get g, r⟩
theorem Pool.lt {h : List D} {p : Nat} (P : Pool h p) : p < h.length := by
  obtain ⟨A, B, g, r⟩ := P
  exact (List.getElem?_eq_some_iff.mp g).1
/-! ### the law's steps -/
def a0 : MS := sSet 1 (cCall F_law_pool_of (aCons (cVar 0) (aCons (cC (.int 0)) (aNil))))
def a1 : MS := sPar 8 9 (aCons (cCall F_law_rules_of (aCons (cCall F_law_pool_of (aCons (cVar 0) (aCons (cC (.int 1)) (aNil)))) (aNil))) (aCons (cCall F_law_names_of (aCons (cVar 1) (aCons (cC (.int 3)) (aNil)))) (aNil)))
def a2 : MS := sAsg (gT 2 (gsC (gN 7) (gsC (gN 10) (gsN)))) (cTup (aCons (cCall F_law_book_text (aCons (cVar 8) (aNil))) (aCons (cCall F_law_made_book (aCons (cVar 8) (aNil))) (aNil))))
def a3 : MS := sIf (cOr (cB (c2 (oEq true) (cCall F_write_book (aCons (cVar 10) (aNil))) (cVar 7))) (cB (c2 (oEqO "Book" F_Book___eq__ true) (cCall F_read_book (aCons (cVar 7) (aNil))) (cVar 10)))) (sRet (cC (.bl false))) (sNil)
def a4 : MS := sSet 2 (cSplit (cVar 7) (cC (.str " ")))
def a5 : MS := sSet 3 (cLst (aCons (cRepl "." " " (cVar 7)) (aCons (cJoin (cC (.str " ")) (c2 oPlus (cSl (cVar 2) (oNone) (oSome (cC (.int 5)))) (cLst (aCons (c2 oIx (cVar 2) (cC (.int 6))) (aCons (c2 oIx (cVar 2) (cC (.int 5))) (aNil)))))) (aCons (cJoin (cC (.str " ")) (cRev (cVar 2))) (aCons (c2 oPlus (cC (.str "book ")) (cVar 7)) (aNil))))))
def a6 : MS := sSet 3 (c2 oPlus (cVar 3) (cLst (aCons (cJoin (cC (.str " ")) (c2 oPlus (cLst (aCons (cRepl "own" "one" (c2 oIx (cVar 2) (cC (.int 0)))) (aNil))) (cSl (cVar 2) (oSome (cC (.int 1))) (oNone)))) (aNil))))
def a7c : ME := cLc (iSeq (c2 oPlus (cVar 3) (cCall F_law_spoilt (aCons (cVar 1) (aCons (cVar 7) (aNil)))))) (gN 11) (cB (c2 (oEq true) (cVar 11) (cVar 7))) (cVar 11) [11]
def a7i : MA := iSeq (c2 oPlus a7c (cLst (aCons (cC .non) (aCons (cC (.int 1)) (aCons (cLst (aNil)) (aCons (cVar 2) (aCons (cVar 10) (aNil))))))))
def a8 : MS := sSet 5 (cLst (aCons (cTup (aCons (cC (.str "name")) (aCons (c2 oIx (cVar 9) (cC (.int 0))) (aCons (c2 oIx (cVar 9) (cC (.int 1))) (aNil))))) (aCons (cTup (aCons (cC (.str "member")) (aCons (c2 oIx (cVar 9) (cC (.int 0))) (aCons (c2 oIx (cVar 9) (cC (.int 1))) (aNil))))) (aCons (cTup (aCons (cC (.str "spread")) (aCons (c2 oIx (cVar 9) (cC (.int 0))) (aCons (c2 oIx (cVar 9) (cC (.int 1))) (aCons (c2 oIx (cVar 9) (cC (.int 2))) (aNil)))))) (aNil)))))
def a9 : MS := sSet 6 (cCall F_law_pick (aCons (cVar 1) (aCons (cVar 5) (aNil))))
def a10 : MS := sSet 7 (cCall F_write_place (aCons (cVar 6) (aNil)))
def a11 : MS := sIf (cOr (cB (c2 (oEq true) (cVar 7) (cJoin (cC (.str " ")) (cCall (f1 listD) (aCons (cVar 6) (aNil)))))) (cOr (cB (c2 (oEq true) (cCall F_read_place (aCons (cVar 7) (aNil))) (cVar 6))) (cNot (cB (cIsi ty_tuple (cCall F_read_place (aCons (cVar 7) (aNil)))))))) (sRet (cC (.bl false))) (sNil)
def a12i : MA := iSeq (c2 oPlus (cCall F_law_spoilt (aCons (cVar 1) (aCons (cVar 7) (aNil)))) (cLst (aCons (cC (.str "of a b")) (aCons (cC (.str "name a b c")) (aCons (cC (.str "spread a b")) (aCons (cC (.str "name a 1")) (aCons (cVar 6) (aCons (cC .non) (aNil)))))))))
theorem law_eq : m_law = sSeq a0 (sSeq a1 (sSeq a2 (sSeq a3 (sSeq a4 (sSeq a5 (sSeq a6 (sSeq (sFor a7i (gN 4) (lBody true)) (sSeq a8 (sSeq a9 (sSeq a10 (sSeq a11 (sSeq (sFor a12i (gN 4) (lBody false)) (sRet (cC (.bl true))))))))))))))) := rfl
section
variable {ns : List Int} {s2 s3 s4 s5 s6 s7 s8 s9 s10 : Sl} {H : List D} {B : Bk} {n : Nat} {xs : List Str}
theorem a01_ok : ∃ (H : List D) (B : Bk) (xs : List Str), (∀ r, (sSeq a0 (sSeq a1 r)) (.v (.scr ns) :: List.replicate 11 .u) [] = r (LE ns .u .u .u .u .u .u (.v (.loc 2)) (.v (.lst (xs.map .str))) .u) H) ∧ Pool H 0 ∧ H[2]? = some (.dic RK B.rv) ∧ B.Ok ∧ xs.length = 3 ∧ ∀ x ∈ xs, Nq x = true := by
  obtain ⟨c0, e0, P0⟩ := pool_ok (ns := ns) (h := []) (k := 0) (by decide) (by decide)
  have q0 : a0 (.v (.scr ns) :: List.replicate 11 .u) [] = .nx (LE ns .u .u .u .u .u .u .u .u .u) [c0] := by
    have e0' : F_law_pool_of [.scr ns, .int 0] [] = .ok (.loc 0) [c0] := e0
    unfold a0 sSet
    show R.thenS ((aCons (cVar 0) (aCons (cC (.int 0)) aNil) _ []).bind fun ds h1 => F_law_pool_of ds h1) _ _ = _
    rw [aCons_ok (m := cVar 0) (d := .scr ns) (H := []) rfl (aCons_ok (m := cC (.int 0)) (d := .int 0) (H := []) rfl rfl), R.bind_ok, e0']
    rfl
  have P0' : Pool [c0] 0 := P0
  obtain ⟨c1, e1, P1⟩ := pool_ok (ns := ns) (h := [c0]) (k := 1) (by decide) (by decide)
  have e1' : F_law_pool_of [.scr ns, .int 1] [c0] = .ok (.loc 1) [c0, c1] := e1
  have P1' : Pool [c0, c1] 1 := P1
  obtain ⟨B, d, e2, ok, P2⟩ := rules_ok P1'
  have e2' : F_law_rules_of [.loc 1] [c0, c1] = .ok (.loc 2) ([c0, d] ++ [D.dic RK B.rv]) := e2
  have P3 : Pool ([c0, d] ++ [D.dic RK B.rv]) 0 := (P0'.app (t := [d])).app (t := [D.dic RK B.rv])
  obtain ⟨xs, c3, e3, hl, hx, P4⟩ := names_of_ok P3
  refine ⟨_, B, xs, fun r => ?_, P4, rfl, ok, hl, hx⟩
  rw [sSeq_nx q0, sSeq_nx (env' := LE ns .u .u .u .u .u .u (.v (.loc 2)) (.v (.lst (xs.map .str))) .u) (h' := ([c0, d] ++ [D.dic RK B.rv]).set 0 c3)]
  unfold a1 sPar
  have p : cCall F_law_pool_of (aCons (cVar 0) (aCons (cC (.int 1)) (aNil))) (LE ns .u .u .u .u .u .u .u .u .u) [c0] = .ok (.loc 1) [c0, c1] := by
    show ((aCons (cVar 0) (aCons (cC (.int 1)) aNil) _ [c0]).bind fun ds h1 => F_law_pool_of ds h1) = _
    rw [aCons_ok (m := cVar 0) (d := .scr ns) (H := [c0]) rfl (aCons_ok (m := cC (.int 1)) (d := .int 1) (H := [c0]) rfl rfl), R.bind_ok, e1']
  have q : cCall F_law_rules_of (aCons (cCall F_law_pool_of (aCons (cVar 0) (aCons (cC (.int 1)) (aNil)))) (aNil)) (LE ns .u .u .u .u .u .u .u .u .u) [c0] = .ok (.loc 2) ([c0, d] ++ [D.dic RK B.rv]) := by
    show ((aCons (cCall F_law_pool_of (aCons (cVar 0) (aCons (cC (.int 1)) (aNil)))) aNil _ [c0]).bind fun ds h1 => F_law_rules_of ds h1) = _
    rw [aCons_ok p rfl, R.bind_ok, e2']
  have w : cCall F_law_names_of (aCons (cVar 1) (aCons (cC (.int 3)) (aNil))) (LE ns .u .u .u .u .u .u .u .u .u) ([c0, d] ++ [D.dic RK B.rv]) = .ok (.lst (xs.map .str)) (([c0, d] ++ [D.dic RK B.rv]).set 0 c3) := by
    show ((aCons (cVar 1) (aCons (cC (.int 3)) aNil) _ ([c0, d] ++ [D.dic RK B.rv])).bind fun ds h1 => F_law_names_of ds h1) = _
    rw [aCons_ok (m := cVar 1) (d := .loc 0) (H := [c0, d] ++ [D.dic RK B.rv]) rfl (aCons_ok (m := cC (.int 3)) (d := .int 3) (H := [c0, d] ++ [D.dic RK B.rv]) rfl rfl), R.bind_ok, e3]
  rw [aCons_ok q (aCons_ok w rfl), R.thenS_ok]
  rfl
theorem a2_ok (k : B.Ok) (hr : H[2]? = some (.dic RK B.rv)) (P : Pool H 0) : ∃ (n : Nat) (t : List D), a2 (LE ns .u .u .u .u .u .u (.v (.loc 2)) s9 .u) H = .nx (LE ns .u .u .u .u .u (.v (.str (J B.ws))) (.v (.loc 2)) s9 (.v (.loc n))) (H ++ t) ∧ BookAt (H ++ t) n B := by
  have hz : sizeLine = 16777216 := by decide
  have z2 : (2 : Nat) ≤ sizeLine := by omega
  have d1 : dicOf H (.loc 2) = some (RK, B.rv) := by unfold dicOf; simp only [hr]
  have e1 := text_ok k d1
  obtain ⟨n, t, e2, b⟩ := made_ok k hr
  refine ⟨n, t, ?_, b⟩
  have q1 : cCall F_law_book_text (aCons (cVar 8) (aNil)) (LE ns .u .u .u .u .u .u (.v (.loc 2)) s9 .u) H = .ok (.str (J B.ws)) H := by
    show ((aCons (cVar 8) aNil _ H).bind fun ds h1 => F_law_book_text ds h1) = _
    rw [aCons_ok (m := cVar 8) (d := .loc 2) (H := H) rfl rfl, R.bind_ok, e1]
  have q2 : cCall F_law_made_book (aCons (cVar 8) (aNil)) (LE ns .u .u .u .u .u .u (.v (.loc 2)) s9 .u) H = .ok (.loc n) (H ++ t) := by
    show ((aCons (cVar 8) aNil _ H).bind fun ds h1 => F_law_made_book ds h1) = _
    rw [aCons_ok (m := cVar 8) (d := .loc 2) (H := H) rfl rfl, R.bind_ok, e2]
  unfold a2 sAsg cTup
  rw [aCons_ok q1 (aCons_ok q2 rfl), R.bind_ok, if_pos (by simpa using z2), R.thenS_ok]
  rfl
theorem toBk_ws (k : B.Ok) : toBk B.ws = some B := by
  have z0 : ∀ o ∈ ORD, rp (dotO o) = o := by decide +kernel
  have zn : ∀ b : Bool, (decide (wN b = "near") || decide (wN b = "far")) = true ∧ decide (wN b = "near") = b := by decide +kernel
  have zm : ∀ b : Bool, (decide (wM b = "marked") || decide (wM b = "free")) = true ∧ decide (wM b = "marked") = b := by decide +kernel
  show (bif (decide (wN B.n = "near") || decide (wN B.n = "far")) && ((decide (wM B.m = "marked") || decide (wM B.m = "free")) && (decide (rp (dotO B.o) ∈ ORD) && (decide (B.g ∈ GIV) && (decide (B.a ∈ ALS) && (decide (B.b ∈ BOD) && decide (B.s ∈ SPR)))))) then some (⟨rp (dotO B.o), B.g, B.a, B.b, B.s, decide (wN B.n = "near"), decide (wM B.m = "marked")⟩ : Bk) else none) = _
  rw [(zn _).1, (zm _).1, (zn _).2, (zm _).2, z0 _ k.o, decide_eq_true k.o, decide_eq_true k.g, decide_eq_true k.a, decide_eq_true k.b, decide_eq_true k.s]
  rfl
abbrev E3 (ns : List Int) (B : Bk) (s9 : Sl) (n : Nat) : List Sl := LE ns .u .u .u .u .u (.v (.str (J B.ws))) (.v (.loc 2)) s9 (.v (.loc n))
theorem a3_ok (k : B.Ok) (b : BookAt H n B) : ∃ t, a3 (E3 ns B s9 n) H = .nx (E3 ns B s9 n) (H ++ t) := by
  have W := k.wd
  have js := J_short W
  have l7 : B.ws.length = 7 := rfl
  have ne : B.ws ≠ [] := fun e => by rw [e] at l7; simp at l7
  have e1 := write_ok k b
  obtain ⟨t, e2⟩ := rb_some (h := H) (s := J B.ws) (B := B) (by omega) (by rw [split_J W.nsp ne]; exact toBk_ws k)
  refine ⟨t ++ bookD (H ++ t).length B, ?_⟩
  have b2 : BookAt (H ++ t ++ bookD (H ++ t).length B) n B := b.app.app
  have b3 : BookAt (H ++ t ++ bookD (H ++ t).length B) (H ++ t).length B := bookAt_new rfl
  have e3 := eq_ok b3 b2
  have t1 : cB (c2 (oEq true) (cCall F_write_book (aCons (cVar 10) (aNil))) (cVar 7)) (E3 ns B s9 n) H = .ok false H := by
    have q : cCall F_write_book (aCons (cVar 10) (aNil)) (E3 ns B s9 n) H = .ok (.str (J B.ws)) H := by
      show ((aCons (cVar 10) aNil _ H).bind fun ds h1 => F_write_book ds h1) = _
      rw [aCons_ok (m := cVar 10) (d := .loc n) (H := H) rfl rfl, R.bind_ok, e1]
    unfold cB
    show (((cCall F_write_book (aCons (cVar 10) (aNil)) _ H).bind fun x h1 => (cVar 7 _ h1).bind fun y h2 => oEq true x y h2).bind _) = _
    rw [q, R.bind_ok, show cVar 7 (E3 ns B s9 n) H = .ok (.str (J B.ws)) H from rfl, R.bind_ok]
    simp [oEq]
  have t2 : cB (c2 (oEqO "Book" F_Book___eq__ true) (cCall F_read_book (aCons (cVar 7) (aNil))) (cVar 10)) (E3 ns B s9 n) H = .ok false (H ++ t ++ bookD (H ++ t).length B) := by
    have q : cCall F_read_book (aCons (cVar 7) (aNil)) (E3 ns B s9 n) H = .ok (.loc (H ++ t).length) (H ++ t ++ bookD (H ++ t).length B) := by
      show ((aCons (cVar 7) aNil _ H).bind fun ds h1 => F_read_book ds h1) = _
      rw [aCons_ok (m := cVar 7) (d := .str (J B.ws)) (H := H) rfl rfl, R.bind_ok, e2]
    obtain ⟨d1, o1⟩ := BookAt.obj b3
    obtain ⟨d2, o2⟩ := BookAt.obj b2
    unfold cB
    show (((cCall F_read_book (aCons (cVar 7) (aNil)) _ H).bind fun x h1 => (cVar 10 _ h1).bind fun y h2 => oEqO "Book" F_Book___eq__ true x y h2).bind _) = _
    rw [q, R.bind_ok, show cVar 10 (E3 ns B s9 n) (H ++ t ++ bookD (H ++ t).length B) = .ok (.loc n) (H ++ t ++ bookD (H ++ t).length B) from rfl, R.bind_ok]
    unfold oEqO
    rw [o1, o2]
    dsimp only
    rw [e3]
    rfl
  unfold a3 sIf cOr
  rw [t1, R.bind_ok]
  dsimp only
  rw [t2, R.thenS_ok, ← List.append_assoc]
  rfl
theorem a4_ok (k : B.Ok) : a4 (E3 ns B s9 n) H = .nx (LE ns (.v (.lst (B.ws.map .str))) .u .u .u .u (.v (.str (J B.ws))) (.v (.loc 2)) s9 (.v (.loc n))) H := by
  have hz : sizeLine = 16777216 := by decide
  have W := k.wd
  have js := J_short W
  have l7 : B.ws.length = 7 := rfl
  have ne : B.ws ≠ [] := fun e => by rw [e] at l7; simp at l7
  have l1 : Str.length " " = 1 := rfl
  unfold a4 sSet cSplit cVar cC
  simp only [List.getElem?_cons_succ, List.getElem?_cons_zero, R.bind_ok]
  rw [l1, decide_eq_true (show 0 < 1 by omega), decide_eq_true (show (J B.ws).length + 2 ≤ sizeLine by omega), split_J W.nsp ne]
  rfl
end
end G

set_option Elab.async false
set_option linter.all false
set_option maxRecDepth 100000
set_option maxHeartbeats 1000000
/-! P82o: the plain law of k82: the books' half of the law. -/
namespace G
open PySem PySem.Spec PyProof.Rows L2
section
variable {ns : List Int} {s2 s3 s4 s5 s6 s7 s8 s9 s10 : Sl} {H : List D} {B : Bk} {n : Nat} {xs : List Str}
abbrev E4 (ns : List Int) (B : Bk) (s3 s4 s9 : Sl) (n : Nat) : List Sl := LE ns (.v (.lst (B.ws.map .str))) s3 s4 .u .u (.v (.str (J B.ws))) (.v (.loc 2)) s9 (.v (.loc n))
theorem ixL {env : List Sl} {i j : Nat} {L : List D} {d : D} (e : env[j]? = some (.v (.lst L))) (hi : L[i]? = some d) : c2 oIx (cVar j) (cC (.int i)) env H = .ok d H := by
  have hl := (List.getElem?_eq_some_iff.mp hi).1
  have ha : atI L (i : Int) = some d := by
    unfold atI ixN
    rw [if_pos (by omega), if_pos (by omega)]
    exact hi
  unfold c2 cVar cC
  rw [e]
  simp [oIx, dicOf, seqOf, lstOf, tupOf, ha]
theorem cLst_ok {t : MA} {env : List Sl} {ds : List D} (e : t env H = .ok ds H) (hl : ds.length ≤ 1000) : cLst t env H = .ok (.lst ds) H := by
  have hz : sizeLine = 16777216 := by decide
  unfold cLst
  rw [e, R.bind_ok, if_pos (by omega)]
theorem a5_ok (k : B.Ok) : a5 (E4 ns B .u .u s9 n) H = .nx (E4 ns B (.v (.lst (((badT B).take 4).map .str))) .u s9 n) H := by
  have W := k.wd
  have js := J_short W
  have sh := k.short
  have l7 : B.ws.length = 7 := rfl
  have l1 : Str.length " " = 1 := rfl
  have lb : Str.length "book " = 5 := rfl
  have e1 : cRepl "." " " (cVar 7) (E4 ns B .u .u s9 n) H = .ok (.str (Txt.replace (J B.ws) "." " ")) H := by
    unfold cRepl
    rw [show cVar 7 (E4 ns B .u .u s9 n) H = .ok (.str (J B.ws)) H from rfl, R.bind_ok]
    dsimp only
    rw [l1, decide_eq_true (show (J B.ws).length + ((J B.ws).length + 1) * 1 ≤ 16777216 by omega)]
    rfl
  have i6 := ixL (H := H) (env := E4 ns B .u .u s9 n) (i := 6) (j := 2) (L := B.ws.map .str) (d := .str (wM B.m)) rfl rfl
  have i5 := ixL (H := H) (env := E4 ns B .u .u s9 n) (i := 5) (j := 2) (L := B.ws.map .str) (d := .str (wN B.n)) rfl rfl
  have eL : cLst (aCons (c2 oIx (cVar 2) (cC (.int 6))) (aCons (c2 oIx (cVar 2) (cC (.int 5))) (aNil))) (E4 ns B .u .u s9 n) H = .ok (.lst (([wM B.m, wN B.n] : List Str).map .str)) H := cLst_ok (aCons_ok i6 (aCons_ok i5 rfl)) (by simp)
  have eA : cSl (cVar 2) oNone (oSome (cC (.int 5))) (E4 ns B .u .u s9 n) H = .ok (.lst ((B.ws.take 5).map .str)) H := slA (ws := B.ws) (i := 5) rfl rfl (by omega)
  have e2 := plusL eA eL (by simp [l7])
  rw [mapapp] at e2
  have e2' := joinW e2 (by simp [l7]) (fun w hw => by
    rcases List.mem_append.mp hw with m | m
    · have := sh w (List.mem_of_mem_take m); omega
    · have : w ∈ B.ws := by
        simp only [List.mem_cons, List.not_mem_nil, or_false] at m
        rcases m with rfl | rfl <;> simp [Bk.ws]
      have := sh w this; omega)
  have eR : cRev (cVar 2) (E4 ns B .u .u s9 n) H = .ok (.lst (B.ws.reverse.map .str)) H := by
    unfold cRev
    rw [show cVar 2 (E4 ns B .u .u s9 n) H = .ok (.lst (B.ws.map .str)) H from rfl, R.bind_ok]
    unfold lstOf
    dsimp only
    rw [List.map_reverse]
  have e3 := joinW eR (by simp [l7]) (fun w hw => by have := sh w (List.mem_reverse.mp hw); omega)
  have e4 := plusS (m1 := cC (.str "book ")) (m2 := cVar 7) (env := E4 ns B .u .u s9 n) (H := H) (x := "book ") (y := J B.ws) rfl rfl (by rw [lb]; omega)
  unfold a5 sSet
  rw [cLst_ok (aCons_ok e1 (aCons_ok e2' (aCons_ok e3 (aCons_ok e4 rfl)))) (by simp)]
  rfl
theorem a6_ok (k : B.Ok) : a6 (E4 ns B (.v (.lst (((badT B).take 4).map .str))) .u s9 n) H = .nx (E4 ns B (.v (.lst ((badT B).map .str))) .u s9 n) H := by
  have sh := k.short
  have l7 : B.ws.length = 7 := rfl
  have l3 : Str.length "one" = 3 := rfl
  have lo := dot_short _ k.o
  have i0 := ixL (H := H) (env := E4 ns B (.v (.lst (((badT B).take 4).map .str))) .u s9 n) (i := 0) (j := 2) (L := B.ws.map .str) (d := .str (dotO B.o)) rfl rfl
  have e1 : cRepl "own" "one" (c2 oIx (cVar 2) (cC (.int 0))) (E4 ns B (.v (.lst (((badT B).take 4).map .str))) .u s9 n) H = .ok (.str (Txt.replace (dotO B.o) "own" "one")) H := by
    unfold cRepl
    rw [show ((0 : Int)) = ((0 : Nat) : Int) from rfl, i0, R.bind_ok]
    dsimp only
    rw [l3, decide_eq_true (show (dotO B.o).length + ((dotO B.o).length + 1) * 3 ≤ 16777216 by omega)]
    rfl
  have zo : ∀ o ∈ ORD, (Txt.replace (dotO o) "own" "one").length ≤ 100 := by decide +kernel
  have eL : cLst (aCons (cRepl "own" "one" (c2 oIx (cVar 2) (cC (.int 0)))) (aNil)) (E4 ns B (.v (.lst (((badT B).take 4).map .str))) .u s9 n) H = .ok (.lst (([Txt.replace (dotO B.o) "own" "one"] : List Str).map .str)) H := cLst_ok (aCons_ok e1 rfl) (by simp)
  have eA : cSl (cVar 2) (oSome (cC (.int 1))) oNone (E4 ns B (.v (.lst (((badT B).take 4).map .str))) .u s9 n) H = .ok (.lst ((B.ws.drop 1).map .str)) H := slZ (ws := B.ws) (i := 1) rfl rfl (by omega)
  have e2 := plusL eL eA (by simp [l7])
  rw [mapapp] at e2
  have e2' := joinW e2 (by simp [l7]) (fun w hw => by
    rcases List.mem_append.mp hw with m | m
    · rw [List.mem_singleton.mp m]; exact zo _ k.o
    · have := sh w (List.mem_of_mem_drop m); omega)
  have eT : cLst (aCons (cJoin (cC (.str " ")) (c2 oPlus (cLst (aCons (cRepl "own" "one" (c2 oIx (cVar 2) (cC (.int 0)))) (aNil))) (cSl (cVar 2) (oSome (cC (.int 1))) (oNone)))) (aNil)) (E4 ns B (.v (.lst (((badT B).take 4).map .str))) .u s9 n) H = .ok (.lst [.str (J ([Txt.replace (dotO B.o) "own" "one"] ++ B.ws.drop 1))]) H := cLst_ok (aCons_ok e2' rfl) (by simp)
  have e3 := plusL (m1 := cVar 3) (env := E4 ns B (.v (.lst (((badT B).take 4).map .str))) .u s9 n) (H := H) (xs := ((badT B).take 4).map .str) rfl eT (by simp [badT])
  unfold a6 sSet
  rw [e3]
  rfl
def keepS (T : Str) (d : D) : Bool := match d with
  | .str x => !decide (x = T)
  | _ => false
theorem a7_ok (k : B.Ok) (b : BookAt H n B) (P : Pool H 0) : ∃ (i : Nat) (c x : D), i < 7 ∧ Pool (H.set 0 c ++ [x]) 0 ∧ BookAt (H.set 0 c ++ [x]) n B ∧
    a7i (E4 ns B (.v (.lst ((badT B).map .str))) .u s9 n) H = .ok (((badT B ++ spoil B.ws i).map .str).filter (keepS (J B.ws)) ++ [.non, .int 1, .lst [], .lst (B.ws.map .str), .loc n]) (H.set 0 c ++ [x]) ∨ s9.noX = false := by
  cases hs : s9.noX with
  | false => exact ⟨0, .non, .non, .inr rfl⟩
  | true =>
    have hz : sizeLine = 16777216 := by decide
    have W := k.wd
    obtain ⟨i, c, x, hi, e1, P'⟩ := spoilt_ok W P
    refine ⟨i, c, x, .inl ⟨hi, P', (b.set P).app, ?_⟩⟩
    have es : cCall F_law_spoilt (aCons (cVar 1) (aCons (cVar 7) (aNil))) (E4 ns B (.v (.lst ((badT B).map .str))) .u s9 n) H = .ok (.lst ((spoil B.ws i).map .str)) (H.set 0 c ++ [x]) := by
      show ((aCons (cVar 1) (aCons (cVar 7) aNil) _ H).bind fun ds h1 => F_law_spoilt ds h1) = _
      rw [aCons_ok (m := cVar 1) (d := .loc 0) (H := H) rfl (aCons_ok (m := cVar 7) (d := .str (J B.ws)) (H := H) rfl rfl), R.bind_ok, e1]
    have ls : (spoil B.ws i).length = 11 := rfl
    have lb : (badT B).length = 5 := rfl
    have ep : iSeq (c2 oPlus (cVar 3) (cCall F_law_spoilt (aCons (cVar 1) (aCons (cVar 7) (aNil))))) (E4 ns B (.v (.lst ((badT B).map .str))) .u s9 n) H = .ok ((badT B ++ spoil B.ws i).map .str) (H.set 0 c ++ [x]) := by
      refine iSeq_lst ?_
      show ((cVar 3 _ H).bind fun x h1 => (cCall F_law_spoilt _ _ h1).bind fun y h2 => oPlus x y h2) = _
      rw [show cVar 3 (E4 ns B (.v (.lst ((badT B).map .str))) .u s9 n) H = .ok (.lst ((badT B).map .str)) H from rfl, R.bind_ok, es, R.bind_ok]
      unfold oPlus
      simp only [lstH]
      rw [decide_eq_true (show ((badT B).map D.str).length + ((spoil B.ws i).map D.str).length ≤ sizeLine by rw [List.length_map, List.length_map]; omega), List.map_append]
      rfl
    generalize H.set 0 c ++ [x] = H2 at ep es P' ⊢
    have nx : noX (E4 ns B (.v (.lst ((badT B).map .str))) .u s9 n) = true := by
      show (true && (true && (true && (true && (true && (true && (true && (true && (true && (s9.noX && (true && (true && true)))))))))))) = true
      rw [hs]
      rfl
    have fl := lcGo_filter (T := gN 11) (tt := cB (c2 (oEq true) (cVar 11) (cVar 7))) (te := cVar 11) (env := wipeE (E4 ns B (.v (.lst ((badT B).map .str))) .u s9 n) [11]) (h := H2) (f := id) (b := keepS (J B.ws)) ((badT B ++ spoil B.ws i).map .str) [] (by simp only [List.length_nil, List.length_map, List.length_append]; omega) (fun d hd => by
      obtain ⟨X, _, rfl⟩ := List.mem_map.mp hd
      refine ⟨_, rfl, ?_, fun _ => rfl⟩
      show ((cVar 11 _ H2).bind fun x h1 => (cVar 7 _ h1).bind fun y h2 => oEq true x y h2).bind _ = _
      rfl)
    have ec : a7c (E4 ns B (.v (.lst ((badT B).map .str))) .u s9 n) H = .ok (.lst (((badT B ++ spoil B.ws i).map .str).filter (keepS (J B.ws)))) H2 := by
      unfold a7c cLc aLc
      rw [ep, R.bind_ok, nx, cond_true, fl, R.bind_ok, List.nil_append, List.map_id]
    have lf : (((badT B ++ spoil B.ws i).map D.str).filter (keepS (J B.ws))).length ≤ 16 := by
      refine Nat.le_trans (List.length_filter_le _ _) ?_
      rw [List.length_map, List.length_append]
      omega
    have el : cLst (aCons (cC .non) (aCons (cC (.int 1)) (aCons (cLst (aNil)) (aCons (cVar 2) (aCons (cVar 10) (aNil)))))) (E4 ns B (.v (.lst ((badT B).map .str))) .u s9 n) H2 = .ok (.lst [.non, .int 1, .lst [], .lst (B.ws.map .str), .loc n]) H2 := cLst_ok (aCons_ok (m := cC .non) (d := .non) (H := H2) rfl (aCons_ok (m := cC (.int 1)) (d := .int 1) (H := H2) rfl (aCons_ok (cLst_ok (t := aNil) (ds := []) rfl (by simp)) (aCons_ok (m := cVar 2) (d := .lst (B.ws.map .str)) (H := H2) rfl (aCons_ok (m := cVar 10) (d := .loc n) (H := H2) rfl rfl))))) (by simp)
    unfold a7i
    refine iSeq_lst ?_
    show ((a7c _ H).bind fun x h1 => (cLst _ _ h1).bind fun y h2 => oPlus x y h2) = _
    rw [ec, R.bind_ok, el, R.bind_ok]
    unfold oPlus
    simp only [lstH]
    rw [decide_eq_true (show (((badT B ++ spoil B.ws i).map D.str).filter (keepS (J B.ws))).length + [D.non, .int 1, .lst [], .lst (B.ws.map .str), .loc n].length ≤ sizeLine by simp only [List.length_cons, List.length_nil]; omega)]
    rfl
theorem all_refused (k : B.Ok) {H : List D} (b : BookAt H n B) {i : Nat} (hi : i < 7) : ∀ d ∈ ((badT B ++ spoil B.ws i).map D.str).filter (keepS (J B.ws)) ++ [.non, .int 1, .lst [], .lst (B.ws.map .str), .loc n], ∀ t, ∃ t', F_law_refused [d, .bl true] (H ++ t) = .ok (.lst [.non]) (H ++ t ++ t') := by
  intro d hd t
  rcases List.mem_append.mp hd with m | m
  · obtain ⟨m1, m2⟩ := List.mem_filter.mp m
    obtain ⟨X, hX, rfl⟩ := List.mem_map.mp m1
    have ne : X ≠ J B.ws := by simpa [keepS] using m2
    rcases List.mem_append.mp hX with q | q
    · rcases badT_bad k X q with e | r
      · exact absurd e ne
      · exact refused_str r
    · exact refused_str (spoil_bad k hi X q)
  · simp only [List.mem_cons, List.not_mem_nil, or_false] at m
    rcases m with rfl | rfl | rfl | rfl | rfl
    · exact refused_no rfl
    · exact refused_no rfl
    · exact refused_no rfl
    · exact refused_no rfl
    · exact refused_no (isi_book b.app)
end
end G

set_option Elab.async false
set_option linter.all false
set_option maxRecDepth 100000
set_option maxHeartbeats 1000000
/-! P82p: the plain law of k82: the places' half, and the law. -/
namespace G
open PySem PySem.Spec PyProof.Rows L2
section
variable {ns : List Int} {s2 s3 s4 s5 s6 s7 s8 s9 s10 : Sl} {H : List D} {a b c : Str}
abbrev KND (a b c : Str) : List (List Str) := [["name", a, b], ["member", a, b], ["spread", a, b, c]]
theorem knd_pl (ha : Nq a = true) (hb : Nq b = true) (hc : Nq c = true) : ∀ ws ∈ KND a b c, Pl ws := by
  intro ws hw
  simp only [KND, List.mem_cons, List.not_mem_nil, or_false] at hw
  rcases hw with rfl | rfl | rfl
  · exact ⟨"name", a, [b], rfl, .inl rfl, ha, fun z hz => by rw [List.mem_singleton.mp hz]; exact hb, (by decide +kernel : wordLen "name" = (3 : Int)), .inl rfl⟩
  · exact ⟨"member", a, [b], rfl, .inr (.inl rfl), ha, fun z hz => by rw [List.mem_singleton.mp hz]; exact hb, (by decide +kernel : wordLen "member" = (3 : Int)), .inl rfl⟩
  · refine ⟨"spread", a, [b, c], rfl, .inr (.inr rfl), ha, fun z hz => ?_, (by decide +kernel : wordLen "spread" = (4 : Int)), .inr rfl⟩
    rcases List.mem_cons.mp hz with rfl | hz
    · exact hb
    · rw [List.mem_singleton.mp hz]; exact hc
theorem cTup_ok {t : MA} {env : List Sl} {ds : List D} (e : t env H = .ok ds H) (hl : ds.length ≤ 1000) : cTup t env H = .ok (.tup ds) H := by
  have hz : sizeLine = 16777216 := by decide
  unfold cTup
  rw [e, R.bind_ok, if_pos (by omega)]
theorem a8_ok : a8 (LE ns s2 s3 s4 .u .u s7 s8 (.v (.lst ([a, b, c].map .str))) s10) H = .nx (LE ns s2 s3 s4 (.v (.lst ((KND a b c).map fun ws => .tup (ws.map .str)))) .u s7 s8 (.v (.lst ([a, b, c].map .str))) s10) H := by
  have i0 := ixL (H := H) (env := LE ns s2 s3 s4 .u .u s7 s8 (.v (.lst ([a, b, c].map .str))) s10) (i := 0) (j := 9) (L := [a, b, c].map .str) (d := .str a) rfl rfl
  have i1 := ixL (H := H) (env := LE ns s2 s3 s4 .u .u s7 s8 (.v (.lst ([a, b, c].map .str))) s10) (i := 1) (j := 9) (L := [a, b, c].map .str) (d := .str b) rfl rfl
  have i2 := ixL (H := H) (env := LE ns s2 s3 s4 .u .u s7 s8 (.v (.lst ([a, b, c].map .str))) s10) (i := 2) (j := 9) (L := [a, b, c].map .str) (d := .str c) rfl rfl
  have t1 : ∀ k : Str, cTup (aCons (cC (.str k)) (aCons (c2 oIx (cVar 9) (cC (.int 0))) (aCons (c2 oIx (cVar 9) (cC (.int 1))) (aNil)))) (LE ns s2 s3 s4 .u .u s7 s8 (.v (.lst ([a, b, c].map .str))) s10) H = .ok (.tup ([k, a, b].map .str)) H := fun k => cTup_ok (aCons_ok (m := cC (.str k)) (d := .str k) (H := H) rfl (aCons_ok i0 (aCons_ok i1 rfl))) (by simp)
  have t3 : cTup (aCons (cC (.str "spread")) (aCons (c2 oIx (cVar 9) (cC (.int 0))) (aCons (c2 oIx (cVar 9) (cC (.int 1))) (aCons (c2 oIx (cVar 9) (cC (.int 2))) (aNil))))) (LE ns s2 s3 s4 .u .u s7 s8 (.v (.lst ([a, b, c].map .str))) s10) H = .ok (.tup ((["spread", a, b, c] : List Str).map .str)) H := cTup_ok (aCons_ok (m := cC (.str "spread")) (d := .str "spread") (H := H) rfl (aCons_ok i0 (aCons_ok i1 (aCons_ok i2 rfl)))) (by simp)
  unfold a8 sSet
  rw [cLst_ok (aCons_ok (t1 "name") (aCons_ok (t1 "member") (aCons_ok t3 rfl))) (by simp)]
  rfl
theorem a9_ok (P : Pool H 0) (ha : Nq a = true) (hb : Nq b = true) (hc : Nq c = true) : ∃ (ws : List Str) (x : D), a9 (LE ns s2 s3 s4 (.v (.lst ((KND a b c).map fun ws => .tup (ws.map .str)))) .u s7 s8 s9 s10) H = .nx (LE ns s2 s3 s4 (.v (.lst ((KND a b c).map fun ws => .tup (ws.map .str)))) (.v (.tup (ws.map .str))) s7 s8 s9 s10) (H.set 0 x) ∧ Pl ws ∧ Pool (H.set 0 x) 0 := by
  obtain ⟨j, d, x, hj, e, P'⟩ := pick_ok (row := (KND a b c).map fun ws => .tup (ws.map .str)) P (by simp) (by simp)
  obtain ⟨ws, hw, rfl⟩ := List.mem_map.mp (List.mem_of_getElem? hj)
  refine ⟨ws, x, ?_, knd_pl ha hb hc ws hw, P'⟩
  unfold a9 sSet
  show R.thenS ((aCons (cVar 1) (aCons (cVar 5) aNil) _ H).bind fun ds h1 => F_law_pick ds h1) _ _ = _
  rw [aCons_ok (m := cVar 1) (d := .loc 0) (H := H) rfl (aCons_ok (m := cVar 5) (d := .lst ((KND a b c).map fun ws => .tup (ws.map .str))) (H := H) rfl rfl), R.bind_ok, e]
  rfl
variable {ws : List Str}
theorem tup_eq (P : Pl ws) : oEq true (.tup (ws.map .str)) (.tup (ws.map .str)) H = .ok (.bl false) H := by
  have kso : ∀ w ∈ (["name", "member", "spread"] : List Str), PyData.strOk w = true ∧ w.length ≤ 40 := by decide +kernel
  have fs : ∀ p ∈ ws.map PyData.str, FW 0 40 p = true := fun p hp => by
    obtain ⟨v, hv, rfl⟩ := List.mem_map.mp hp
    obtain ⟨w, xs, e, hw, hx, hl, h2⟩ := P.cons
    rw [e] at hv
    rcases List.mem_cons.mp hv with rfl | m
    · exact FW_str (kso _ hw).1 (kso _ hw).2
    · have np := Nq_parts (hx v m)
      exact FW_str np.2.2.2.2.2.2.2.2.2 (by omega)
  have f := FW_tuple (m := 7) fs (by rw [List.length_map]; exact P.wd.few)
  have py : toPy pyF H (.tup (ws.map .str)) = some (.tuple (ws.map PyData.str)) := by
    obtain ⟨w, x, y, rfl, _, _, _, _, h2⟩ := P.ex
    rcases h2 with h2 | h2
    · match y, h2 with
      | [y1], _ => rfl
    · match y, h2 with
      | [y1, y2], _ => rfl
  have q := eqD_ok (neg := true) py py f f (by decide) (by decide) (by decide) (by decide)
  rw [eqv_refl _ (FW.lay f)] at q
  exact q
abbrev E6 (ns : List Int) (ws : List Str) (s2 s3 s4 s5 s7 s8 s9 s10 : Sl) : List Sl := LE ns s2 s3 s4 s5 (.v (.tup (ws.map .str))) s7 s8 s9 s10
theorem a10_ok (P : Pl ws) : a10 (E6 ns ws s2 s3 s4 s5 s7 s8 s9 s10) H = .nx (E6 ns ws s2 s3 s4 s5 (.v (.str (J ws))) s8 s9 s10) H := by
  have e := wplace_ok (h := H) P.wd
  unfold a10 sSet
  show R.thenS ((aCons (cVar 6) aNil _ H).bind fun ds h1 => F_write_place ds h1) _ _ = _
  rw [aCons_ok (m := cVar 6) (d := .tup (ws.map .str)) (H := H) rfl rfl, R.bind_ok, e]
  rfl
theorem a11_ok (P : Pl ws) : a11 (E6 ns ws s2 s3 s4 s5 (.v (.str (J ws))) s8 s9 s10) H = .nx (E6 ns ws s2 s3 s4 s5 (.v (.str (J ws))) s8 s9 s10) H := by
  have W := P.wd
  have rp : cCall F_read_place (aCons (cVar 7) (aNil)) (E6 ns ws s2 s3 s4 s5 (.v (.str (J ws))) s8 s9 s10) H = .ok (.tup (ws.map .str)) H := by
    show ((aCons (cVar 7) aNil _ H).bind fun ds h1 => F_read_place ds h1) = _
    rw [aCons_ok (m := cVar 7) (d := .str (J ws)) (H := H) rfl rfl, R.bind_ok, read_good P]
  have li : cCall (f1 listD) (aCons (cVar 6) (aNil)) (E6 ns ws s2 s3 s4 s5 (.v (.str (J ws))) s8 s9 s10) H = .ok (.lst (ws.map .str)) H := by
    rw [cCall1 (show cVar 6 (E6 ns ws s2 s3 s4 s5 (.v (.str (J ws))) s8 s9 s10) H = .ok (.tup (ws.map .str)) H from rfl)]
    rfl
  have jn := joinW (ys := ws) li (by have := W.few; omega) (fun w hw => by have := W.short w hw; omega)
  have t1 : cB (c2 (oEq true) (cVar 7) (cJoin (cC (.str " ")) (cCall (f1 listD) (aCons (cVar 6) (aNil))))) (E6 ns ws s2 s3 s4 s5 (.v (.str (J ws))) s8 s9 s10) H = .ok false H := by
    unfold cB
    show (((cVar 7 _ H).bind fun x h1 => (cJoin _ _ _ h1).bind fun y h2 => oEq true x y h2).bind _) = _
    rw [show cVar 7 (E6 ns ws s2 s3 s4 s5 (.v (.str (J ws))) s8 s9 s10) H = .ok (.str (J ws)) H from rfl, R.bind_ok, jn, R.bind_ok]
    simp [oEq]
  have t2 : cB (c2 (oEq true) (cCall F_read_place (aCons (cVar 7) (aNil))) (cVar 6)) (E6 ns ws s2 s3 s4 s5 (.v (.str (J ws))) s8 s9 s10) H = .ok false H := by
    unfold cB
    show (((cCall F_read_place _ _ H).bind fun x h1 => (cVar 6 _ h1).bind fun y h2 => oEq true x y h2).bind _) = _
    rw [rp, R.bind_ok, show cVar 6 (E6 ns ws s2 s3 s4 s5 (.v (.str (J ws))) s8 s9 s10) H = .ok (.tup (ws.map .str)) H from rfl, R.bind_ok, tup_eq P]
    rfl
  have t3 : cNot (cB (cIsi ty_tuple (cCall F_read_place (aCons (cVar 7) (aNil))))) (E6 ns ws s2 s3 s4 s5 (.v (.str (J ws))) s8 s9 s10) H = .ok false H := by
    unfold cNot cB cIsi
    rw [rp]
    rfl
  unfold a11 sIf cOr
  rw [t1, R.bind_ok]
  dsimp only
  rw [t2, R.bind_ok]
  dsimp only
  rw [t3]
  rfl
abbrev moreP (ws : List Str) : List D := [.str "of a b", .str "name a b c", .str "spread a b", .str "name a 1", .tup (ws.map .str), .non]
theorem a12_ok (P : Pl ws) (Po : Pool H 0) : ∃ (i : Nat) (c x : D), i < ws.length ∧ a12i (E6 ns ws s2 s3 s4 s5 (.v (.str (J ws))) s8 s9 s10) H = .ok ((spoil ws i).map .str ++ moreP ws) (H.set 0 c ++ [x]) := by
  have hz : sizeLine = 16777216 := by decide
  obtain ⟨i, c, x, hi, e1, _⟩ := spoilt_ok P.wd Po
  refine ⟨i, c, x, hi, ?_⟩
  have es : cCall F_law_spoilt (aCons (cVar 1) (aCons (cVar 7) (aNil))) (E6 ns ws s2 s3 s4 s5 (.v (.str (J ws))) s8 s9 s10) H = .ok (.lst ((spoil ws i).map .str)) (H.set 0 c ++ [x]) := by
    show ((aCons (cVar 1) (aCons (cVar 7) aNil) _ H).bind fun ds h1 => F_law_spoilt ds h1) = _
    rw [aCons_ok (m := cVar 1) (d := .loc 0) (H := H) rfl (aCons_ok (m := cVar 7) (d := .str (J ws)) (H := H) rfl rfl), R.bind_ok, e1]
  generalize H.set 0 c ++ [x] = H2 at es ⊢
  have el : cLst (aCons (cC (.str "of a b")) (aCons (cC (.str "name a b c")) (aCons (cC (.str "spread a b")) (aCons (cC (.str "name a 1")) (aCons (cVar 6) (aCons (cC .non) (aNil))))))) (E6 ns ws s2 s3 s4 s5 (.v (.str (J ws))) s8 s9 s10) H2 = .ok (.lst (moreP ws)) H2 := cLst_ok (aCons_ok (m := cC (.str "of a b")) (d := .str "of a b") (H := H2) rfl (aCons_ok (m := cC (.str "name a b c")) (d := .str "name a b c") (H := H2) rfl (aCons_ok (m := cC (.str "spread a b")) (d := .str "spread a b") (H := H2) rfl (aCons_ok (m := cC (.str "name a 1")) (d := .str "name a 1") (H := H2) rfl (aCons_ok (m := cVar 6) (d := .tup (ws.map .str)) (H := H2) rfl (aCons_ok (m := cC .non) (d := .non) (H := H2) rfl rfl)))))) (by simp)
  unfold a12i
  refine iSeq_lst ?_
  show ((cCall F_law_spoilt _ _ H).bind fun x h1 => (cLst _ _ h1).bind fun y h2 => oPlus x y h2) = _
  rw [es, R.bind_ok, el, R.bind_ok]
  unfold oPlus
  simp only [lstH]
  have ls : (spoil ws i).length = 11 := rfl
  rw [decide_eq_true (show ((spoil ws i).map D.str).length + (moreP ws).length ≤ sizeLine by rw [List.length_map]; simp only [List.length_cons, List.length_nil]; omega)]
  rfl
theorem refP_out {t : List D} {X : Str} (r : RefP X) : ∃ t', F_law_refused [.str X, .bl false] (H ++ t) = .ok (.lst [.non]) (H ++ t ++ t') := by
  refine ⟨[], rf_place ?_⟩
  rw [read_bad r, List.append_nil]
theorem refP_no {t : List D} {d : D} (e : cB (cIsi ty_str (cVar 0)) [.v d, .u] (H ++ t) = .ok false (H ++ t)) : ∃ t', F_law_refused [d, .bl false] (H ++ t) = .ok (.lst [.non]) (H ++ t ++ t') := by
  refine ⟨[], rf_place ?_⟩
  rw [read_no e, List.append_nil]
theorem all_refusedP (P : Pl ws) {i : Nat} (hi : i < ws.length) : ∀ d ∈ (spoil ws i).map .str ++ moreP ws, ∀ t, ∃ t', F_law_refused [d, .bl false] (H ++ t) = .ok (.lst [.non]) (H ++ t ++ t') := by
  intro d hd t
  have cs : ∀ X ∈ (["of a b", "name a b c", "spread a b", "name a 1"] : List Str), X.length ≤ 1000 ∧ (Txt.split X " ").length ≤ 20 ∧ plB (Txt.split X " ") = false := by decide +kernel
  rcases List.mem_append.mp hd with m | m
  · obtain ⟨X, hX, rfl⟩ := List.mem_map.mp m
    exact refP_out (spoilP_bad P hi X hX)
  · simp only [moreP, List.mem_cons, List.not_mem_nil, or_false] at m
    rcases m with rfl | rfl | rfl | rfl | rfl | rfl
    · exact refP_out (cs _ (by simp))
    · exact refP_out (cs _ (by simp))
    · exact refP_out (cs _ (by simp))
    · exact refP_out (cs _ (by simp))
    · exact refP_no rfl
    · exact refP_no rfl
end
theorem plain82 (ns : List Int) (hns : ns.length ≤ 63) : ∃ h', F_law [.scr ns] [] = .ok (.bl true) h' := by
  obtain ⟨H, B, xs, e0, P0, hr, k, hl, hx⟩ := a01_ok (ns := ns)
  obtain ⟨a, b, c, rfl⟩ : ∃ a b c, xs = [a, b, c] := by
    match xs, hl with
    | [a, b, c], _ => exact ⟨a, b, c, rfl⟩
  have na := hx a (by simp)
  have nb := hx b (by simp)
  have nc := hx c (by simp)
  obtain ⟨n, t2, e2, b2⟩ := a2_ok (ns := ns) (s9 := .v (.lst ([a, b, c].map .str))) k hr P0
  have P2 : Pool (H ++ t2) 0 := P0.app
  obtain ⟨t3, e3⟩ := a3_ok (ns := ns) (s9 := .v (.lst ([a, b, c].map .str))) k b2
  have P3 : Pool (H ++ t2 ++ t3) 0 := P2.app
  have b3 : BookAt (H ++ t2 ++ t3) n B := b2.app
  generalize H ++ t2 ++ t3 = H3 at e3 P3 b3
  have e4 := a4_ok (ns := ns) (H := H3) (n := n) (s9 := .v (.lst ([a, b, c].map .str))) k
  have e5 := a5_ok (ns := ns) (H := H3) (n := n) (s9 := .v (.lst ([a, b, c].map .str))) k
  have e6 := a6_ok (ns := ns) (H := H3) (n := n) (s9 := .v (.lst ([a, b, c].map .str))) k
  obtain ⟨i, c7, x7, q7⟩ := a7_ok (ns := ns) (s9 := .v (.lst ([a, b, c].map .str))) k b3 P3
  rcases q7 with ⟨hi, P7, b7, e7⟩ | q7
  rotate_left
  · cases q7
  obtain ⟨s4, t7, f7, q4⟩ := loop_ok (b := true) (ns := ns) (s2 := .v (.lst (B.ws.map .str))) (s3 := .v (.lst ((badT B).map .str))) (s5 := .u) (s6 := .u) (s7 := .v (.str (J B.ws))) (s8 := .v (.loc 2)) (s9 := .v (.lst ([a, b, c].map .str))) (s10 := .v (.loc n)) (H := H3.set 0 c7 ++ [x7]) _ .u [] (all_refused k b7 hi)
  rw [List.append_nil] at f7
  have l7 : sFor a7i (gN 4) (lBody true) (E4 ns B (.v (.lst ((badT B).map .str))) .u (.v (.lst ([a, b, c].map .str))) n) H3 = .nx (E4 ns B (.v (.lst ((badT B).map .str))) s4 (.v (.lst ([a, b, c].map .str))) n) (H3.set 0 c7 ++ [x7] ++ t7) := by
    unfold sFor
    rw [e7, R.thenS_ok]
    exact f7
  have P8 : Pool (H3.set 0 c7 ++ [x7] ++ t7) 0 := P7.app
  generalize H3.set 0 c7 ++ [x7] ++ t7 = H8 at l7 P8
  have e8 := a8_ok (ns := ns) (s2 := .v (.lst (B.ws.map .str))) (s3 := .v (.lst ((badT B).map .str))) (s4 := s4) (s7 := .v (.str (J B.ws))) (s8 := .v (.loc 2)) (s10 := .v (.loc n)) (H := H8) (a := a) (b := b) (c := c)
  obtain ⟨ws, x9, e9, Pw, P9⟩ := a9_ok (ns := ns) (s2 := .v (.lst (B.ws.map .str))) (s3 := .v (.lst ((badT B).map .str))) (s4 := s4) (s7 := .v (.str (J B.ws))) (s8 := .v (.loc 2)) (s9 := .v (.lst ([a, b, c].map .str))) (s10 := .v (.loc n)) P8 na nb nc
  generalize H8.set 0 x9 = H9 at e9 P9
  have e10 := a10_ok (ns := ns) (s2 := .v (.lst (B.ws.map .str))) (s3 := .v (.lst ((badT B).map .str))) (s4 := s4) (s5 := .v (.lst ((KND a b c).map fun ws => .tup (ws.map .str)))) (s7 := .v (.str (J B.ws))) (s8 := .v (.loc 2)) (s9 := .v (.lst ([a, b, c].map .str))) (s10 := .v (.loc n)) (H := H9) Pw
  have e11 := a11_ok (ns := ns) (s2 := .v (.lst (B.ws.map .str))) (s3 := .v (.lst ((badT B).map .str))) (s4 := s4) (s5 := .v (.lst ((KND a b c).map fun ws => .tup (ws.map .str)))) (s8 := .v (.loc 2)) (s9 := .v (.lst ([a, b, c].map .str))) (s10 := .v (.loc n)) (H := H9) Pw
  obtain ⟨i2, c12, x12, hi2, e12⟩ := a12_ok (ns := ns) (s2 := .v (.lst (B.ws.map .str))) (s3 := .v (.lst ((badT B).map .str))) (s4 := s4) (s5 := .v (.lst ((KND a b c).map fun ws => .tup (ws.map .str)))) (s8 := .v (.loc 2)) (s9 := .v (.lst ([a, b, c].map .str))) (s10 := .v (.loc n)) Pw P9
  obtain ⟨s4', t12, f12, _⟩ := loop_ok (b := false) (ns := ns) (s2 := .v (.lst (B.ws.map .str))) (s3 := .v (.lst ((badT B).map .str))) (s5 := .v (.lst ((KND a b c).map fun ws => .tup (ws.map .str)))) (s6 := .v (.tup (ws.map .str))) (s7 := .v (.str (J ws))) (s8 := .v (.loc 2)) (s9 := .v (.lst ([a, b, c].map .str))) (s10 := .v (.loc n)) (H := H9.set 0 c12 ++ [x12]) _ s4 [] (all_refusedP Pw hi2)
  rw [List.append_nil] at f12
  have l12 : sFor a12i (gN 4) (lBody false) (E6 ns ws (.v (.lst (B.ws.map .str))) (.v (.lst ((badT B).map .str))) s4 (.v (.lst ((KND a b c).map fun ws => .tup (ws.map .str)))) (.v (.str (J ws))) (.v (.loc 2)) (.v (.lst ([a, b, c].map .str))) (.v (.loc n))) H9 = .nx (E6 ns ws (.v (.lst (B.ws.map .str))) (.v (.lst ((badT B).map .str))) s4' (.v (.lst ((KND a b c).map fun ws => .tup (ws.map .str)))) (.v (.str (J ws))) (.v (.loc 2)) (.v (.lst ([a, b, c].map .str))) (.v (.loc n))) (H9.set 0 c12 ++ [x12] ++ t12) := by
    unfold sFor
    rw [e12, R.thenS_ok]
    exact f12
  refine ⟨H9.set 0 c12 ++ [x12] ++ t12, ?_⟩
  unfold F_law
  rw [runF1, law_eq]
  show (sSeq a0 (sSeq a1 _) (.v (.scr ns) :: List.replicate 11 .u) []).toR = _
  rw [e0, sSeq_nx e2, sSeq_nx e3, sSeq_nx e4, sSeq_nx e5, sSeq_nx e6, sSeq_nx l7, sSeq_nx e8, sSeq_nx e9, sSeq_nx e10, sSeq_nx e11, sSeq_nx l12]
  rfl
end G

set_option Elab.async false
set_option linter.all false
set_option maxRecDepth 100000
set_option maxHeartbeats 0
namespace G
open PySem PySem.W PySem.Calls PyProof.Rows
abbrev ORow : OpenRow := OpenLaw.row PySem.Challenge.rw_addednames_k82_books_and_places_as_texts
abbrev qv : Program := view ORow.prog [36]
def names : List PySem.Str := (["_wall", "NamesError", "BadPart", "BadText", "LETTERS", "MOST_LETTERS", "is_name", "LENGTHS", "is_place", "ORDERS", "PARTS", "is_book_part", "is_value", "Book", "NEARS", "MARKS", "write_book", "book_from", "read_book", "write_place", "read_place"] : List PySem.Str) ++ (["_law_pool_of", "_law_draw", "_law_pick", "_law_names_of", "_law_rules_of", "_law_made_book", "_law_book_text", "_law_refused", "_law_spoilt"] : List PySem.Str)
abbrev hk : Hook := hookZ 6 fa fn fz ts exB
def ob (s : SharedT) : AlZ := obsZ 6 fa fn fz ts exB (HandSHeadRun.getT s)
theorem ob_eq (s : SharedT) : ob s = hk.obs s.abs := obsZ_eq (HandSHeadRun.getT_eq s)
open HandSHeadRun in
theorem run (w : World) : HandSHeadRun.RunEq ORow qv hk ob 8000 names w := byRow2 "special-get-raises" (P := fun w => HandSHeadRun.RunEq ORow qv hk ob 8000 names w) (fun w => by intro os; kernel_rfl) (fun w => by intro os; kernel_rfl) w
theorem law82 (plain : ∀ ns : List Int, ns.length ≤ 63 → ∃ h', F_law [.scr ns] [] = .ok (.bl true) h') : PySem.Challenge.rw_addednames_k82_books_and_places_as_texts.Holds := by
  w_on; o_law
  refine HandSHeadRun.head_any (r := OpenLaw.row PySem.Challenge.rw_addednames_k82_books_and_places_as_texts) (q := view (OpenLaw.row PySem.Challenge.rw_addednames_k82_books_and_places_as_texts).prog [36]) (H := hk) (ob := ob) (M := 8000) (loose := names) (d := HandSHeadRun.topDef (OpenLaw.row PySem.Challenge.rw_addednames_k82_books_and_places_as_texts).prog 36) (kwd := []) ob_eq
    (by kernel_rfl) (fun s => by kernel_rfl) run (by kernel_rfl) (by kernel_rfl) (by kernel_rfl) (by rfl) (by first | assumption | decide +kernel) (by decide +kernel) ⟨rfl, rfl, rfl, rfl, rfl, by decide +kernel⟩ ?hw ?hc
  case hw => w_witness2
  case hc =>
    refine G.walk_ofG (l := PySem.Challenge.rw_addednames_k82_books_and_places_as_texts) (n := 63) (k := 14) (x := "_law_script") rfl (by decide) (by kernel_rfl) ⟨rfl, by decide, by decide⟩ ?F
    intro w mg fa h Y Gn hmg0
    obtain ⟨K, KX, c⟩ := Y
    have hmg : mg ("law" : PySem.Str) = some (.ref fa) := by
      have e : (HandSHeadRun.topDef (OpenLaw.row PySem.Challenge.rw_addednames_k82_books_and_places_as_texts).prog 36).name = ("law" : PySem.Str) := by kernel_rfl
      rw [← e]
      exact hmg0
    have E := G.ev KX Gn c
    have e := hmg.symm.trans E.g_law
    cases e
    refine ⟨K, F_law, KX, plain, fun base _ _ => ?_⟩
    obtain ⟨fd, FO, hb, _, _⟩ := s_law (P := (PySem.Challenge.rw_addednames_k82_books_and_places_as_texts).prog) (base := base) E
    exact ⟨fd, FO, hb⟩
end G

theorem PySem.Challenge.cw_addednames_k82_books_and_places_as_texts_holds : PySem.Challenge.rw_addednames_k82_books_and_places_as_texts.Holds := by
  exact G.law82 G.plain82
