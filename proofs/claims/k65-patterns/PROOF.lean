import PyProof.Rows.All
import HandS.ForMost
import HandS.Flow
import HandS.Wide
import HandS.Zip
import HandS.Conv
import HandS.Deep
import HandS.Star
import HandS.IsInst
import HandS.EndBits
import HandS.TupAny
import HandS.Strs
import HandS.SetFor
import KE.GoesEnum
import KE.GoesMore
import HandS.Style
import PyProof.Rows.ReprShort
import PyProof.ReprBulk
import KE.KEqDeep
import PySem.Challenge.RW_saidearly_k65_patterns_of_letters_that_c
set_option Elab.async false
set_option linter.all false
set_option maxRecDepth 100000
set_option maxHeartbeats 4000000
/-! Mi: the text mirrored by pure functions over trees (D) and a small store of cells (C). -/
namespace Mi
open PySem PySem.Spec PyProof.Rows L2

/-- a value as a tree; obj k: the k-th cell of the store; raw: any value by itself; fzl: a list that is only read; ktp: a tuple of the written part; ftp: a tuple whose object is known -/
inductive D where
  | non | bl (b : Bool) | int (i : Int) | str (x : Str)
  | tup (xs : List D) | lst (xs : List D) | fzl (xs : List D) | ktp (xs : List D) | ftp (xs : List D)
  | dk (kvs : List (Key × D)) | dt (kvs : List (List Key × D))
  | obj (k : Nat) | raw (v : V)
/-- what a cell holds -/
inductive C where
  | lst (ds : List D) | dk (kvs : List (Key × D)) | dt (kvs : List (List Key × D))

abbrev Fr := PySem.W.Frag
/-- the places of the cells; the places that somebody else holds -/
structure Nm where
  c : List Addr
  b : List Addr
instance : Membership Addr Nm := ⟨fun m a => a ∈ m.c ∨ a ∈ m.b⟩
def Nm.add (m : Nm) (p : Addr) : Nm := ⟨m.c ++ [p], m.b⟩
def Nm.hide (m : Nm) (p : Addr) : Nm := ⟨m.c, p :: m.b⟩
abbrev noH : Hp := fun _ => none
/-- a list's place: not a cell's, or of the written part -/
def Lp (K : Fr) (m : Nm) (H : Hp) (a : Addr) (vs : List V) : Prop := (Rd H a (.lst vs) ∧ a ∉ m) ∨ SqL K noH a vs

mutual
inductive R (K : Fr) (m : Nm) (H : Hp) : V → D → Prop
  | non : R K m H .non .non
  | bl {b : Bool} : R K m H (.bl b) (.bl b)
  | int {i : Int} : R K m H (.int i) (.int i)
  | str {x : Str} : R K m H (.str x) (.str x)
  | raw {v : V} : R K m H v (.raw v)
  | obj {k : Nat} {a : Addr} : m.c[k]? = some a → R K m H (.ref a) (.obj k)
  | tup {a : Addr} {vs : List V} {ds : List D} : H a = some (.tup vs) → a ∉ m → Rs K m H vs ds → R K m H (.ref a) (.tup ds)
  | ktp {a : Addr} {vs : List V} {ds : List D} : SqT K noH a vs → Rs K m H vs ds → R K m H (.ref a) (.ktp ds)
  | ftp {a : Addr} {o : Obj} {vs : List V} {ds : List D} : H a = some (.frz o (.tup vs)) → o.dict = none → a ∉ m → Rs K m H vs ds → R K m H (.ref a) (.ftp ds)
  | lst {a : Addr} {vs : List V} {ds : List D} : H a = some (.lst vs) → a ∉ m → Rs K m H vs ds → R K m H (.ref a) (.lst ds)
  | fzl {a : Addr} {vs : List V} {ds : List D} : Lp K m H a vs → Rs K m H vs ds → R K m H (.ref a) (.fzl ds)
  | dk {a : Addr} {kvs : List (Key × V)} {ds : List (Key × D)} : Rd H a (.dK kvs) → a ∉ m → Rk K m H kvs ds → R K m H (.ref a) (.dk ds)
  | dt {a : Addr} {kvs : List (List Key × V)} {ds : List (List Key × D)} : Rd H a (.dT kvs) → a ∉ m → Rt K m H kvs ds → R K m H (.ref a) (.dt ds)
inductive Rs (K : Fr) (m : Nm) (H : Hp) : List V → List D → Prop
  | nil : Rs K m H [] []
  | cons {v : V} {d : D} {vs : List V} {ds : List D} : R K m H v d → Rs K m H vs ds → Rs K m H (v :: vs) (d :: ds)
inductive Rk (K : Fr) (m : Nm) (H : Hp) : List (Key × V) → List (Key × D) → Prop
  | nil : Rk K m H [] []
  | cons {k : Key} {v : V} {d : D} {vs : List (Key × V)} {ds : List (Key × D)} : R K m H v d → Rk K m H vs ds → Rk K m H ((k, v) :: vs) ((k, d) :: ds)
inductive Rt (K : Fr) (m : Nm) (H : Hp) : List (List Key × V) → List (List Key × D) → Prop
  | nil : Rt K m H [] []
  | cons {k : List Key} {v : V} {d : D} {vs : List (List Key × V)} {ds : List (List Key × D)} : R K m H v d → Rt K m H vs ds → Rt K m H ((k, v) :: vs) ((k, d) :: ds)
end

/-- the world goes on: new cells, what is no cell's stands -/
structure Evw (m m' : Nm) (H H' : Hp) : Prop where
  pre : ∀ (k : Nat) (a : Addr), m.c[k]? = some a → m'.c[k]? = some a
  new : ∀ a, a ∈ m' → a ∉ m → H a = none
  ext : ∀ a o, a ∉ m → H a = some o → H' a = some o
structure Evo (m m' : Nm) (H H' : Hp) : Prop where
  pre : ∀ (k : Nat) (a : Addr), m.c[k]? = some a → m'.c[k]? = some a
  new : ∀ a, a ∈ m' → a ∉ m → H a = none
  ext : ∀ a o, a ∉ m → H a = some o → H' a = some o
  len : m.c.length ≤ m'.c.length
  hid : ∀ a, a ∈ m.b → a ∈ m'.b
  keep : ∀ a, a ∈ m.b → H' a = H a
section
variable {K : Fr} {m m1 m2 : Nm} {H H1 H2 : Hp}
theorem Evo.refl : Evo m m H H := ⟨fun _ _ h => h, fun _ h n => absurd h n, fun _ _ _ h => h, Nat.le_refl _, fun _ h => h, fun _ _ => rfl⟩
theorem Evo.w (e : Evo m m1 H H1) : Evw m m1 H H1 := ⟨e.pre, e.new, e.ext⟩
instance : Coe (Evo m m1 H H1) (Evw m m1 H H1) := ⟨Evo.w⟩
theorem Evw.mem (e : Evw m m1 H H1) {a : Addr} {o : HO} (n : a ∉ m) (h : H a = some o) : a ∉ m1 := fun q => by
  rw [e.new a q n] at h
  cases h
theorem Evo.mem (e : Evo m m1 H H1) {a : Addr} {o : HO} (n : a ∉ m) (h : H a = some o) : a ∉ m1 := fun q => by
  rw [e.new a q n] at h
  cases h
theorem Evw.trans (e : Evw m m1 H H1) (f : Evw m1 m2 H1 H2) : Evw m m2 H H2 where
  pre k a h := f.pre k a (e.pre k a h)
  new a h n := by
    cases q : H a with
    | none => rfl
    | some o => exact absurd h (f.mem (e.mem n q) (e.ext a o n q))
  ext a o n h := f.ext a o (e.mem n h) (e.ext a o n h)
theorem Evo.trans (e : Evo m m1 H H1) (f : Evo m1 m2 H1 H2) : Evo m m2 H H2 where
  pre k a h := f.pre k a (e.pre k a h)
  new a h n := by
    cases q : H a with
    | none => rfl
    | some o => exact absurd h (f.mem (e.mem n q) (e.ext a o n q))
  ext a o n h := f.ext a o (e.mem n h) (e.ext a o n h)
  len := Nat.le_trans e.len f.len
  hid a h := f.hid a (e.hid a h)
  keep a h := (f.keep a (e.hid a h)).trans (e.keep a h)
theorem rd_evo (e : Evw m m1 H H1) {a : Addr} {u : HO} (h : Rd H a u) (n : a ∉ m) : Rd H1 a u ∧ a ∉ m1 := by
  rcases h with h | ⟨o, h⟩
  · exact ⟨.inl (e.ext a _ n h), e.mem n h⟩
  · exact ⟨.inr ⟨o, e.ext a _ n h⟩, e.mem n h⟩
theorem Lp.evo (e : Evw m m1 H H1) {a : Addr} {vs : List V} (h : Lp K m H a vs) : Lp K m1 H1 a vs := by
  rcases h with ⟨h, n⟩ | h
  · exact .inl (rd_evo e h n)
  · exact .inr h
theorem sqT_any {a : Addr} {vs : List V} (h : SqT K noH a vs) : SqT K H a vs := by
  rcases h with (h | ⟨o, h⟩) | h
  · cases h
  · cases h
  · exact .inr h
theorem sqL_any {a : Addr} {vs : List V} (h : SqL K noH a vs) : SqL K H a vs := by
  rcases h with (h | ⟨o, h⟩) | h
  · cases h
  · cases h
  · exact .inr h
theorem Lp.sq {a : Addr} {vs : List V} (h : Lp K m H a vs) : SqL K H a vs := by
  rcases h with ⟨h, _⟩ | h
  · exact .inl h
  · exact sqL_any h
mutual
theorem R.evo (e : Evw m m1 H H1) : ∀ {v : V} {d : D}, R K m H v d → R K m1 H1 v d
  | _, _, .non => .non
  | _, _, .bl => .bl
  | _, _, .int => .int
  | _, _, .str => .str
  | _, _, .raw => .raw
  | _, _, .obj h => .obj (e.pre _ _ h)
  | _, _, .tup h n r => .tup (e.ext _ _ n h) (e.mem n h) (Rs.evo e r)
  | _, _, .ktp h r => .ktp h (Rs.evo e r)
  | _, _, .ftp h d n r => .ftp (e.ext _ _ n h) d (e.mem n h) (Rs.evo e r)
  | _, _, .lst h n r => .lst (e.ext _ _ n h) (e.mem n h) (Rs.evo e r)
  | _, _, .fzl h r => .fzl (h.evo e) (Rs.evo e r)
  | _, _, .dk h n r => .dk (rd_evo e h n).1 (rd_evo e h n).2 (Rk.evo e r)
  | _, _, .dt h n r => .dt (rd_evo e h n).1 (rd_evo e h n).2 (Rt.evo e r)
theorem Rs.evo (e : Evw m m1 H H1) : ∀ {v : List V} {d : List D}, Rs K m H v d → Rs K m1 H1 v d
  | _, _, .nil => .nil
  | _, _, .cons r s => .cons (R.evo e r) (Rs.evo e s)
theorem Rk.evo (e : Evw m m1 H H1) : ∀ {v : List (Key × V)} {d : List (Key × D)}, Rk K m H v d → Rk K m1 H1 v d
  | _, _, .nil => .nil
  | _, _, .cons r s => .cons (R.evo e r) (Rk.evo e s)
theorem Rt.evo (e : Evw m m1 H H1) : ∀ {v : List (List Key × V)} {d : List (List Key × D)}, Rt K m H v d → Rt K m1 H1 v d
  | _, _, .nil => .nil
  | _, _, .cons r s => .cons (R.evo e r) (Rt.evo e s)
end
theorem Rs.len : ∀ {vs : List V} {ds : List D}, Rs K m H vs ds → vs.length = ds.length
  | _, _, .nil => rfl
  | _, _, .cons _ s => by
    rw [List.length_cons, List.length_cons, Rs.len s]
theorem Rs.get : ∀ {vs : List V} {ds : List D} {i : Nat} {d : D}, Rs K m H vs ds → ds[i]? = some d → ∃ v, vs[i]? = some v ∧ R K m H v d
  | _, _, _, _, .nil, h => by simp at h
  | _, _, 0, _, .cons r _, h => by
    simp at h
    exact ⟨_, rfl, h ▸ r⟩
  | _, _, i + 1, _, .cons _ s, h => by
    obtain ⟨v, e, r⟩ := Rs.get (i := i) s (by simpa using h)
    exact ⟨v, by simpa using e, r⟩
theorem Rs.getV : ∀ {vs : List V} {ds : List D} {i : Nat} {v : V}, Rs K m H vs ds → vs[i]? = some v → ∃ d, ds[i]? = some d ∧ R K m H v d
  | _, _, _, _, .nil, h => by simp at h
  | _, _, 0, _, .cons r _, h => by
    simp at h
    exact ⟨_, rfl, h ▸ r⟩
  | _, _, i + 1, _, .cons _ s, h => by
    obtain ⟨v, e, r⟩ := Rs.getV (i := i) s (by simpa using h)
    exact ⟨v, by simpa using e, r⟩
theorem Rs.app : ∀ {vs ws : List V} {ds es : List D}, Rs K m H vs ds → Rs K m H ws es → Rs K m H (vs ++ ws) (ds ++ es)
  | _, _, _, _, .nil, s => s
  | _, _, _, _, .cons r t, s => .cons r (Rs.app t s)
theorem Rs.take : ∀ {vs : List V} {ds : List D} (n : Nat), Rs K m H vs ds → Rs K m H (vs.take n) (ds.take n)
  | _, _, 0, _ => .nil
  | _, _, _ + 1, .nil => .nil
  | _, _, n + 1, .cons r s => .cons r (Rs.take n s)
theorem Rs.drop : ∀ {vs : List V} {ds : List D} (n : Nat), Rs K m H vs ds → Rs K m H (vs.drop n) (ds.drop n)
  | _, _, 0, s => s
  | _, _, _ + 1, .nil => .nil
  | _, _, n + 1, .cons _ s => Rs.drop n s
theorem Rs.set : ∀ {vs : List V} {ds : List D} {v : V} {d : D} (i : Nat), R K m H v d → Rs K m H vs ds → Rs K m H (vs.set i v) (ds.set i d)
  | _, _, _, _, _, _, .nil => .nil
  | _, _, _, _, 0, q, .cons _ s => .cons q s
  | _, _, _, _, i + 1, q, .cons r s => .cons r (Rs.set i q s)
theorem Rs.ints : ∀ (ns : List Int), Rs K m H (ns.map V.int) (ns.map D.int)
  | [] => .nil
  | _ :: r => .cons .int (Rs.ints r)
theorem Rs.rep (n : Nat) {v : V} {d : D} (h : R K m H v d) : Rs K m H (List.replicate n v) (List.replicate n d) := by
  induction n with
  | zero => exact .nil
  | succ n ih => exact .cons h ih
end
/-- what a cell's place holds -/
def CR (K : Fr) (m : Nm) (H : Hp) (a : Addr) : C → Prop
  | .lst ds => ∃ vs, H a = some (.lst vs) ∧ Rs K m H vs ds
  | .dk ds => ∃ vs, H a = some (.dK vs) ∧ Rk K m H vs ds
  | .dt ds => ∃ vs, H a = some (.dT vs) ∧ Rt K m H vs ds
structure Cells (K : Fr) (m : Nm) (H : Hp) (S : List C) : Prop where
  len : m.c.length = S.length
  nd : m.c.Nodup
  apart : ∀ a, a ∈ m.c → a ∉ m.b
  there : ∀ a, a ∈ m.b → H a ≠ none
  cel : ∀ (k : Nat) (c : C) (a : Addr), S[k]? = some c → m.c[k]? = some a → CR K m H a c
structure Rel (K : Fr) (m : Nm) (H : Hp) (σ : L2.St) (ρ : List (Option D)) (S : List C) : Prop where
  env : ∀ (i : Nat) (d : D), ρ[i]? = some (some d) → ∃ v, σ[i]? = some (some v) ∧ R K m H v d
  len : ρ.length = σ.length
  st : Cells K m H S
section
variable {K : Fr} {m m1 m2 : Nm} {H H1 H2 : Hp} {S S1 : List C} {σ : L2.St} {ρ : List (Option D)}
theorem CR.some {a : Addr} {c : C} (h : CR K m H a c) : H a ≠ none := by
  cases c <;> (obtain ⟨_, e, _⟩ := h; rw [e]; intro z; cases z)
theorem CR.evo {a : Addr} {c : C} (e : Evw m m1 H H1) (h : CR K m H a c) (k : H1 a = H a) : CR K m1 H1 a c := by
  cases c <;> (obtain ⟨vs, q, r⟩ := h; exact ⟨vs, k.trans q, r.evo e⟩)
theorem Cells.mem (st : Cells K m H S) {a : Addr} (h : a ∈ m) : H a ≠ none := by
  rcases h with h | h
  · obtain ⟨k, hk, e⟩ := List.mem_iff_getElem.mp h
    have hS : k < S.length := st.len ▸ hk
    exact (st.cel k _ a (List.getElem?_eq_getElem hS) (by rw [List.getElem?_eq_getElem hk, e])).some
  · exact st.there a h
theorem Cells.free (st : Cells K m H S) {p : Addr} (h : H p = none) : p ∉ m := fun q => st.mem q h
/-- a new object that is no cell -/
theorem Evo.made (st : Cells K m H S) {p : Addr} {o : HO} (h : H p = none) : Evo m m H (upd H p o) :=
  ⟨fun _ _ h => h, fun _ h n => absurd h n, fun a u _ e => by rw [upd_ne (ne_of_none e h)]; exact e, Nat.le_refl _, fun _ h => h, fun a ha => upd_ne (fun z => st.there a ha (z ▸ h))⟩
theorem Cells.made (st : Cells K m H S) {p : Addr} {o : HO} (h : H p = none) : Cells K m (upd H p o) S :=
  ⟨st.len, st.nd, st.apart, fun a ha => by rw [upd_ne (fun z : a = p => st.there a ha (by rw [z]; exact h))]; exact st.there a ha, fun k c a hc ha => (st.cel k c a hc ha).evo (Evo.made st h).w (upd_ne (fun z => (st.cel k c a hc ha).some (z ▸ h)))⟩
/-- a cell is written -/
theorem Evo.wr (st : Cells K m H S) {p : Addr} {o : HO} (hp : p ∈ m.c) : Evo m m H (upd H p o) :=
  ⟨fun _ _ h => h, fun _ h n => absurd h n, fun a u n e => by rw [upd_ne (fun z : a = p => n (by rw [z]; exact .inl hp))]; exact e, Nat.le_refl _, fun _ h => h, fun a ha => upd_ne (fun z => st.apart p hp (z ▸ ha))⟩
theorem nodup_inj {l : List Addr} (h : l.Nodup) {i j : Nat} {a : Addr} (hi : l[i]? = some a) (hj : l[j]? = some a) : i = j := by
  have key : ∀ {i j : Nat}, l[i]? = some a → l[j]? = some a → ¬ i < j := fun {i j} hi hj q => by
    obtain ⟨li, ei⟩ := List.getElem?_eq_some_iff.mp hi
    obtain ⟨lj, ej⟩ := List.getElem?_eq_some_iff.mp hj
    exact (List.pairwise_iff_getElem.mp h i j li lj q) (ei.trans ej.symm)
  have h1 := key hi hj
  have h2 := key hj hi
  omega
theorem Cells.wr (st : Cells K m H S) {k : Nat} {p : Addr} {o : HO} {c : C} (hp : m.c[k]? = some p) (hc : CR K m (upd H p o) p c) : Cells K m (upd H p o) (S.set k c) := by
  have hpm : p ∈ m.c := List.mem_of_getElem? hp
  refine ⟨by rw [List.length_set]; exact st.len, st.nd, st.apart, fun a ha => by rw [upd_ne (fun z : a = p => st.apart p hpm (by rw [← z]; exact ha))]; exact st.there a ha, fun j c' a hc' ha => ?_⟩
  by_cases e : j = k
  · subst e
    rw [hp] at ha
    cases ha
    have hS : j < S.length := st.len ▸ (List.getElem?_eq_some_iff.mp hp).1
    rw [List.getElem?_set_self hS] at hc'
    cases hc'
    exact hc
  · rw [List.getElem?_set_ne (Ne.symm e)] at hc'
    refine (st.cel j c' a hc' ha).evo (Evo.wr st hpm).w (upd_ne fun z => e ?_)
    exact nodup_inj st.nd ha (z ▸ hp)
/-- a new cell -/
theorem Evo.cell (st : Cells K m H S) {p : Addr} {o : HO} (h : H p = none) : Evo m (m.add p) H (upd H p o) where
  pre k a e := by
    show (m.c ++ [p])[k]? = some a
    rw [List.getElem?_append_left (List.getElem?_eq_some_iff.mp e).1]
    exact e
  new a q n := by
    rcases q with q | q
    · rcases List.mem_append.mp q with q | q
      · exact absurd (.inl q) n
      · rw [List.mem_singleton.mp q]
        exact h
    · exact absurd (.inr q) n
  ext a u _ e := by
    rw [upd_ne (ne_of_none e h)]
    exact e
  len := by
    show _ ≤ (m.c ++ [p]).length
    rw [List.length_append]
    exact Nat.le_add_right _ _
  hid _ h := h
  keep a ha := upd_ne (fun z => st.there a ha (z ▸ h))
theorem Cells.cell (st : Cells K m H S) {p : Addr} {o : HO} {c : C} (h : H p = none) (hc : CR K (m.add p) (upd H p o) p c) : Cells K (m.add p) (upd H p o) (S ++ [c]) where
  len := by
    show (m.c ++ [p]).length = _
    rw [List.length_append, List.length_append, st.len]
    rfl
  nd := List.nodup_append.mpr ⟨st.nd, List.nodup_cons.mpr ⟨by simp, List.nodup_nil⟩, fun a ha b hb => by
    rw [List.mem_singleton.mp hb]
    rintro rfl
    exact st.free h (.inl ha)⟩
  apart a ha := by
    rcases List.mem_append.mp ha with ha | ha
    · exact st.apart a ha
    · rw [List.mem_singleton.mp ha]
      exact fun z => st.there p z h
  there a ha := by
    rw [upd_ne (fun z : a = p => st.there a ha (by rw [z]; exact h))]
    exact st.there a ha
  cel k c' a hc' ha := by
    have ha : (m.c ++ [p])[k]? = some a := ha
    by_cases hk : k < m.c.length
    · rw [List.getElem?_append_left hk] at ha
      rw [List.getElem?_append_left (st.len ▸ hk)] at hc'
      exact (st.cel k c' a hc' ha).evo (Evo.cell st h).w (upd_ne (fun z => (st.cel k c' a hc' ha).some (z ▸ h)))
    · have e : k = m.c.length := by
        have := (List.getElem?_eq_some_iff.mp ha).1
        rw [List.length_append, List.length_singleton] at this
        omega
      subst e
      rw [List.getElem?_append_right (Nat.le_refl _), Nat.sub_self] at ha
      rw [st.len, List.getElem?_append_right (Nat.le_refl _), Nat.sub_self] at hc'
      cases ha
      cases hc'
      exact hc
theorem Rel.evo (r : Rel K m H σ ρ S) (e : Evo m m1 H H1) (st : Cells K m1 H1 S1) : Rel K m1 H1 σ ρ S1 :=
  ⟨fun i d h => by
    obtain ⟨v, hv, hr⟩ := r.env i d h
    exact ⟨v, hv, hr.evo e⟩, r.len, st⟩
theorem Rel.set (r : Rel K m H σ ρ S) {v : V} {d : D} (i : Nat) (h : R K m H v d) : Rel K m H (σ.set i (some v)) (ρ.set i (some d)) S := by
  refine ⟨fun j d' hj => ?_, by rw [List.length_set, List.length_set]; exact r.len, r.st⟩
  by_cases e : i = j
  · subst e
    by_cases hi : i < ρ.length
    · rw [List.getElem?_set_self hi] at hj
      cases hj
      exact ⟨v, List.getElem?_set_self (r.len ▸ hi), h⟩
    · rw [List.getElem?_eq_none (by rw [List.length_set]; omega)] at hj
      cases hj
  · rw [List.getElem?_set_ne e] at hj
    rw [List.getElem?_set_ne e]
    exact r.env j d' hj
end

/-! ### places that somebody else holds -/
section
variable {K : Fr} {m m1 : Nm} {H H1 : Hp} {S : List C} {p : Addr}
theorem mem_hide {a : Addr} : a ∈ m.hide p ↔ a = p ∨ a ∈ m := by
  constructor
  · rintro (h | h)
    · exact .inr (.inl h)
    · rcases List.mem_cons.mp h with h | h
      · exact .inl h
      · exact .inr (.inr h)
  · rintro (h | h | h)
    · exact .inr (List.mem_cons.mpr (.inl h))
    · exact .inl h
    · exact .inr (List.mem_cons.mpr (.inr h))
theorem not_hide {a : Addr} (h : a ∉ m) (n : a ≠ p) : a ∉ m.hide p := fun q => (mem_hide.mp q).elim n h
theorem of_hide {a : Addr} (h : a ∉ m.hide p) : a ∉ m := fun q => h (mem_hide.mpr (.inr q))
theorem ne_hide {a : Addr} (h : a ∉ m.hide p) : a ≠ p := fun q => h (mem_hide.mpr (.inl q))
mutual
theorem R.less (hc : ∀ (k : Nat) (a : Addr), m.c[k]? = some a → m1.c[k]? = some a) (hs : ∀ a, a ∈ m1 → a ∈ m) : ∀ {v : V} {d : D}, R K m H v d → R K m1 H v d
  | _, _, .non => .non
  | _, _, .bl => .bl
  | _, _, .int => .int
  | _, _, .str => .str
  | _, _, .raw => .raw
  | _, _, .obj h => .obj (hc _ _ h)
  | _, _, .tup h n r => .tup h (fun q => n (hs _ q)) (Rs.less hc hs r)
  | _, _, .lst h n r => .lst h (fun q => n (hs _ q)) (Rs.less hc hs r)
  | _, _, .ktp h r => .ktp h (Rs.less hc hs r)
  | _, _, .ftp h d n r => .ftp h d (fun q => n (hs _ q)) (Rs.less hc hs r)
  | _, _, .fzl h r => .fzl (h.imp (fun z => ⟨z.1, fun q => z.2 (hs _ q)⟩) id) (Rs.less hc hs r)
  | _, _, .dk h n r => .dk h (fun q => n (hs _ q)) (Rk.less hc hs r)
  | _, _, .dt h n r => .dt h (fun q => n (hs _ q)) (Rt.less hc hs r)
theorem Rs.less (hc : ∀ (k : Nat) (a : Addr), m.c[k]? = some a → m1.c[k]? = some a) (hs : ∀ a, a ∈ m1 → a ∈ m) : ∀ {v : List V} {d : List D}, Rs K m H v d → Rs K m1 H v d
  | _, _, .nil => .nil
  | _, _, .cons r s => .cons (R.less hc hs r) (Rs.less hc hs s)
theorem Rk.less (hc : ∀ (k : Nat) (a : Addr), m.c[k]? = some a → m1.c[k]? = some a) (hs : ∀ a, a ∈ m1 → a ∈ m) : ∀ {v : List (Key × V)} {d : List (Key × D)}, Rk K m H v d → Rk K m1 H v d
  | _, _, .nil => .nil
  | _, _, .cons r s => .cons (R.less hc hs r) (Rk.less hc hs s)
theorem Rt.less (hc : ∀ (k : Nat) (a : Addr), m.c[k]? = some a → m1.c[k]? = some a) (hs : ∀ a, a ∈ m1 → a ∈ m) : ∀ {v : List (List Key × V)} {d : List (List Key × D)}, Rt K m H v d → Rt K m1 H v d
  | _, _, .nil => .nil
  | _, _, .cons r s => .cons (R.less hc hs r) (Rt.less hc hs s)
end
mutual
theorem R.hwr {o : HO} (hp : p ∈ m.b) : ∀ {v : V} {d : D}, R K m H v d → R K m (upd H p o) v d
  | _, _, .non => .non
  | _, _, .bl => .bl
  | _, _, .int => .int
  | _, _, .str => .str
  | _, _, .raw => .raw
  | _, _, .obj h => .obj h
  | _, _, .tup h n r => .tup (by rw [upd_ne (fun z => n (by rw [z]; exact .inr hp))]; exact h) n (Rs.hwr hp r)
  | _, _, .lst h n r => .lst (by rw [upd_ne (fun z => n (by rw [z]; exact .inr hp))]; exact h) n (Rs.hwr hp r)
  | _, _, .ktp h r => .ktp h (Rs.hwr hp r)
  | _, _, .ftp h d n r => .ftp (by rw [upd_ne (fun z => n (by rw [z]; exact .inr hp))]; exact h) d n (Rs.hwr hp r)
  | _, _, .fzl h r => .fzl (by
      rcases h with ⟨h, n⟩ | h
      · refine .inl ⟨?_, n⟩
        unfold Rd at h ⊢
        rw [upd_ne (fun z => n (by rw [z]; exact .inr hp))]
        exact h
      · exact .inr h) (Rs.hwr hp r)
  | _, _, .dk h n r => .dk (by unfold Rd at h ⊢; rw [upd_ne (fun z => n (by rw [z]; exact .inr hp))]; exact h) n (Rk.hwr hp r)
  | _, _, .dt h n r => .dt (by unfold Rd at h ⊢; rw [upd_ne (fun z => n (by rw [z]; exact .inr hp))]; exact h) n (Rt.hwr hp r)
theorem Rs.hwr {o : HO} (hp : p ∈ m.b) : ∀ {v : List V} {d : List D}, Rs K m H v d → Rs K m (upd H p o) v d
  | _, _, .nil => .nil
  | _, _, .cons r s => .cons (R.hwr hp r) (Rs.hwr hp s)
theorem Rk.hwr {o : HO} (hp : p ∈ m.b) : ∀ {v : List (Key × V)} {d : List (Key × D)}, Rk K m H v d → Rk K m (upd H p o) v d
  | _, _, .nil => .nil
  | _, _, .cons r s => .cons (R.hwr hp r) (Rk.hwr hp s)
theorem Rt.hwr {o : HO} (hp : p ∈ m.b) : ∀ {v : List (List Key × V)} {d : List (List Key × D)}, Rt K m H v d → Rt K m (upd H p o) v d
  | _, _, .nil => .nil
  | _, _, .cons r s => .cons (R.hwr hp r) (Rt.hwr hp s)
end
/-- a new place, from here on somebody's -/
theorem Evo.hide (st : Cells K m H S) {o : HO} (hp : H p = none) : Evo m (m.hide p) H (upd H p o) where
  pre _ _ h := h
  new a h n := by
    rcases mem_hide.mp h with h | h
    · rw [h]
      exact hp
    · exact absurd h n
  ext a u _ e := by
    rw [upd_ne (ne_of_none e hp)]
    exact e
  len := Nat.le_refl _
  hid a h := List.mem_cons_of_mem _ h
  keep a ha := upd_ne (fun z => st.there a ha (z ▸ hp))
theorem Cells.hide (st : Cells K m H S) {o : HO} (hp : H p = none) : Cells K (m.hide p) (upd H p o) S where
  len := st.len
  nd := st.nd
  apart a ha := fun z => by
    rcases List.mem_cons.mp z with z | z
    · exact st.free hp (.inl (z ▸ ha))
    · exact st.apart a ha z
  there a ha := by
    rcases List.mem_cons.mp ha with z | z
    · rw [z, upd_same]
      intro q
      cases q
    · rw [upd_ne (fun q : a = p => st.there a z (by rw [q]; exact hp))]
      exact st.there a z
  cel k c a hc ha := by
    have h := st.cel k c a hc ha
    exact h.evo (Evo.hide st hp).w (upd_ne (fun z => h.some (z ▸ hp)))
def Nm.del (m : Nm) (p : Addr) : Nm := ⟨m.c, m.b.filter fun a => decide (a ≠ p)⟩
theorem mem_del {a : Addr} (h : a ∈ m.del p) : a ∈ m := h.imp id fun q => (List.mem_filter.mp q).1
theorem not_del (st : Cells K m H S) (hp : p ∈ m.b) : p ∉ m.del p := fun h => by
  rcases h with h | h
  · exact st.apart p h hp
  · exact of_decide_eq_true (List.mem_filter.mp h).2 rfl
theorem Cells.less (st : Cells K m H S) (hc : m1.c = m.c) (hs : ∀ a, a ∈ m1.b → a ∈ m.b) : Cells K m1 H S where
  len := by
    rw [hc]
    exact st.len
  nd := by
    rw [hc]
    exact st.nd
  apart a ha := fun z => st.apart a (hc ▸ ha) (hs a z)
  there a ha := st.there a (hs a ha)
  cel k c a hk ha := by
    have h := st.cel k c a hk (hc ▸ ha)
    have hm : ∀ a, a ∈ m1 → a ∈ m := fun a q => by
      rcases q with q | q
      · exact .inl (hc ▸ q)
      · exact .inr (hs a q)
    cases c <;> (obtain ⟨vs, q, r⟩ := h; exact ⟨vs, q, r.less (fun k a z => by rw [hc]; exact z) hm⟩)
theorem Cells.hwr (st : Cells K m H S) {o : HO} (hp : p ∈ m.b) : Cells K m (upd H p o) S where
  len := st.len
  nd := st.nd
  apart := st.apart
  there a ha := by
    by_cases e : a = p
    · rw [e, upd_same]
      intro q
      cases q
    · rw [upd_ne e]
      exact st.there a ha
  cel k c a hc ha := by
    have h := st.cel k c a hc ha
    have e : upd H p o a = H a := upd_ne (fun z => st.apart a (List.mem_of_getElem? ha) (z ▸ hp))
    cases c <;> (obtain ⟨vs, q, r⟩ := h; exact ⟨vs, e.trans q, r.hwr hp⟩)
end
end Mi
namespace Mi
open PySem PySem.Spec PyProof.Rows L2

abbrev Env := List (Option D)
abbrev Sto := List C
abbrev ME := Env → Sto → Option (D × Sto)
abbrev MA := Env → Sto → Option (List D × Sto)
abbrev MT := Env → Sto → Option (Bool × Sto)

/-- where one stands -/
structure G where
  P : Program
  w : World
  K : Fr
  mg : Str → Option Value
  base : Heap
  N : List Str
  sc : Scope
  ow : Scope
  k : Nat
structure G.On (g : G) (X : Cx) : Prop where
  p : X.prog = g.P
  w : X.w = g.w
  K : X.K = g.K
  mg : X.mg = g.mg
  base : X.base = g.base
  N : X.N = g.N
  sc : X.env.scope = g.sc
  nd : X.N.Nodup
  calm : X.calm = true
  room : Room g.k X.A
  gd : X.A.guards = some []
  pass : PassesOwn (model X.prog X.w) X.A X.env X.xe
  fn : ∀ x, g.ow.names.lookup x = some .cell → X.fn x = true
theorem G.On.hu {g : G} {X : Cx} (h : g.On X) : X.A.units + 100 < cLine := by
  have := h.room.un
  omega

def GoodE (K : Fr) (t : TE) (f : ME) : Prop := ∀ ρ S d S', f ρ S = some (d, S') → ∀ m H σ, Rel K m H σ ρ S → ∀ Q : VK, (∀ v m' H', Evo m m' H H' → R K m' H' v d → Cells K m' H' S' → Q v H') → t σ H Q
def GoodA (K : Fr) (t : TA) (f : MA) : Prop := ∀ ρ S d S', f ρ S = some (d, S') → ∀ m H σ, Rel K m H σ ρ S → ∀ Q : List V → Hp → Prop, (∀ v m' H', Evo m m' H H' → Rs K m' H' v d → Cells K m' H' S' → Q v H') → t σ H Q
def GoodT (K : Fr) (t : TT) (f : MT) : Prop := ∀ ρ S d S', f ρ S = some (d, S') → ∀ m H σ, Rel K m H σ ρ S → ∀ Q : Bool → Hp → Prop, (∀ m' H', Evo m m' H H' → Cells K m' H' S' → Q d H') → t σ H Q

structure Ms (g : G) (e : Expr) (f : ME) : Prop where
  ok : ∀ X, g.On X → ∃ t, PE X e t ∧ GoodE g.K t f
structure Ma (g : G) (es : List Expr) (f : MA) : Prop where
  ok : ∀ X, g.On X → ∃ t, PA X es t ∧ GoodA g.K t f
structure Mt (g : G) (e : Expr) (f : MT) : Prop where
  ok : ∀ X, g.On X → ∃ t, PT X e t ∧ GoodT g.K t f
structure Mw (g : G) (e : Expr) (f : MT) : Prop where
  ok : ∀ X, g.On X → ∃ t, PW X e t ∧ GoodT g.K t f

/-! ### two in a row -/
theorem bind_some {α β : Type} {o : Option α} {f : α → Option β} {b : β} (h : o.bind f = some b) : ∃ a, o = some a ∧ f a = some b := Option.bind_eq_some_iff.mp h

def visB (N : List Str) (sc : Scope) (i : Nat) (x : Str) : Bool :=
  decide (N[i]? = some x) && (match sc.names.lookup x with | some .local => true | some .cell => true | some .free => true | _ => false) && !(x == ("__debug__" : Str)) && !(x == ("__classdict__" : Str))
theorem visB_ok {N : List Str} {sc : Scope} {i : Nat} {x : Str} (h : visB N sc i x = true) : N[i]? = some x ∧ Vis sc x ∧ (x == ("__debug__" : Str)) = false ∧ (x == ("__classdict__" : Str)) = false := by
  unfold visB at h
  simp only [Bool.and_eq_true, decide_eq_true_eq, Bool.not_eq_true'] at h
  obtain ⟨⟨⟨h1, h2⟩, h3⟩, h4⟩ := h
  refine ⟨h1, ?_, h3, h4⟩
  unfold Vis
  split at h2
  · exact .inl (by assumption)
  · exact .inr (.inl (by assumption))
  · exact .inr (.inr (by assumption))
  · cases h2
def mVar (i : Nat) : ME := fun ρ S => match ρ[i]? with | some (some d) => some (d, S) | _ => none
theorem ms_var {g : G} {x : Str} {pos : Pos} (i : Nat) (h : visB g.N g.sc i x = true) : Ms g (.Name x pos) (mVar i) := by
  refine ⟨fun X hX => ?_⟩
  obtain ⟨h1, h2, h3, h4⟩ := visB_ok h
  refine ⟨_, pe_var (i := i) (by rw [hX.N]; exact h1) (by rw [hX.sc]; exact h2) h3 h4, fun ρ S d S' e m H σ r Q q => ?_⟩
  unfold mVar at e
  split at e
  · rename_i d' hd
    cases e
    obtain ⟨v, hv, hr⟩ := r.env i _ hd
    exact ⟨v, hv, q v m H .refl hr r.st⟩
  · cases e
def mC (d : D) : ME := fun _ S => some (d, S)
theorem goodC {K : Fr} {v : V} {d : D} (h : ∀ m H, R K m H v d) : GoodE K (tC v) (mC d) := fun ρ S d' S' e m H σ r Q q => by
  cases e
  exact q v m H .refl (h m H) r.st
section
variable {g : G} {pos p : Pos} {j : Nat}
theorem ms_int {i : Int} : Ms g (.Constant (.int i) j pos) (mC (.int i)) := ⟨fun X hX => ⟨_, pe_int, goodC fun _ _ => .int⟩⟩
theorem ms_bl {b : Bool} : Ms g (.Constant (.bool b) j pos) (mC (.bl b)) := ⟨fun X hX => ⟨_, pe_bl, goodC fun _ _ => .bl⟩⟩
theorem ms_non : Ms g (.Constant .none j pos) (mC .non) := ⟨fun X hX => ⟨_, pe_non, goodC fun _ _ => .non⟩⟩
theorem ms_str {x : Str} : Ms g (.Constant (.str x) j pos) (mC (.str x)) := ⟨fun X hX => ⟨_, pe_str, goodC fun _ _ => .str⟩⟩
end
def glB (sc : Scope) (x : Str) : Bool := decide (sc.names.lookup x = some .globalImplicit) && !(x == ("__debug__" : Str)) && decide (x ≠ "__name__")
theorem glB_ok {g : G} {X : Cx} {x : Str} (hX : g.On X) (h : glB g.sc x = true) : Gl X x ∧ (x == ("__debug__" : Str)) = false ∧ x ≠ "__name__" := by
  unfold glB at h
  simp only [Bool.and_eq_true, decide_eq_true_eq, Bool.not_eq_true'] at h
  obtain ⟨⟨h1, h2⟩, h3⟩ := h
  refine ⟨?_, h2, h3⟩
  show X.env.scope.names.lookup x = _
  rw [hX.sc]
  exact h1
/-- a constant of the module -/
theorem ms_glob {g : G} {x : Str} {pos : Pos} {u : Value} {v : V} {d : D} (hm : g.mg x = some u) (r : RelV v u) (hd : ∀ m H, R g.K m H v d) (h : glB g.sc x = true) : Ms g (.Name x pos) (mC d) := by
  refine ⟨fun X hX => ?_⟩
  obtain ⟨h1, h2, _⟩ := glB_ok hX h
  exact ⟨_, pe_glob h1 (by rw [hX.mg]; exact hm) r h2, goodC hd⟩

/-! ### operators -/
abbrev DOp := Sto → D → D → Option D
def GoodOp (K : Fr) (rr : R2) (r : DOp) : Prop := ∀ S x y z, r S x y = some z → ∀ m H vx vy, R K m H vx x → R K m H vy y → Cells K m H S → ∀ Q : VK, (∀ v H', Evo m m H H' → R K m H' v z → Cells K m H' S → Q v H') → rr vx vy H Q
def mOp (r : DOp) (f h : ME) : ME := fun ρ S => (f ρ S).bind fun a => (h ρ a.2).bind fun b => (r b.2 a.1 b.1).bind fun z => some (z, b.2)
theorem goodOp {K : Fr} {rr : R2} {r : DOp} {ta tb : TE} {f h : ME} (ho : GoodOp K rr r) (ha : GoodE K ta f) (hb : GoodE K tb h) : GoodE K (tOp rr ta tb) (mOp r f h) := by
  intro ρ S d S' e m H σ rl Q q
  obtain ⟨⟨x, S1⟩, e1, e⟩ := bind_some e
  obtain ⟨⟨y, S2⟩, e2, e⟩ := bind_some e
  obtain ⟨z, e3, e⟩ := bind_some e
  cases e
  refine ha ρ S x S1 e1 m H σ rl _ fun vx m1 H1 ev1 rx st1 => ?_
  refine hb ρ S1 y S2 e2 m1 H1 σ (rl.evo ev1 st1) _ fun vy m2 H2 ev2 ry st2 => ?_
  refine ho S2 x y d e3 m2 H2 vx vy (rx.evo ev2) ry st2 Q fun v H3 ev3 rz st3 => ?_
  exact q v m2 H3 ((ev1.trans ev2).trans ev3) rz st3
theorem ms_op {g : G} {op : Operator} {a b : Expr} {pos : Pos} {r : DOp} {f h : ME} (ho : ∀ X, g.On X → ∃ rr, OpR X (binaryOp op) rr ∧ GoodOp g.K rr r) (ha : Ms g a f) (hb : Ms g b h) : Ms g (.BinOp a op b pos) (mOp r f h) := by
  refine ⟨fun X hX => ?_⟩
  obtain ⟨rr, o1, o2⟩ := ho X hX
  obtain ⟨ta, a1, a2⟩ := ha.ok X hX
  obtain ⟨tb, b1, b2⟩ := hb.ok X hX
  exact ⟨_, pe_op o1 a1 b1, goodOp o2 a2 b2⟩
theorem ms_cmp {g : G} {op : CmpOp} {a b : Expr} {pos : Pos} {r : DOp} {f h : ME} (ho : ∀ X, g.On X → ∃ rr, OpR X (compareOp op) rr ∧ GoodOp g.K rr r) (ha : Ms g a f) (hb : Ms g b h) (hm : behindInMarks op b = false := by first | exact nobehind _ (by decide) (by decide) | rfl) : Ms g (.Compare a [op] [b] pos) (mOp r f h) := by
  refine ⟨fun X hX => ?_⟩
  obtain ⟨rr, o1, o2⟩ := ho X hX
  obtain ⟨ta, a1, a2⟩ := ha.ok X hX
  obtain ⟨tb, b1, b2⟩ := hb.ok X hX
  exact ⟨_, pe_cmpR o1 a1 b1 hm, goodOp o2 a2 b2⟩
theorem OpR.or {X : Cx} {f : Value → Value → Sem Value} {r1 r2 : R2} (h1 : OpR X f r1) (h2 : OpR X f r2) : OpR X f (fun x y H Q => r1 x y H Q ∨ r2 x y H Q) := by
  intro pins s σ H x y v u Q I rx ry h
  rcases h with h | h
  · exact h1 pins s σ H x y v u Q I rx ry h
  · exact h2 pins s σ H x y v u Q I rx ry h
/-- the list that is read: a tree's, a cell's -/
def lstOf (S : Sto) : D → Option (List D)
  | .lst ds => some ds
  | .obj k => match S[k]? with | some (.lst ds) => some ds | _ => none
  | _ => none
theorem lstOf_ok {K : Fr} {m : Nm} {H : Hp} {S : Sto} {d : D} {ds : List D} {v : V} (h : lstOf S d = some ds) (r : R K m H v d) (st : Cells K m H S) : ∃ a vs, v = .ref a ∧ H a = some (.lst vs) ∧ Rs K m H vs ds := by
  cases r
  case lst a vs ds' hl n rs =>
    cases h
    exact ⟨a, vs, rfl, hl, rs⟩
  case obj k a ha =>
    simp only [lstOf] at h
    split at h
    · rename_i ds' hs
      cases h
      obtain ⟨vs, h1, h2⟩ := st.cel k _ a hs ha
      exact ⟨a, vs, rfl, h1, h2⟩
    · cases h
  all_goals cases h
/-- list or tuple, that is read -/
def seqOf (S : Sto) : D → Option (List D)
  | .tup ds => some ds
  | .fzl ds => some ds
  | .ktp ds => some ds
  | .ftp ds => some ds
  | d => lstOf S d
theorem seqOf_ok {K : Fr} {m : Nm} {H : Hp} {S : Sto} {d : D} {ds : List D} {v : V} (h : seqOf S d = some ds) (r : R K m H v d) (st : Cells K m H S) : ∃ a vs, v = .ref a ∧ (SqL K H a vs ∨ SqT K H a vs) ∧ Rs K m H vs ds := by
  cases r
  case tup a vs ds' ht hn rs => cases h; exact ⟨a, vs, rfl, .inr (SqT.of ht), rs⟩
  case ktp a vs ds' ht rs => cases h; exact ⟨a, vs, rfl, .inr (sqT_any ht), rs⟩
  case ftp a o vs ds' ht hd hn rs => cases h; exact ⟨a, vs, rfl, .inr (.inl (.inr ⟨o, ht⟩)), rs⟩
  case fzl a vs ds' ht rs => cases h; exact ⟨a, vs, rfl, .inl ht.sq, rs⟩
  case lst a vs ds' hl n rs => cases h; exact ⟨a, vs, rfl, .inl (SqL.of hl), rs⟩
  case obj k a ha =>
    obtain ⟨a', vs, e, h1, h2⟩ := lstOf_ok (d := .obj k) h (.obj ha) st
    exact ⟨a', vs, e, .inl (SqL.of h1), h2⟩
  all_goals cases h
/-- a new list | tuple at p -/
theorem newL {K : Fr} {m : Nm} {H : Hp} {S : Sto} {p : Addr} {vs : List V} {ds : List D} (st : Cells K m H S) (hp : H p = none) (r : Rs K m H vs ds) : R K m (upd H p (.lst vs)) (.ref p) (.lst ds) :=
  .lst upd_same (st.free hp) (r.evo (Evo.made st hp).w)
theorem newT {K : Fr} {m : Nm} {H : Hp} {S : Sto} {p : Addr} {vs : List V} {ds : List D} (st : Cells K m H S) (hp : H p = none) (r : Rs K m H vs ds) : R K m (upd H p (.tup vs)) (.ref p) (.tup ds) :=
  .tup upd_same (st.free hp) (r.evo (Evo.made st hp).w)

theorem newF {K : Fr} {m : Nm} {H : Hp} {S : Sto} {p : Addr} {o : Obj} {vs : List V} {ds : List D} (st : Cells K m H S) (hp : H p = none) (hd : o.dict = none) (r : Rs K m H vs ds) : R K m (upd H p (.frz o (.tup vs))) (.ref p) (.ftp ds) :=
  .ftp upd_same hd (st.free hp) (r.evo (Evo.made st hp).w)
/-- t + u, both tuples' objects known: the answer's too -/
def FTp (H : Hp) (a : Addr) (xs : List V) : Prop := ∃ o : Obj, H a = some (.frz o (.tup xs)) ∧ o.dict = none
def rCatF : R2 := fun x y H Q => ∃ a b xs ys, x = .ref a ∧ y = .ref b ∧ FTp H a xs ∧ FTp H b ys ∧ xs.length + ys.length ≤ sizeLine ∧
  (xs = [] → Q (.ref b) H) ∧ (xs ≠ [] → ys = [] → Q (.ref a) H) ∧ (xs ≠ [] → ys ≠ [] → ∀ p (o : Obj), H p = none → o.dict = none → Q (.ref p) (upd H p (.frz o (.tup (xs ++ ys)))))
theorem op_catF {X : Cx} : OpR X (binaryOp .Add) rCatF := by
  intro pins s σ H x y v u Q I rx ry h
  obtain ⟨a, b, xs, ys, rfl, rfl, ⟨oa, ha, _⟩, ⟨ob, hb, _⟩, hz, q0, q1, q2⟩ := h
  cases rx
  cases ry
  obtain ⟨its, r1, p1, _⟩ := I.tuple (show SqT X.K H a xs from .inl (.inr ⟨oa, ha⟩))
  obtain ⟨its2, r2, p2, _⟩ := I.tuple (show SqT X.K H b ys from .inl (.inr ⟨ob, hb⟩))
  by_cases hx : xs = []
  · subst hx
    cases r1
    exact cat_tup0 p1 p2 ⟨.ref b, H, I, rfl, q0 rfl⟩
  · have n1 : its ≠ [] := fun z => hx (r1.nil_iff.mp z)
    refine HT.cat_tup p1 p2 n1 (fun z => ⟨.ref a, H, I, rfl, q1 hx (r2.nil_iff.mp z)⟩) (fun z => ?_) (by rw [← r1.length, ← r2.length]; exact hz)
    have hg : (s.heap.push { cls := .type "tuple", data := .seq (its ++ its2).toArray }).get? s.heap.objs.size = some ({ cls := .type "tuple", data := .seq (its ++ its2).toArray } : Obj) := Heap.get?_push_size _ rfl
    refine ⟨.ref s.heap.objs.size, _, I.laid (t' := s.toks) (o := .frz { cls := .type "tuple", data := .seq (its ++ its2).toArray } (.tup (xs ++ ys))) (fun b ob q => Heap.get?_push_of_some _ q) (Nat.le_refl _) ?_, rfl,
      q2 hx (fun w => z (r2.nil_iff.mpr w)) _ _ (I.hok.fresh (Nat.le_refl _)) rfl⟩
    exact ⟨hg, by rw [List.length_append]; exact hz, _, r1.append r2, IsTup.new _ _⟩
def dAdd : DOp := fun S x y => match x, y with
  | .int i, .int j => some (.int (i + j))
  | .str a, .str b => if a.length + b.length ≤ sizeLine then some (.str (a ++ b)) else none
  | .tup xs, .tup ys => if xs.length + ys.length ≤ sizeLine then some (.tup (xs ++ ys)) else none
  | .ftp xs, .ftp ys => if xs.length + ys.length ≤ sizeLine then some (.ftp (xs ++ ys)) else none
  | .ftp xs, .tup ys => if xs.length + ys.length ≤ sizeLine then some (if xs.isEmpty then .tup ys else if ys.isEmpty then .ftp xs else .tup (xs ++ ys)) else none
  | .tup xs, .ftp ys => if xs.length + ys.length ≤ sizeLine then some (if xs.isEmpty then .ftp ys else if ys.isEmpty then .tup xs else .tup (xs ++ ys)) else none
  | x, y => (lstOf S x).bind fun xs => (lstOf S y).bind fun ys => if xs.length + ys.length ≤ sizeLine then some (.lst (xs ++ ys)) else none
theorem good_add {g : G} : ∀ X, g.On X → ∃ rr, OpR X (binaryOp .Add) rr ∧ GoodOp g.K rr dAdd := by
  intro X hX
  refine ⟨_, OpR.or (OpR.or op_add op_add_str) (OpR.or (OpR.or op_catA op_catF) op_cat), ?_⟩
  rw [hX.K]
  intro S x y z e m H vx vy rx ry st Q q
  unfold dAdd at e
  split at e
  · cases e; cases rx; cases ry
    exact .inl (.inl ⟨_, _, rfl, rfl, q _ H .refl .int st⟩)
  · cases rx; cases ry
    split at e
    · cases e
      exact .inl (.inr ⟨_, _, rfl, rfl, by assumption, q _ H .refl .str st⟩)
    · cases e
  · cases rx; cases ry
    rename_i xs ys a vs ta na ra b ws tb nb rb
    split at e
    · rename_i hz
      cases e
      refine .inr (.inl (.inl ⟨a, b, vs, ws, rfl, rfl, SqT.of ta, SqT.of tb, by rw [ra.len, rb.len]; exact hz, fun e => ?_, fun _ e => ?_, fun _ _ p hp => ?_⟩))
      · subst e
        cases ra
        exact q _ H .refl (.tup tb nb rb) st
      · subst e
        cases rb
        rw [List.append_nil] at q
        exact q _ H .refl (.tup ta na ra) st
      · exact q _ _ (Evo.made st hp) (newT st hp (ra.app rb)) (st.made hp)
    · cases e
  · cases rx; cases ry
    rename_i xs ys a oa vs ta da na ra b ob ws tb db nb rb
    split at e
    · rename_i hz
      cases e
      refine .inr (.inl (.inr ⟨a, b, vs, ws, rfl, rfl, ⟨oa, ta, da⟩, ⟨ob, tb, db⟩, by rw [ra.len, rb.len]; exact hz, fun e => ?_, fun _ e => ?_, fun _ _ p o hp ho => ?_⟩))
      · subst e
        cases ra
        exact q _ H .refl (.ftp tb db nb rb) st
      · subst e
        cases rb
        rw [List.append_nil] at q
        exact q _ H .refl (.ftp ta da na ra) st
      · exact q _ _ (Evo.made st hp) (newF st hp ho (ra.app rb)) (st.made hp)
    · cases e
  · cases rx; cases ry
    rename_i xs ys a oa vs ta da na ra b ws tb nb rb
    split at e
    · rename_i hz
      cases e
      refine .inr (.inl (.inl ⟨a, b, vs, ws, rfl, rfl, .inl (.inr ⟨oa, ta⟩), SqT.of tb, by rw [ra.len, rb.len]; exact hz, fun e => ?_, fun n e => ?_, fun n1 n2 p hp => ?_⟩))
      · subst e
        cases ra
        exact q _ H .refl (.tup tb nb rb) st
      · subst e
        cases rb
        cases ra
        · exact absurd rfl n
        · exact q _ H .refl (.ftp ta da na (.cons (by assumption) (by assumption))) st
      · cases ra
        · exact absurd rfl n1
        · cases rb
          · exact absurd rfl n2
          · exact q _ _ (Evo.made st hp) (newT st hp ((Rs.cons (by assumption) (by assumption)).app (Rs.cons (by assumption) (by assumption)))) (st.made hp)
    · cases e
  · cases rx; cases ry
    rename_i xs ys a vs ta na ra b ob ws tb db nb rb
    split at e
    · rename_i hz
      cases e
      refine .inr (.inl (.inl ⟨a, b, vs, ws, rfl, rfl, SqT.of ta, .inl (.inr ⟨ob, tb⟩), by rw [ra.len, rb.len]; exact hz, fun e => ?_, fun n e => ?_, fun n1 n2 p hp => ?_⟩))
      · subst e
        cases ra
        exact q _ H .refl (.ftp tb db nb rb) st
      · subst e
        cases rb
        cases ra
        · exact absurd rfl n
        · exact q _ H .refl (.tup ta na (.cons (by assumption) (by assumption))) st
      · cases ra
        · exact absurd rfl n1
        · cases rb
          · exact absurd rfl n2
          · exact q _ _ (Evo.made st hp) (newT st hp ((Rs.cons (by assumption) (by assumption)).app (Rs.cons (by assumption) (by assumption)))) (st.made hp)
    · cases e
  · obtain ⟨xs, e1, e⟩ := bind_some e
    obtain ⟨ys, e2, e⟩ := bind_some e
    split at e
    · rename_i hz
      cases e
      obtain ⟨a, vs, rfl, ha, ra⟩ := lstOf_ok e1 rx st
      obtain ⟨b, ws, rfl, hb, rb⟩ := lstOf_ok e2 ry st
      exact .inr (.inr ⟨a, b, vs, ws, rfl, rfl, ha, hb, by rw [ra.len, rb.len]; exact hz, fun p hp => q _ _ (Evo.made st hp) (newL st hp (ra.app rb)) (st.made hp)⟩)
    · cases e
end Mi
namespace Mi
open PySem PySem.Spec PyProof.Rows L2

/-! ### ints -/
def dI (p : Int → Int → Option D) : DOp := fun _ x y => match x, y with
  | .int i, .int j => p i j
  | _, _ => none
theorem dI_some {p : Int → Int → Option D} {S : Sto} {x y z : D} (e : dI p S x y = some z) : ∃ i j, x = .int i ∧ y = .int j ∧ p i j = some z := by
  unfold dI at e
  split at e
  · exact ⟨_, _, rfl, rfl, e⟩
  · cases e
theorem good_I {K : Fr} {C : Int → Int → Prop} {gI : Int → Int → V} {p : Int → Int → Option D} (h : ∀ i j z, p i j = some z → C i j ∧ ∀ m H, R K m H (gI i j) z) : GoodOp K (rI C gI) (dI p) := by
  intro S x y z e m H vx vy rx ry st Q q
  obtain ⟨i, j, rfl, rfl, e⟩ := dI_some e
  cases rx; cases ry
  obtain ⟨c, r⟩ := h i j z e
  exact ⟨i, j, rfl, rfl, c, q _ H .refl (r m H) st⟩
theorem good_I0 {K : Fr} {gI : Int → Int → V} {p : Int → Int → Option D} (h : ∀ i j z, p i j = some z → ∀ m H, R K m H (gI i j) z) : GoodOp K (rI0 gI) (dI p) := by
  intro S x y z e m H vx vy rx ry st Q q
  obtain ⟨i, j, rfl, rfl, e⟩ := dI_some e
  cases rx; cases ry
  exact ⟨i, j, rfl, rfl, q _ H .refl (h i j z e m H) st⟩
theorem GoodOp.or {K : Fr} {r1 r2 : R2} {f h : DOp} (a : GoodOp K r1 f) (b : GoodOp K r2 h) : GoodOp K (fun x y H Q => r1 x y H Q ∨ r2 x y H Q) (fun S x y => (f S x y).or (h S x y)) := by
  intro S x y z e m H vx vy rx ry st Q q
  rcases Option.or_eq_some_iff.mp e with e | ⟨_, e⟩
  · exact .inl (a S x y z e m H vx vy rx ry st Q q)
  · exact .inr (b S x y z e m H vx vy rx ry st Q q)
theorem op_orG {g : G} {F : Value → Value → Sem Value} {f h : DOp} (a : ∀ X, g.On X → ∃ rr, OpR X F rr ∧ GoodOp g.K rr f) (b : ∀ X, g.On X → ∃ rr, OpR X F rr ∧ GoodOp g.K rr h) :
    ∀ X, g.On X → ∃ rr, OpR X F rr ∧ GoodOp g.K rr (fun S x y => (f S x y).or (h S x y)) := fun X hX => by
  obtain ⟨r1, a1, a2⟩ := a X hX
  obtain ⟨r2, b1, b2⟩ := b X hX
  exact ⟨_, OpR.or a1 b1, a2.or b2⟩
section
variable {g : G}
def dSub : DOp := dI fun i j => some (.int (i - j))
theorem good_sub : ∀ X, g.On X → ∃ rr, OpR X (binaryOp .Sub) rr ∧ GoodOp g.K rr dSub := fun X _ => ⟨_, op_sub, good_I0 fun i j z e m H => by cases e; exact .int⟩
def dMulI : DOp := dI fun i j => if (-(2 ^ 64) < i ∧ i < 2 ^ 64) ∨ (-(2 ^ 64) < j ∧ j < 2 ^ 64) then some (.int (i * j)) else none
theorem good_mulI : ∀ X, g.On X → ∃ rr, OpR X (binaryOp .Mult) rr ∧ GoodOp g.K rr dMulI := fun X _ => ⟨_, op_mul, good_I fun i j z e => by
  split at e
  · cases e
    exact ⟨by assumption, fun _ _ => .int⟩
  · cases e⟩
/-- xs * n -/
def dRepL : DOp := fun S x y => match y with
  | .int k => (lstOf S x).bind fun xs => if -(2 ^ 63) ≤ k ∧ k < 2 ^ 63 ∧ xs.length * k.toNat ≤ sizeLine then some (.lst (List.replicate k.toNat xs).flatten) else none
  | _ => none
theorem rs_flat {K : Fr} {m : Nm} {H : Hp} {vs : List V} {ds : List D} (r : Rs K m H vs ds) : ∀ n : Nat, Rs K m H (List.replicate n vs).flatten (List.replicate n ds).flatten
  | 0 => .nil
  | n + 1 => by
    rw [List.replicate_succ, List.replicate_succ, List.flatten_cons, List.flatten_cons]
    exact r.app (rs_flat r n)
theorem good_repL : ∀ X, g.On X → ∃ rr, OpR X (binaryOp .Mult) rr ∧ GoodOp g.K rr dRepL := fun X _ => ⟨_, op_rep, fun S x y z e m H vx vy rx ry st Q q => by
  unfold dRepL at e
  split at e
  · cases ry
    obtain ⟨xs, e1, e⟩ := bind_some e
    split at e
    · rename_i h
      cases e
      obtain ⟨a, vs, rfl, ha, ra⟩ := lstOf_ok e1 rx st
      exact ⟨a, _, vs, rfl, rfl, ha, h.1, h.2.1, by rw [ra.len]; exact h.2.2, fun p hp => q _ _ (Evo.made st hp) (newL st hp (rs_flat ra _)) (st.made hp)⟩
    · cases e
  · cases e⟩
def dMul : DOp := fun S x y => (dMulI S x y).or (dRepL S x y)
theorem good_mul : ∀ X, g.On X → ∃ rr, OpR X (binaryOp .Mult) rr ∧ GoodOp g.K rr dMul := op_orG good_mulI good_repL
def dFdiv : DOp := dI fun i j => if 0 < j ∧ j < 1073741824 then some (.int (i / j)) else none
theorem good_fdiv : ∀ X, g.On X → ∃ rr, OpR X (binaryOp .FloorDiv) rr ∧ GoodOp g.K rr dFdiv := fun X _ => ⟨_, op_fdiv, good_I fun i j z e => by
  split at e
  · cases e
    exact ⟨by assumption, fun _ _ => .int⟩
  · cases e⟩
def dMod : DOp := dI fun i j => if 0 < j then some (.int (i % j)) else none
theorem good_mod : ∀ X, g.On X → ∃ rr, OpR X (binaryOp .Mod) rr ∧ GoodOp g.K rr dMod := fun X _ => ⟨_, op_mod, good_I fun i j z e => by
  split at e
  · cases e
    exact ⟨by assumption, fun _ _ => .int⟩
  · cases e⟩
def dPow : DOp := dI fun i j => if 0 ≤ j ∧ j ≤ 1000000 ∧ i.natAbs < 2 ^ 64 then some (.int (i ^ j.toNat)) else none
theorem good_pow : ∀ X, g.On X → ∃ rr, OpR X (binaryOp .Pow) rr ∧ GoodOp g.K rr dPow := fun X _ => ⟨_, op_pow, good_I fun i j z e => by
  split at e
  · cases e
    exact ⟨by assumption, fun _ _ => .int⟩
  · cases e⟩
def dLt : DOp := dI fun i j => some (.bl (decide (i < j)))
def dLe : DOp := dI fun i j => some (.bl (decide (i ≤ j)))
def dGt : DOp := dI fun i j => some (.bl (decide (j < i)))
def dGe : DOp := dI fun i j => some (.bl (decide (j ≤ i)))
theorem good_lt : ∀ X, g.On X → ∃ rr, OpR X (compareOp .Lt) rr ∧ GoodOp g.K rr dLt := fun X _ => ⟨_, op_lt, good_I0 fun i j z e m H => by cases e; exact .bl⟩
theorem good_le : ∀ X, g.On X → ∃ rr, OpR X (compareOp .LtE) rr ∧ GoodOp g.K rr dLe := fun X _ => ⟨_, op_le, good_I0 fun i j z e m H => by cases e; exact .bl⟩
theorem good_gt : ∀ X, g.On X → ∃ rr, OpR X (compareOp .Gt) rr ∧ GoodOp g.K rr dGt := fun X _ => ⟨_, op_gt, good_I0 fun i j z e m H => by cases e; exact .bl⟩
theorem good_ge : ∀ X, g.On X → ∃ rr, OpR X (compareOp .GtE) rr ∧ GoodOp g.K rr dGe := fun X _ => ⟨_, op_ge, good_I0 fun i j z e m H => by cases e; exact .bl⟩
end

/-! ### == and repr of data -/
mutual
def pyD : D → Option PyData
  | .non => some .none
  | .bl b => some (.bool b)
  | .int i => some (.int i)
  | .str x => some (.str x)
  | .tup xs => match pyDs xs with | some ys => some (.tuple ys) | none => none
  | .lst xs => match pyDs xs with | some ys => some (.list ys) | none => none
  | .fzl xs => match pyDs xs with | some ys => some (.list ys) | none => none
  | .ktp xs => match pyDs xs with | some ys => some (.tuple ys) | none => none
  | .ftp xs => match pyDs xs with | some ys => some (.tuple ys) | none => none
  | .dk _ => none
  | .dt _ => none
  | .obj _ => none
  | .raw _ => none
def pyDs : List D → Option (List PyData)
  | [] => some []
  | x :: xs => match pyD x with | some a => (match pyDs xs with | some b => some (a :: b) | none => none) | none => none
end
mutual
theorem pyD_ok {K : Fr} {m : Nm} {H : Hp} : ∀ {d : D} {p : PyData} {v : V}, pyD d = some p → R K m H v d → Dp K H v p
  | .non, _, _, e, r => by cases r; cases e; exact .non
  | .bl _, _, _, e, r => by cases r; cases e; exact .bl _
  | .int _, _, _, e, r => by cases r; cases e; exact .int _
  | .str _, _, _, e, r => by cases r; cases e; exact .str _
  | .tup xs, _, _, e, r => by
    cases r
    rename_i a vs ht hn rs
    simp only [pyD] at e
    split at e
    · rename_i ys hy
      cases e
      exact .tup (SqT.of ht) (pyDs_ok hy rs)
    · cases e
  | .ktp xs, _, _, e, r => by
    cases r
    rename_i a vs ht rs
    simp only [pyD] at e
    split at e
    · rename_i ys hy
      cases e
      exact .tup (sqT_any ht) (pyDs_ok hy rs)
    · cases e
  | .ftp xs, _, _, e, r => by
    cases r
    rename_i a o vs ht hd hn rs
    simp only [pyD] at e
    split at e
    · rename_i ys hy
      cases e
      exact .tup (.inl (.inr ⟨o, ht⟩)) (pyDs_ok hy rs)
    · cases e
  | .lst xs, _, _, e, r => by
    cases r
    rename_i a vs hl hn rs
    simp only [pyD] at e
    split at e
    · rename_i ys hy
      cases e
      exact .lst (SqL.of hl) (pyDs_ok hy rs)
    · cases e
  | .fzl xs, _, _, e, r => by
    cases r
    rename_i a vs ht rs
    simp only [pyD] at e
    split at e
    · rename_i ys hy
      cases e
      exact .lst ht.sq (pyDs_ok hy rs)
    · cases e
  | .dk _, _, _, e, _ => by cases e
  | .dt _, _, _, e, _ => by cases e
  | .obj _, _, _, e, _ => by cases e
  | .raw _, _, _, e, _ => by cases e
theorem pyDs_ok {K : Fr} {m : Nm} {H : Hp} : ∀ {ds : List D} {ps : List PyData} {vs : List V}, pyDs ds = some ps → Rs K m H vs ds → DpAll K H vs ps
  | [], _, _, e, r => by cases r; cases e; exact .nil
  | d :: ds, _, _, e, r => by
    cases r
    rename_i v vs r1 r2
    simp only [pyDs] at e
    split at e
    · rename_i a ha
      split at e
      · rename_i b hb
        cases e
        exact .cons (pyD_ok ha r1) (pyDs_ok hb r2)
      · cases e
    · cases e
end
def py (S : Sto) : D → Option PyData
  | .obj k => match S[k]? with | some (.lst ds) => (match pyDs ds with | some ys => some (.list ys) | none => none) | _ => none
  | d => pyD d
theorem py_ok {K : Fr} {m : Nm} {H : Hp} {S : Sto} {d : D} {p : PyData} {v : V} (e : py S d = some p) (r : R K m H v d) (st : Cells K m H S) : Dp K H v p := by
  cases r
  case obj k a ha =>
    simp only [py] at e
    split at e
    · rename_i ds hs
      split at e
      · rename_i ys hy
        cases e
        obtain ⟨vs, h1, h2⟩ := st.cel k _ a hs ha
        exact .lst (SqL.of h1) (pyDs_ok hy h2)
      · cases e
    · cases e
  case tup a vs ds h n rs => exact pyD_ok (d := .tup ds) e (.tup h n rs)
  case ktp a vs ds h rs => exact pyD_ok (d := .ktp ds) e (.ktp (m := m) h rs)
  case ftp a o vs ds h hd n rs => exact pyD_ok (d := .ftp ds) e (.ftp h hd n rs)
  case lst a vs ds h n rs => exact pyD_ok (d := .lst ds) e (.lst h n rs)
  case fzl a vs ds h rs => exact pyD_ok (d := .fzl ds) e (.fzl h rs)
  case non => exact pyD_ok (d := .non) e (.non (m := m))
  case bl => exact pyD_ok (d := .bl _) e (.bl (m := m))
  case int => exact pyD_ok (d := .int _) e (.int (m := m))
  case str => exact pyD_ok (d := .str _) e (.str (m := m))
  all_goals cases e
def dEqB (S : Sto) (x y : D) : Option Bool := match x, y with
  | .str a, .str b => some (decide (a = b))
  | x, y => (py S x).bind fun a => (py S y).bind fun b => if SeqAt.shaped a && SeqAt.shaped b then some (PyData.eqv a b) else none
theorem dEqB_or {K : Fr} {m : Nm} {H : Hp} {S : Sto} {x y : D} {b : Bool} {vx vy : V} (e : dEqB S x y = some b) (rx : R K m H vx x) (ry : R K m H vy y) (st : Cells K m H S) : (scal vx vy = true ∧ decide (vx = vy) = b) ∨ ∃ p q, Dp K H vx p ∧ Dp K H vy q ∧ SeqAt.shaped p = true ∧ SeqAt.shaped q = true ∧ PyData.eqv p q = b := by
  unfold dEqB at e
  split at e
  · cases rx
    cases ry
    cases e
    refine .inl ⟨rfl, ?_⟩
    rw [Bool.eq_iff_iff]
    simp
  · obtain ⟨p, e2, e1⟩ := bind_some e
    obtain ⟨p', e3, e1⟩ := bind_some e1
    split at e1
    · rename_i h
      cases e1
      simp only [Bool.and_eq_true] at h
      exact .inr ⟨p, p', py_ok e2 rx st, py_ok e3 ry st, h.1, h.2, rfl⟩
    · cases e1
def dEq : DOp := fun S x y => (dEqB S x y).bind fun b => some (.bl b)
def dNe : DOp := fun S x y => (dEqB S x y).bind fun b => some (.bl (!b))
section
variable {g : G}
theorem good_eq : ∀ X, g.On X → ∃ rr, OpR X (compareOp .Eq) rr ∧ GoodOp g.K rr dEq := fun X hX => ⟨_, OpR.or op_eq (op_eqD (by have := hX.hu; omega)), fun S x y z e m H vx vy rx ry st Q q => by
  obtain ⟨b, e1, e⟩ := bind_some e
  cases e
  rcases dEqB_or e1 rx ry st with ⟨h1, h2⟩ | ⟨p, p', h1, h2, h3, h4, h5⟩
  · subst h2
    exact .inl ⟨h1, q _ H .refl .bl st⟩
  · subst h5
    rw [hX.K]
    exact .inr ⟨p, p', h1, h2, h3, h4, q _ H .refl .bl st⟩⟩
theorem good_ne : ∀ X, g.On X → ∃ rr, OpR X (compareOp .NotEq) rr ∧ GoodOp g.K rr dNe := fun X hX => ⟨_, OpR.or op_ne (op_neD (by have := hX.hu; omega)), fun S x y z e m H vx vy rx ry st Q q => by
  obtain ⟨b, e1, e⟩ := bind_some e
  cases e
  rcases dEqB_or e1 rx ry st with ⟨h1, h2⟩ | ⟨p, p', h1, h2, h3, h4, h5⟩
  · subst h2
    exact .inl ⟨h1, q _ H .refl .bl st⟩
  · subst h5
    rw [hX.K]
    exact .inr ⟨p, p', h1, h2, h3, h4, q _ H .refl .bl st⟩⟩
def dIs : DOp := fun _ x y => match y with
  | .non => (match x with | .non => some (.bl true) | .raw _ => none | _ => some (.bl false))
  | _ => none
def dIsNot : DOp := fun _ x y => match y with
  | .non => (match x with | .non => some (.bl false) | .raw _ => none | _ => some (.bl true))
  | _ => none
theorem isN_ok {K : Fr} {m : Nm} {H : Hp} {v : V} {x z : D} {S : Sto} (e : dIs S x .non = some z) (r : R K m H v x) : z = .bl (decide (v = .non)) := by
  cases r <;> cases e <;> rfl
theorem good_is : ∀ X, g.On X → ∃ rr, OpR X (compareOp .Is) rr ∧ GoodOp g.K rr dIs := fun X hX => ⟨_, op_isN, fun S x y z e m H vx vy rx ry st Q q => by
  cases ry
  case non =>
    rw [isN_ok e rx] at q
    exact ⟨rfl, q _ H .refl .bl st⟩
  all_goals cases e⟩
theorem good_isNot : ∀ X, g.On X → ∃ rr, OpR X (compareOp .IsNot) rr ∧ GoodOp g.K rr dIsNot := fun X hX => ⟨_, op_notN, fun S x y z e m H vx vy rx ry st Q q => by
  cases ry
  case non =>
    have e' : z = .bl (!decide (vx = .non)) := by cases rx <;> cases e <;> rfl
    rw [e'] at q
    exact ⟨rfl, q _ H .refl .bl st⟩
  all_goals cases e⟩
end
end Mi
namespace Mi
open PySem PySem.Spec PyProof.Rows L2

/-! ### tests -/
def mT (f : ME) : MT := fun ρ S => (f ρ S).bind fun a => match a.1 with | .bl b => some (b, a.2) | _ => none
theorem goodT {K : Fr} {t : TE} {f : ME} (h : GoodE K t f) : GoodT K (tB t) (mT f) := by
  intro ρ S b S' e m H σ r Q q
  obtain ⟨⟨d, S1⟩, e1, e⟩ := bind_some e
  refine h ρ S d S1 e1 m H σ r _ fun v m' H' ev rv st => ?_
  cases rv <;> cases e
  exact ⟨_, rfl, q m' H' ev st⟩
section
variable {g : G} {a b c : Expr} {rest : List Expr} {pos : Pos} {f h k : ME} {u v w : MT}
theorem mt_val (ha : Ms g a f) (he : ∀ (env : PySem.Env) whole, isTrue a env whole = (do let v ← whole; standAt a.pos; holding [v] (truthy v)) := by intro _ _; rfl) : Mt g a (mT f) := ⟨fun X hX => by
  obtain ⟨t, h1, h2⟩ := ha.ok X hX
  exact ⟨_, pt_val h1 (he _), goodT h2⟩⟩
/-- a comparison as a test -/
theorem mt_cmp {op : CmpOp} {r : DOp} (ho : ∀ X, g.On X → ∃ rr, OpR X (compareOp op) rr ∧ GoodOp g.K rr r) (ha : Ms g a f) (hb : Ms g b h) (hm : behindInMarks op b = false := by first | exact nobehind _ (by decide) (by decide) | rfl) : Mt g (.Compare a [op] [b] pos) (mT (mOp r f h)) := ⟨fun X hX => by
  obtain ⟨rr, o1, o2⟩ := ho X hX
  obtain ⟨ta, a1, a2⟩ := ha.ok X hX
  obtain ⟨tb, b1, b2⟩ := hb.ok X hX
  exact ⟨_, pt_cmpR o1 a1 b1 hm, goodT (goodOp o2 a2 b2)⟩⟩
def mAnd (u v : MT) : MT := fun ρ S => (u ρ S).bind fun a => if a.1 = true then v ρ a.2 else some (false, a.2)
def mOr (u v : MT) : MT := fun ρ S => (u ρ S).bind fun a => if a.1 = true then some (true, a.2) else v ρ a.2
def mNot (u : MT) : MT := fun ρ S => (u ρ S).bind fun a => some (!a.1, a.2)
theorem good_and {K : Fr} {t s : TT} (hu : GoodT K t u) (hv : GoodT K s v) : GoodT K (tAnd t s) (mAnd u v) := by
  intro ρ S b S' e m H σ r Q q
  obtain ⟨⟨d, S1⟩, e1, e⟩ := bind_some e
  refine hu ρ S d S1 e1 m H σ r _ fun m' H' ev st => ?_
  cases d with
  | true =>
    rw [if_pos rfl] at e
    rw [if_pos rfl]
    exact hv ρ S1 b S' e m' H' σ (r.evo ev st) Q fun m2 H2 ev2 st2 => q m2 H2 (ev.trans ev2) st2
  | false =>
    rw [if_neg Bool.false_ne_true] at e
    rw [if_neg Bool.false_ne_true]
    cases e
    exact q m' H' ev st
theorem good_or {K : Fr} {t s : TT} (hu : GoodT K t u) (hv : GoodT K s v) : GoodT K (tOr t s) (mOr u v) := by
  intro ρ S b S' e m H σ r Q q
  obtain ⟨⟨d, S1⟩, e1, e⟩ := bind_some e
  refine hu ρ S d S1 e1 m H σ r _ fun m' H' ev st => ?_
  cases d with
  | true =>
    rw [if_pos rfl] at e
    rw [if_pos rfl]
    cases e
    exact q m' H' ev st
  | false =>
    rw [if_neg Bool.false_ne_true] at e
    rw [if_neg Bool.false_ne_true]
    exact hv ρ S1 b S' e m' H' σ (r.evo ev st) Q fun m2 H2 ev2 st2 => q m2 H2 (ev.trans ev2) st2
theorem mw_and1 (ha : Mt g a u) : Mw g (.BoolOp .And [a] pos) u := ⟨fun X hX => by obtain ⟨t, h1, h2⟩ := ha.ok X hX; exact ⟨_, pw_and1 h1, h2⟩⟩
theorem mw_or1 (ha : Mt g a u) : Mw g (.BoolOp .Or [a] pos) u := ⟨fun X hX => by obtain ⟨t, h1, h2⟩ := ha.ok X hX; exact ⟨_, pw_or1 h1, h2⟩⟩
theorem mw_and (ha : Mt g a u) (hb : Mw g (.BoolOp .And (b :: rest) pos) v) : Mw g (.BoolOp .And (a :: b :: rest) pos) (mAnd u v) := ⟨fun X hX => by
  obtain ⟨t, h1, h2⟩ := ha.ok X hX
  obtain ⟨s, h3, h4⟩ := hb.ok X hX
  exact ⟨_, pw_and h1 h3, good_and h2 h4⟩⟩
theorem mw_or (ha : Mt g a u) (hb : Mw g (.BoolOp .Or (b :: rest) pos) v) : Mw g (.BoolOp .Or (a :: b :: rest) pos) (mOr u v) := ⟨fun X hX => by
  obtain ⟨t, h1, h2⟩ := ha.ok X hX
  obtain ⟨s, h3, h4⟩ := hb.ok X hX
  exact ⟨_, pw_or h1 h3, good_or h2 h4⟩⟩
theorem mt_w (h : Mw g a u) : Mt g a u := ⟨fun X hX => by obtain ⟨t, h1, h2⟩ := h.ok X hX; exact ⟨_, h1.pt, h2⟩⟩
theorem mt_not (ha : Mt g a u) : Mt g (.UnaryOp .Not a pos) (mNot u) := ⟨fun X hX => by
  obtain ⟨t, h1, h2⟩ := ha.ok X hX
  refine ⟨_, pt_not h1, fun ρ S b S2 e m H σ r Q q => ?_⟩
  obtain ⟨⟨d, S1⟩, e1, e⟩ := bind_some e
  cases e
  exact h2 ρ S d S1 e1 m H σ r _ fun m' H' ev st => q m' H' ev st⟩
/-! values by and, or, not (of truths) -/
def mAndV (f h : ME) : ME := fun ρ S => (f ρ S).bind fun a => match a.1 with | .bl true => h ρ a.2 | .bl false => some (.bl false, a.2) | _ => none
def mOrV (f h : ME) : ME := fun ρ S => (f ρ S).bind fun a => match a.1 with | .bl true => some (.bl true, a.2) | .bl false => h ρ a.2 | _ => none
def mNotV (f : ME) : ME := fun ρ S => (f ρ S).bind fun a => match a.1 with | .bl b => some (.bl (!b), a.2) | _ => none
theorem ms_one {op} (ha : Ms g a f) : Ms g (.BoolOp op [a] pos) f := ⟨fun X hX => by obtain ⟨t, h1, h2⟩ := ha.ok X hX; exact ⟨_, pe_one h1, h2⟩⟩
theorem ms_and (ha : Ms g a f) (hb : Ms g (.BoolOp .And (b :: rest) pos) h) : Ms g (.BoolOp .And (a :: b :: rest) pos) (mAndV f h) := ⟨fun X hX => by
  obtain ⟨t, h1, h2⟩ := ha.ok X hX
  obtain ⟨s, h3, h4⟩ := hb.ok X hX
  refine ⟨_, pe_and h1 h3, fun ρ S b S' e m H σ r Q q => ?_⟩
  obtain ⟨⟨d, S1⟩, e1, e⟩ := bind_some e
  refine h2 ρ S d S1 e1 m H σ r _ fun vx m' H' ev rv st => ?_
  split at e
  · rename_i e2
    cases e2
    cases rv
    refine ⟨true, rfl, ?_⟩
    rw [if_pos rfl]
    exact h4 ρ S1 _ S' e m' H' σ (r.evo ev st) Q fun v2 m2 H2 ev2 rv2 st2 => q v2 m2 H2 (ev.trans ev2) rv2 st2
  · rename_i e2
    cases e2
    cases rv
    cases e
    refine ⟨false, rfl, ?_⟩
    rw [if_neg Bool.false_ne_true]
    exact q _ m' H' ev .bl st
  · cases e⟩
theorem ms_or (ha : Ms g a f) (hb : Ms g (.BoolOp .Or (b :: rest) pos) h) : Ms g (.BoolOp .Or (a :: b :: rest) pos) (mOrV f h) := ⟨fun X hX => by
  obtain ⟨t, h1, h2⟩ := ha.ok X hX
  obtain ⟨s, h3, h4⟩ := hb.ok X hX
  refine ⟨_, pe_or h1 h3, fun ρ S b S' e m H σ r Q q => ?_⟩
  obtain ⟨⟨d, S1⟩, e1, e⟩ := bind_some e
  refine h2 ρ S d S1 e1 m H σ r _ fun vx m' H' ev rv st => ?_
  split at e
  · rename_i e2
    cases e2
    cases rv
    cases e
    refine ⟨true, rfl, ?_⟩
    rw [if_pos rfl]
    exact q _ m' H' ev .bl st
  · rename_i e2
    cases e2
    cases rv
    refine ⟨false, rfl, ?_⟩
    rw [if_neg Bool.false_ne_true]
    exact h4 ρ S1 _ S' e m' H' σ (r.evo ev st) Q fun v2 m2 H2 ev2 rv2 st2 => q v2 m2 H2 (ev.trans ev2) rv2 st2
  · cases e⟩
theorem ms_not (ha : Ms g a f) : Ms g (.UnaryOp .Not a pos) (mNotV f) := ⟨fun X hX => by
  obtain ⟨t, h1, h2⟩ := ha.ok X hX
  refine ⟨_, pe_not h1, fun ρ S b S' e m H σ r Q q => ?_⟩
  obtain ⟨⟨d, S1⟩, e1, e⟩ := bind_some e
  refine h2 ρ S d S1 e1 m H σ r _ fun vx m' H' ev rv st => ?_
  split at e
  · rename_i b' e2
    cases e2
    cases rv
    cases e
    exact ⟨b', rfl, q _ m' H' ev .bl st⟩
  · cases e⟩
def mIf (u : MT) (f h : ME) : ME := fun ρ S => (u ρ S).bind fun a => if a.1 = true then f ρ a.2 else h ρ a.2
theorem ms_if (hc : Mt g c u) (ha : Ms g a f) (hb : Ms g b h) : Ms g (.IfExp c a b pos) (mIf u f h) := ⟨fun X hX => by
  obtain ⟨t, h1, h2⟩ := hc.ok X hX
  obtain ⟨s, h3, h4⟩ := ha.ok X hX
  obtain ⟨z, h5, h6⟩ := hb.ok X hX
  refine ⟨_, pe_ifExp h1 h3 h5, fun ρ S b S' e m H σ r Q q => ?_⟩
  obtain ⟨⟨d, S1⟩, e1, e⟩ := bind_some e
  refine h2 ρ S d S1 e1 m H σ r _ fun m' H' ev st => ?_
  cases d with
  | true =>
    rw [if_pos rfl] at e
    rw [if_pos rfl]
    exact h4 ρ S1 _ S' e m' H' σ (r.evo ev st) Q fun v2 m2 H2 ev2 rv2 st2 => q v2 m2 H2 (ev.trans ev2) rv2 st2
  | false =>
    rw [if_neg Bool.false_ne_true] at e
    rw [if_neg Bool.false_ne_true]
    exact h6 ρ S1 _ S' e m' H' σ (r.evo ev st) Q fun v2 m2 H2 ev2 rv2 st2 => q v2 m2 H2 (ev.trans ev2) rv2 st2⟩
/-- -a of an int -/
def mNeg (f : ME) : ME := fun ρ S => (f ρ S).bind fun a => match a.1 with | .int i => some (.int (-i), a.2) | _ => none
theorem ms_neg (ha : Ms g a f) : Ms g (.UnaryOp .USub a pos) (mNeg f) := ⟨fun X hX => by
  obtain ⟨t, h1, h2⟩ := ha.ok X hX
  refine ⟨_, pe_un un_neg h1, fun ρ S b S' e m H σ r Q q => ?_⟩
  obtain ⟨⟨d, S1⟩, e1, e⟩ := bind_some e
  refine h2 ρ S d S1 e1 m H σ r _ fun vx m' H' ev rv st => ?_
  split at e
  · rename_i b' e2
    cases e2
    cases rv
    cases e
    exact ⟨b', rfl, q _ m' H' ev .int st⟩
  · cases e⟩
end

/-! ### arguments, displays -/
section
variable {g : G} {a b c e : Expr} {es : List Expr} {pos p2 p : Pos} {f h k : ME} {u : MA} {n : Nat}
def mNil : MA := fun _ S => some ([], S)
def mCons (f : ME) (u : MA) : MA := fun ρ S => (f ρ S).bind fun a => (u ρ a.2).bind fun b => some (a.1 :: b.1, b.2)
def mStar (f : ME) (u : MA) : MA := fun ρ S => (f ρ S).bind fun a => (seqOf a.2 a.1).bind fun xs => (u ρ a.2).bind fun b => some (xs ++ b.1, b.2)
theorem ma_nil : Ma g [] mNil := ⟨fun X hX => ⟨_, pa_nil, fun ρ S d S' e m H σ r Q q => by cases e; exact q [] m H .refl .nil r.st⟩⟩
theorem ma_cons (ha : Ms g e f) (hr : Ma g es u) (hs : ∀ env : PySem.Env, starEach (e :: es) env = (false, eval e env) :: starEach es env := by intro _; rfl) : Ma g (e :: es) (mCons f u) := ⟨fun X hX => by
  obtain ⟨t, h1, h2⟩ := ha.ok X hX
  obtain ⟨s, h3, h4⟩ := hr.ok X hX
  refine ⟨_, pa_cons h1 h3 (hs _), fun ρ S b S' e m H σ r Q q => ?_⟩
  obtain ⟨⟨d, S1⟩, e1, e⟩ := bind_some e
  obtain ⟨⟨ds, S2⟩, e2, e⟩ := bind_some e
  cases e
  refine h2 ρ S d S1 e1 m H σ r _ fun v m1 H1 ev1 rv st1 => ?_
  exact h4 ρ S1 ds S2 e2 m1 H1 σ (r.evo ev1 st1) _ fun vs m2 H2 ev2 rvs st2 => q _ m2 H2 (ev1.trans ev2) (.cons (rv.evo ev2) rvs) st2⟩
theorem ma_star (ha : Ms g e f) (hr : Ma g es u) (hs : ∀ env : PySem.Env, starEach (.Starred e p :: es) env = (true, eval e env) :: starEach es env := by intro _; rfl) : Ma g (.Starred e p :: es) (mStar f u) := ⟨fun X hX => by
  obtain ⟨t, h1, h2⟩ := ha.ok X hX
  obtain ⟨s, h3, h4⟩ := hr.ok X hX
  refine ⟨_, StX.pa_star h1 h3 (hs _), fun ρ S b S' e m H σ r Q q => ?_⟩
  obtain ⟨⟨d, S1⟩, e1, e⟩ := bind_some e
  obtain ⟨xs, ex, e⟩ := bind_some e
  obtain ⟨⟨ds, S2⟩, e2, e⟩ := bind_some e
  cases e
  refine h2 ρ S d S1 e1 m H σ r _ fun v m1 H1 ev1 rv st1 => ?_
  obtain ⟨ad, vs, rfl, hsq, rs⟩ := seqOf_ok ex rv st1
  refine ⟨ad, vs, rfl, by rw [hX.K]; exact hsq.symm, ?_⟩
  exact h4 ρ S1 ds S2 e2 m1 H1 σ (r.evo ev1 st1) _ fun ws m2 H2 ev2 rvs st2 => q _ m2 H2 (ev1.trans ev2) ((rs.evo ev2).app rvs) st2⟩
def mTup (u : MA) : ME := fun ρ S => (u ρ S).bind fun a => if a.1.length ≤ sizeLine then some (.tup a.1, a.2) else none
theorem ms_tup {x1} (ha : Ma g es u) : Ms g (.Tuple es x1 pos) (mTup u) := ⟨fun X hX => by
  obtain ⟨t, h1, h2⟩ := ha.ok X hX
  refine ⟨_, pe_tup h1, fun ρ S b S' e m H σ r Q q => ?_⟩
  obtain ⟨⟨ds, S1⟩, e1, e⟩ := bind_some e
  split at e
  · rename_i hl
    cases e
    refine h2 ρ S ds _ e1 m H σ r _ fun vs m1 H1 ev1 rs st1 => ⟨by rw [rs.len]; exact hl, fun p hp => ?_⟩
    exact q _ _ _ (ev1.trans (Evo.made st1 hp)) (newT st1 hp rs) (st1.made hp)
  · cases e⟩
end
/-! ### new containers (that nobody else holds) -/
abbrev MEL := Env → Sto → Option (C × Sto)
def C.toD : C → D
  | .lst ds => .lst ds
  | .dk ds => .dk ds
  | .dt ds => .dt ds
/-- a new container at p, its content c -/
structure Fresh (K : Fr) (m : Nm) (H0 H : Hp) (S : Sto) (p : Addr) (c : C) : Prop where
  new : H0 p = none
  one : Cells K (m.add p) H (S ++ [c])
  st : Cells K m H S
  tree : R K m H (.ref p) c.toD
def GoodL (K : Fr) (t : TE) (f : MEL) : Prop := ∀ ρ S c S', f ρ S = some (c, S') → ∀ m H σ, Rel K m H σ ρ S → ∀ Q : VK, (∀ p m' H', Evo m m' H H' → Fresh K m' H H' S' p c → Q (.ref p) H') → t σ H Q
structure Ml (g : G) (e : Expr) (f : MEL) : Prop where
  ok : ∀ X, g.On X → ∃ t, PE X e t ∧ GoodL g.K t f
theorem Fresh.lst {K : Fr} {m : Nm} {H0 H : Hp} {S : Sto} {p : Addr} {vs : List V} {ds : List D} (h0 : H0 p = none) (st : Cells K m H S) (hp : H p = none) (r : Rs K m H vs ds) : Fresh K m H0 (upd H p (.lst vs)) S p (.lst ds) :=
  ⟨h0, st.cell hp ⟨vs, upd_same, r.evo (Evo.cell st hp).w⟩, st.made hp, newL st hp r⟩
theorem Evo.backC {m m' : Nm} {H H' : Hp} (e : Evo m m' H H') {K : Fr} {S : Sto} {p : Addr} (hp : H' p = none) (st' : Cells K m' H' S) : H p = none := by
  cases q : H p with
  | none => rfl
  | some o =>
    by_cases h : p ∈ m
    · rcases h with h | h
      · obtain ⟨k, hk, ek⟩ := List.mem_iff_getElem.mp h
        exact absurd hp (st'.mem (.inl (List.mem_of_getElem? (e.pre k p (by rw [List.getElem?_eq_getElem hk, ek])))))
      · have z := e.keep p h
        rw [hp, q] at z
        cases z
    · rw [e.ext p o h q] at hp
      cases hp
section
variable {g : G} {a b c e : Expr} {es : List Expr} {pos p2 p : Pos} {f h k : ME} {u : MA} {fl : MEL}
def mOfL (f : MEL) : ME := fun ρ S => (f ρ S).bind fun a => some (a.1.toD, a.2)
theorem ms_ofL (h : Ml g e fl) : Ms g e (mOfL fl) := ⟨fun X hX => by
  obtain ⟨t, h1, h2⟩ := h.ok X hX
  refine ⟨t, h1, fun ρ S d S' e m H σ r Q q => ?_⟩
  obtain ⟨⟨c, S1⟩, e1, e⟩ := bind_some e
  cases e
  exact h2 ρ S c S1 e1 m H σ r Q fun p m' H' ev fr => q _ m' H' ev fr.tree fr.st⟩
def mLst (u : MA) : MEL := fun ρ S => (u ρ S).bind fun a => if a.1.length ≤ sizeLine then some (.lst a.1, a.2) else none
theorem ml_lst (ha : Ma g es u) : Ml g (.List es pos) (mLst u) := ⟨fun X hX => by
  obtain ⟨t, h1, h2⟩ := ha.ok X hX
  refine ⟨_, pe_lst h1, fun ρ S b S' e m H σ r Q q => ?_⟩
  obtain ⟨⟨ds, S1⟩, e1, e⟩ := bind_some e
  split at e
  · rename_i hl
    cases e
    refine h2 ρ S ds _ e1 m H σ r _ fun vs m1 H1 ev1 rs st1 => ⟨by rw [rs.len]; exact hl, fun p hp => ?_⟩
    exact q _ _ _ (ev1.trans (Evo.made st1 hp)) (Fresh.lst (ev1.backC hp st1) st1 hp rs)
  · cases e⟩
/-- an operator whose answer is a new list -/
def dCatL : Sto → D → D → Option C := fun S x y => (lstOf S x).bind fun xs => (lstOf S y).bind fun ys => if xs.length + ys.length ≤ sizeLine then some (.lst (xs ++ ys)) else none
def mOpL (r : Sto → D → D → Option C) (f h : ME) : MEL := fun ρ S => (f ρ S).bind fun a => (h ρ a.2).bind fun b => (r b.2 a.1 b.1).bind fun z => some (z, b.2)
theorem ml_cat (ha : Ms g a f) (hb : Ms g b h) : Ml g (.BinOp a .Add b pos) (mOpL dCatL f h) := ⟨fun X hX => by
  obtain ⟨ta, a1, a2⟩ := ha.ok X hX
  obtain ⟨tb, b1, b2⟩ := hb.ok X hX
  refine ⟨_, pe_op op_cat a1 b1, fun ρ S c S' e m H σ rl Q q => ?_⟩
  obtain ⟨⟨x, S1⟩, e1, e⟩ := bind_some e
  obtain ⟨⟨y, S2⟩, e2, e⟩ := bind_some e
  obtain ⟨z, e3, e⟩ := bind_some e
  cases e
  refine a2 ρ S x S1 e1 m H σ rl _ fun vx m1 H1 ev1 rx st1 => ?_
  refine b2 ρ S1 y S2 e2 m1 H1 σ (rl.evo ev1 st1) _ fun vy m2 H2 ev2 ry st2 => ?_
  obtain ⟨xs, ex, e3⟩ := bind_some e3
  obtain ⟨ys, ey, e3⟩ := bind_some e3
  split at e3
  · rename_i hz
    cases e3
    obtain ⟨a', vs, rfl, h1, r1⟩ := lstOf_ok ex (rx.evo ev2) st2
    obtain ⟨b', ws, rfl, h2, r2⟩ := lstOf_ok ey ry st2
    refine ⟨a', b', vs, ws, rfl, rfl, h1, h2, by rw [r1.len, r2.len]; exact hz, fun p hp => ?_⟩
    exact q _ _ _ ((ev1.trans ev2).trans (Evo.made st2 hp)) (Fresh.lst ((ev1.trans ev2).backC hp st2) st2 hp (r1.app r2))
  · cases e3⟩
theorem ml_rep (ha : Ms g a f) (hb : Ms g b h) : Ml g (.BinOp a .Mult b pos) (mOpL (fun S x y => (dRepL S x y).bind fun d => match d with | .lst ds => some (.lst ds) | _ => none) f h) := ⟨fun X hX => by
  obtain ⟨ta, a1, a2⟩ := ha.ok X hX
  obtain ⟨tb, b1, b2⟩ := hb.ok X hX
  refine ⟨_, pe_op op_rep a1 b1, fun ρ S c S' e m H σ rl Q q => ?_⟩
  obtain ⟨⟨x, S1⟩, e1, e⟩ := bind_some e
  obtain ⟨⟨y, S2⟩, e2, e⟩ := bind_some e
  obtain ⟨z, e3, e⟩ := bind_some e
  cases e
  refine a2 ρ S x S1 e1 m H σ rl _ fun vx m1 H1 ev1 rx st1 => ?_
  refine b2 ρ S1 y S2 e2 m1 H1 σ (rl.evo ev1 st1) _ fun vy m2 H2 ev2 ry st2 => ?_
  obtain ⟨d, ed, e3⟩ := bind_some e3
  unfold dRepL at ed
  split at ed
  · rename_i k0 hk0
    have hk1 : y = .int k0 := hk0
    subst hk1
    cases ry
    obtain ⟨xs, ex, ed⟩ := bind_some ed
    split at ed
    · rename_i hh
      cases ed
      cases e3
      obtain ⟨a', vs, rfl, h1, r1⟩ := lstOf_ok ex (rx.evo ev2) st2
      refine ⟨a', _, vs, rfl, rfl, h1, hh.1, hh.2.1, by rw [r1.len]; exact hh.2.2, fun p hp => ?_⟩
      exact q _ _ _ ((ev1.trans ev2).trans (Evo.made st2 hp)) (Fresh.lst ((ev1.trans ev2).backC hp st2) st2 hp (rs_flat r1 _))
    · cases ed
  · cases ed⟩
/-- a new dict with int and text keys; with tuples as keys -/
def mDictK : MEL := fun _ S => some (.dk [], S)
def mDictT : MEL := fun _ S => some (.dt [], S)
theorem ml_dictK : Ml g (.Dict [] [] pos) mDictK := ⟨fun X hX => ⟨_, pe_dnewK, fun ρ S c S' e m H σ r Q q => by
  cases e
  exact fun p hp => q p m _ (Evo.made r.st hp) ⟨hp, r.st.cell hp ⟨[], upd_same, .nil⟩, r.st.made hp, .dk (.of upd_same) (r.st.free hp) .nil⟩⟩⟩
theorem ml_dictT : Ml g (.Dict [] [] pos) mDictT := ⟨fun X hX => ⟨_, pe_dnewT, fun ρ S c S' e m H σ r Q q => by
  cases e
  exact fun p hp => q p m _ (Evo.made r.st hp) ⟨hp, r.st.cell hp ⟨[], upd_same, .nil⟩, r.st.made hp, .dt (.of upd_same) (r.st.free hp) .nil⟩⟩⟩
end
end Mi
namespace Mi
open PySem PySem.Spec PyProof.Rows L2

/-! ### a[i], a[i:j] -/
theorem Rs.atI {K : Fr} {m : Nm} {H : Hp} {vs : List V} {ds : List D} {i : Int} {d : D} (r : Rs K m H vs ds) (h : L2.atI ds i = some d) : ∃ v, L2.atI vs i = some v ∧ R K m H v d := by
  unfold L2.atI at h ⊢
  rw [r.len]
  obtain ⟨j, h1, h2⟩ := bind_some h
  obtain ⟨v, h3, h4⟩ := r.get h2
  exact ⟨v, by rw [h1]; exact h3, h4⟩
def dIx : DOp := fun S x y => match y with
  | .int i => match x with
    | .str z => if z.length ≤ sizeLine then (L2.atI z.cps.toList i).bind fun c => some (.str ⟨#[c]⟩) else none
    | x => (seqOf S x).bind fun xs => L2.atI xs i
  | _ => none
theorem good_ix {g : G} : ∀ X, g.On X → ∃ rr, IxR X rr ∧ GoodOp g.K rr dIx := fun X hX => ⟨_, ix_str.or (ix_list.or ix_tup), fun S x y z e m H vx vy rx ry st Q q => by
  unfold dIx at e
  split at e
  · cases ry
    split at e
    · cases rx
      split at e
      · rename_i hz
        obtain ⟨c, hc, e⟩ := bind_some e
        cases e
        exact .inl ⟨_, _, c, rfl, rfl, hz, hc, q _ H .refl .str st⟩
      · cases e
    · obtain ⟨xs, hx, e⟩ := bind_some e
      obtain ⟨a, vs, rfl, hs, rs⟩ := seqOf_ok hx rx st
      obtain ⟨v, hv, rv⟩ := rs.atI e
      rw [← hX.K] at hs
      rcases hs with hs | hs
      · exact .inr (.inl ⟨a, vs, _, v, rfl, rfl, hs, hv, q v H .refl rv st⟩)
      · exact .inr (.inr ⟨a, vs, _, v, rfl, rfl, hs, hv, q v H .refl rv st⟩)
  · cases e⟩
section
variable {g : G} {a b c e : Expr} {es : List Expr} {pos p2 p : Pos} {f h k : ME} {u : MA}
theorem ms_ix (ha : Ms g a f) (hb : Ms g b h) (hs : PlainIx b := by exact fun _ _ => rfl) : Ms g (.Subscript a b pos) (mOp dIx f h) := ⟨fun X hX => by
  obtain ⟨rr, o1, o2⟩ := good_ix X hX
  obtain ⟨ta, a1, a2⟩ := ha.ok X hX
  obtain ⟨tb, b1, b2⟩ := hb.ok X hX
  exact ⟨_, pe_ix o1 a1 b1 hs, goodOp o2 a2 b2⟩⟩
abbrev MO := Env → Sto → Option (Option Int × Sto)
def GoodO (K : Fr) (t : TO) (f : MO) : Prop := ∀ ρ S d S', f ρ S = some (d, S') → ∀ m H σ, Rel K m H σ ρ S → ∀ Q : Option Int → Hp → Prop, (∀ m' H', Evo m m' H H' → Cells K m' H' S' → Q d H') → t σ H Q
structure Mo (g : G) (e : Option Expr) (f : MO) : Prop where
  ok : ∀ X, g.On X → ∃ t, PO X e t ∧ GoodO g.K t f
def mON : MO := fun _ S => some (none, S)
def mOS (f : ME) : MO := fun ρ S => (f ρ S).bind fun a => match a.1 with | .int i => some (some i, a.2) | _ => none
theorem mo_none : Mo g none mON := ⟨fun X hX => ⟨_, po_none, fun ρ S d S' e m H σ r Q q => by cases e; exact q m H .refl r.st⟩⟩
theorem mo_some (ha : Ms g a f) : Mo g (some a) (mOS f) := ⟨fun X hX => by
  obtain ⟨t, h1, h2⟩ := ha.ok X hX
  refine ⟨_, po_some h1, fun ρ S d S' e m H σ r Q q => ?_⟩
  obtain ⟨⟨x, S1⟩, e1, e⟩ := bind_some e
  refine h2 ρ S x S1 e1 m H σ r _ fun v m' H' ev rv st => ?_
  split at e
  · rename_i i hi
    have hx : x = .int i := hi
    subst hx
    cases rv
    cases e
    exact ⟨i, rfl, q m' H' ev st⟩
  · cases e⟩
def cutX {α : Type} (xs : List α) (lo hi : Option Int) : List α := (xs.drop (HT.sIx xs.length 0 lo)).take (HT.sIx xs.length xs.length hi - HT.sIx xs.length 0 lo)
theorem Rs.cut {K : Fr} {m : Nm} {H : Hp} {vs : List V} {ds : List D} (r : Rs K m H vs ds) (lo hi : Option Int) : Rs K m H (cutV vs lo hi) (cutX ds lo hi) := by
  unfold cutV cutX
  rw [r.len]
  exact (r.drop _).take _
def rdL (S : Sto) : D → Option (List D)
  | .fzl ds => some ds
  | d => lstOf S d
theorem rdL_ok {K : Fr} {m : Nm} {H : Hp} {S : Sto} {d : D} {ds : List D} {v : V} (h : rdL S d = some ds) (r : R K m H v d) (st : Cells K m H S) : ∃ a vs, v = .ref a ∧ SqL K H a vs ∧ Rs K m H vs ds := by
  cases r
  case fzl a vs ds' ht rs => cases h; exact ⟨a, vs, rfl, ht.sq, rs⟩
  case lst a vs ds' hl n rs => cases h; exact ⟨a, vs, rfl, SqL.of hl, rs⟩
  case obj k a ha =>
    obtain ⟨a', vs, e, h1, h2⟩ := lstOf_ok (d := .obj k) h (.obj ha) st
    exact ⟨a', vs, e, SqL.of h1, h2⟩
  all_goals cases h
def mSlL (f : ME) (lo hi : MO) : MEL := fun ρ S => (f ρ S).bind fun a => (lo ρ a.2).bind fun b => (hi ρ b.2).bind fun c => (rdL c.2 a.1).bind fun xs => some (.lst (cutX xs b.1 c.1), c.2)
theorem ml_sl {lo hi : Option Expr} {l1 l2 : MO} (ha : Ms g a f) (hl : Mo g lo l1) (hh : Mo g hi l2) : Ml g (.Subscript a (.Slice lo hi none p2) pos) (mSlL f l1 l2) := ⟨fun X hX => by
  obtain ⟨t, h1, h2⟩ := ha.ok X hX
  obtain ⟨t3, h3, h4⟩ := hl.ok X hX
  obtain ⟨t5, h5, h6⟩ := hh.ok X hX
  refine ⟨_, pe_slice sl_list h1 h3 h5, fun ρ S c S' e m H σ r Q q => ?_⟩
  obtain ⟨⟨x, S1⟩, e1, e⟩ := bind_some e
  obtain ⟨⟨o1, S2⟩, e2, e⟩ := bind_some e
  obtain ⟨⟨o2, S3⟩, e3, e⟩ := bind_some e
  obtain ⟨xs, ex, e⟩ := bind_some e
  cases e
  refine h2 ρ S x S1 e1 m H σ r _ fun v m1 H1 ev1 rv st1 => ?_
  refine h4 ρ S1 o1 S2 e2 m1 H1 σ (r.evo ev1 st1) _ fun m2 H2 ev2 st2 => ?_
  refine h6 ρ S2 o2 S3 e3 m2 H2 σ (r.evo (ev1.trans ev2) st2) _ fun m3 H3 ev3 st3 => ?_
  obtain ⟨ad, vs, rfl, hs, rs⟩ := rdL_ok ex ((rv.evo ev2.w).evo ev3.w) st3
  have ev := (ev1.trans ev2).trans ev3
  exact ⟨ad, vs, rfl, by rw [hX.K]; exact hs, fun p hp => q p _ _ (ev.trans (Evo.made st3 hp)) (Fresh.lst (ev.backC hp st3) st3 hp (rs.cut _ _))⟩⟩
/-- of a tuple, a text -/
def dSlT (x : D) (lo hi : Option Int) : Option D := match x with
  | .tup xs => some (.tup (cutX xs lo hi))
  | .ftp xs => if HT.sIx xs.length 0 lo = 0 ∧ HT.sIx xs.length xs.length hi = xs.length then some (.ftp xs) else some (.tup (cutX xs lo hi))
  | .str z => if z.length ≤ sizeLine then some (.str (cutS z lo hi)) else none
  | _ => none
def mSlT (f : ME) (lo hi : MO) : ME := fun ρ S => (f ρ S).bind fun a => (lo ρ a.2).bind fun b => (hi ρ b.2).bind fun c => (dSlT a.1 b.1 c.1).bind fun d => some (d, c.2)
theorem sIx_full {α : Type} (xs : List α) (lo hi : Option Int) (h : HT.sIx xs.length 0 lo = 0 ∧ HT.sIx xs.length xs.length hi = xs.length) : cutX xs lo hi = xs := by
  unfold cutX
  rw [h.1, h.2]
  exact List.take_length
theorem ms_slT {lo hi : Option Expr} {l1 l2 : MO} (ha : Ms g a f) (hl : Mo g lo l1) (hh : Mo g hi l2) : Ms g (.Subscript a (.Slice lo hi none p2) pos) (mSlT f l1 l2) := ⟨fun X hX => by
  obtain ⟨t, h1, h2⟩ := ha.ok X hX
  obtain ⟨t3, h3, h4⟩ := hl.ok X hX
  obtain ⟨t5, h5, h6⟩ := hh.ok X hX
  refine ⟨_, pe_slice (SlR.or sl_tupA sl_str) h1 h3 h5, fun ρ S d S' e m H σ r Q q => ?_⟩
  obtain ⟨⟨x, S1⟩, e1, e⟩ := bind_some e
  obtain ⟨⟨o1, S2⟩, e2, e⟩ := bind_some e
  obtain ⟨⟨o2, S3⟩, e3, e⟩ := bind_some e
  obtain ⟨d', ex, e⟩ := bind_some e
  cases e
  refine h2 ρ S x S1 e1 m H σ r _ fun v m1 H1 ev1 rv st1 => ?_
  refine h4 ρ S1 o1 S2 e2 m1 H1 σ (r.evo ev1 st1) _ fun m2 H2 ev2 st2 => ?_
  refine h6 ρ S2 o2 S3 e3 m2 H2 σ (r.evo (ev1.trans ev2) st2) _ fun m3 H3 ev3 st3 => ?_
  have ev := (ev1.trans ev2).trans ev3
  have rv3 := (rv.evo ev2.w).evo ev3.w
  unfold dSlT at ex
  split at ex
  · rename_i xs hx
    have hx' : x = .tup xs := hx
    subst hx'
    cases ex
    cases rv3
    rename_i ad vs ht hn rs
    refine .inl ⟨ad, vs, rfl, SqT.of ht, fun hw => ?_, fun hw p hp => ?_⟩
    · rw [rs.len] at hw
      have hc : cutX xs o1 o2 = xs := sIx_full xs o1 o2 hw
      have q' := q (.ref ad) m3 H3 ev (by show R _ _ _ _ (.tup (cutX xs o1 o2)); rw [hc]; exact .tup ht hn rs) st3
      exact q'
    · exact q _ _ _ (ev.trans (Evo.made st3 hp)) (newT st3 hp (rs.cut _ _)) (st3.made hp)
  · rename_i xs hx
    have hx' : x = .ftp xs := hx
    subst hx'
    cases rv3
    rename_i ad ob vs ht hd hn rs
    have hsq : SqT X.K H3 ad vs := .inl (.inr ⟨ob, ht⟩)
    split at ex
    · rename_i hw0
      cases ex
      refine .inl ⟨ad, vs, rfl, hsq, fun hw => q (.ref ad) m3 H3 ev (.ftp ht hd hn rs) st3, fun hw p hp => ?_⟩
      rw [rs.len] at hw
      exact absurd hw0 hw
    · rename_i hw0
      cases ex
      refine .inl ⟨ad, vs, rfl, hsq, fun hw => ?_, fun hw p hp => ?_⟩
      · rw [rs.len] at hw
        exact absurd hw hw0
      · exact q _ _ _ (ev.trans (Evo.made st3 hp)) (newT st3 hp (rs.cut _ _)) (st3.made hp)
  · rename_i z hx
    have hx' : x = .str z := hx
    subst hx'
    cases rv3
    split at ex
    · rename_i hz
      cases ex
      exact .inr ⟨z, rfl, hz, q _ m3 H3 ev .str st3⟩
    · cases ex
  · cases ex⟩

/-! ### calls of built-ins -/
abbrev DF := Sto → List D → Option D
def GoodCall (K : Fr) (r : List V → Hp → VK → Prop) (F : DF) : Prop := ∀ S ds z, F S ds = some z → ∀ m H vs, Rs K m H vs ds → Cells K m H S → ∀ Q : VK, (∀ v H', Evo m m H H' → R K m H' v z → Cells K m H' S → Q v H') → r vs H Q
def mCB (F : DF) (u : MA) : ME := fun ρ S => (u ρ S).bind fun a => (F a.2 a.1).bind fun d => some (d, a.2)
theorem goodCB {K : Fr} {r : List V → Hp → VK → Prop} {F : DF} {t : TA} (hr : GoodCall K r F) (h : GoodA K t u) : GoodE K (tCB r t) (mCB F u) := fun ρ S d S' e m H σ rl Q q => by
  obtain ⟨⟨ds, S1⟩, e1, e⟩ := bind_some e
  obtain ⟨z, e2, e⟩ := bind_some e
  cases e
  refine h ρ S ds _ e1 m H σ rl _ fun vs m1 H1 ev1 rs st1 => ?_
  exact hr _ ds d e2 m1 H1 vs rs st1 Q fun v H2 ev2 rv st2 => q v m1 H2 (ev1.trans ev2) rv st2
theorem ms_callB {id : String} {x : Str} {F : DF} (hc : ∀ X, g.On X → ∃ r, CallR X (.builtin id) r ∧ GoodCall g.K r F) (hm : g.mg x = none) (hv : bootBuiltins x = some (.builtin id)) (ha : Ma g (e :: es) u) (hg : glB g.sc x = true)
    (he : ∀ env : PySem.Env, starEach (e :: es) env = (false, eval e env) :: starEach es env := by intro _; rfl) (hpl : ∀ env : PySem.Env, (backTo pos (starEach es env)).any (·.1) = false := by intro _; rfl) : Ms g (.Call (.Name x p) (e :: es) [] pos) (mCB F u) := ⟨fun X hX => by
  obtain ⟨r, c1, c2⟩ := hc X hX
  obtain ⟨t, h1, h2⟩ := ha.ok X hX
  obtain ⟨g1, g2, g3⟩ := glB_ok hX hg
  exact ⟨_, pe_callB c1 g1 (by rw [hX.mg]; exact hm) hv h1 g3 g2 (he _) (hpl _), goodCB c2 h2⟩⟩
theorem ms_callT {T : String} {x : Str} {F : DF} (hc : ∀ X, g.On X → ∃ r, CallR X (.type T) r ∧ GoodCall g.K r F) (hm : g.mg x = none) (hv : bootBuiltins x = some (.type T)) (ha : Ma g (e :: es) u) (hg : glB g.sc x = true)
    (he : ∀ env : PySem.Env, starEach (e :: es) env = (false, eval e env) :: starEach es env := by intro _; rfl) (hpl : ∀ env : PySem.Env, (backTo pos (starEach es env)).any (·.1) = false := by intro _; rfl) : Ms g (.Call (.Name x p) (e :: es) [] pos) (mCB F u) := ⟨fun X hX => by
  obtain ⟨r, c1, c2⟩ := hc X hX
  obtain ⟨t, h1, h2⟩ := ha.ok X hX
  obtain ⟨g1, g2, g3⟩ := glB_ok hX hg
  exact ⟨_, pe_callTy c1 g1 (by rw [hX.mg]; exact hm) hv h1 g3 g2 (he _) (hpl _), goodCB c2 h2⟩⟩
/-- .. that hand back a new list -/
abbrev DFL := Sto → List D → Option C
def GoodCallL (K : Fr) (r : List V → Hp → VK → Prop) (F : DFL) : Prop := ∀ S ds z, F S ds = some z → ∀ m H0 H vs, (∀ p, H p = none → H0 p = none) → Rs K m H vs ds → Cells K m H S → ∀ Q : VK, (∀ p H', Evo m m H H' → Fresh K m H0 H' S p z → Q (.ref p) H') → r vs H Q
def mCBL (F : DFL) (u : MA) : MEL := fun ρ S => (u ρ S).bind fun a => (F a.2 a.1).bind fun d => some (d, a.2)
theorem goodCBL {K : Fr} {r : List V → Hp → VK → Prop} {F : DFL} {t : TA} (hr : GoodCallL K r F) (h : GoodA K t u) : GoodL K (tCB r t) (mCBL F u) := fun ρ S d S' e m H σ rl Q q => by
  obtain ⟨⟨ds, S1⟩, e1, e⟩ := bind_some e
  obtain ⟨z, e2, e⟩ := bind_some e
  cases e
  refine h ρ S ds _ e1 m H σ rl _ fun vs m1 H1 ev1 rs st1 => ?_
  exact hr _ ds d e2 m1 H H1 vs (fun p hp => ev1.backC hp st1) rs st1 Q fun p H2 ev2 fr => q p m1 H2 (ev1.trans ev2) fr
theorem ml_callB {id : String} {x : Str} {F : DFL} (hc : ∀ X, g.On X → ∃ r, CallR X (.builtin id) r ∧ GoodCallL g.K r F) (hm : g.mg x = none) (hv : bootBuiltins x = some (.builtin id)) (ha : Ma g (e :: es) u) (hg : glB g.sc x = true)
    (he : ∀ env : PySem.Env, starEach (e :: es) env = (false, eval e env) :: starEach es env := by intro _; rfl) (hpl : ∀ env : PySem.Env, (backTo pos (starEach es env)).any (·.1) = false := by intro _; rfl) : Ml g (.Call (.Name x p) (e :: es) [] pos) (mCBL F u) := ⟨fun X hX => by
  obtain ⟨r, c1, c2⟩ := hc X hX
  obtain ⟨t, h1, h2⟩ := ha.ok X hX
  obtain ⟨g1, g2, g3⟩ := glB_ok hX hg
  exact ⟨_, pe_callB c1 g1 (by rw [hX.mg]; exact hm) hv h1 g3 g2 (he _) (hpl _), goodCBL c2 h2⟩⟩
theorem ml_callT {T : String} {x : Str} {F : DFL} (hc : ∀ X, g.On X → ∃ r, CallR X (.type T) r ∧ GoodCallL g.K r F) (hm : g.mg x = none) (hv : bootBuiltins x = some (.type T)) (ha : Ma g (e :: es) u) (hg : glB g.sc x = true)
    (he : ∀ env : PySem.Env, starEach (e :: es) env = (false, eval e env) :: starEach es env := by intro _; rfl) (hpl : ∀ env : PySem.Env, (backTo pos (starEach es env)).any (·.1) = false := by intro _; rfl) : Ml g (.Call (.Name x p) (e :: es) [] pos) (mCBL F u) := ⟨fun X hX => by
  obtain ⟨r, c1, c2⟩ := hc X hX
  obtain ⟨t, h1, h2⟩ := ha.ok X hX
  obtain ⟨g1, g2, g3⟩ := glB_ok hX hg
  exact ⟨_, pe_callTy c1 g1 (by rw [hX.mg]; exact hm) hv h1 g3 g2 (he _) (hpl _), goodCBL c2 h2⟩⟩
theorem CallR.or {X : Cx} {v : Value} {r1 r2 : List V → Hp → VK → Prop} (h1 : CallR X v r1) (h2 : CallR X v r2) : CallR X v (fun xs H Q => r1 xs H Q ∨ r2 xs H Q) := by
  intro pins s σ H xs us Q I r h
  rcases h with h | h
  · exact h1 pins s σ H xs us Q I r h
  · exact h2 pins s σ H xs us Q I r h

/-! the single ones -/
theorem Rs.one {K : Fr} {m : Nm} {H : Hp} {vs : List V} {d : D} (r : Rs K m H vs [d]) : ∃ v, vs = [v] ∧ R K m H v d := by
  cases r
  rename_i r s
  cases s
  exact ⟨_, rfl, r⟩
def bAbs : DF := fun _ ds => match ds with | [.int i] => some (.int (if i < 0 then -i else i)) | _ => none
theorem good_abs : ∀ X, g.On X → ∃ r, CallR X (.builtin "abs") r ∧ GoodCall g.K r bAbs := fun X hX => ⟨_, call_abs, fun S ds z e m H vs r st Q q => by
  unfold bAbs at e
  split at e
  · cases e
    obtain ⟨v, rfl, rv⟩ := r.one
    cases rv
    exact ⟨_, rfl, q _ H .refl .int st⟩
  · cases e⟩
def bInt : DF := fun _ ds => match ds with | [.int i] => some (.int i) | [.bl b] => some (.int (if b then 1 else 0)) | _ => none
theorem good_int : ∀ X, g.On X → ∃ r, CallR X (.type "int") r ∧ GoodCall g.K r bInt := fun X hX => ⟨_, call_int1, fun S ds z e m H vs r st Q q => by
  unfold bInt at e
  split at e
  · cases e
    obtain ⟨v, rfl, rv⟩ := r.one
    cases rv
    exact .inl ⟨_, rfl, q _ H .refl .int st⟩
  · cases e
    obtain ⟨v, rfl, rv⟩ := r.one
    cases rv
    exact .inr ⟨_, rfl, q _ H .refl .int st⟩
  · cases e⟩
/-- the dict that is read: a tree's, a cell's -/
def dkOf (S : Sto) : D → Option (List (Key × D))
  | .dk ds => some ds
  | .obj k => match S[k]? with | some (.dk ds) => some ds | _ => none
  | _ => none
theorem dkOf_ok {K : Fr} {m : Nm} {H : Hp} {S : Sto} {d : D} {ds : List (Key × D)} {v : V} (h : dkOf S d = some ds) (r : R K m H v d) (st : Cells K m H S) : ∃ a vs, v = .ref a ∧ Rd H a (.dK vs) ∧ Rk K m H vs ds := by
  cases r
  case dk a vs ds' hl n rs => cases h; exact ⟨a, vs, rfl, hl, rs⟩
  case obj k a ha =>
    simp only [dkOf] at h
    split at h
    · rename_i ds' hs
      cases h
      obtain ⟨vs, h1, h2⟩ := st.cel k _ a hs ha
      exact ⟨a, vs, rfl, .of h1, h2⟩
    · cases h
  all_goals cases h
theorem Rk.len {K : Fr} {m : Nm} {H : Hp} : ∀ {vs : List (Key × V)} {ds : List (Key × D)}, Rk K m H vs ds → vs.length = ds.length
  | _, _, .nil => rfl
  | _, _, .cons _ s => by rw [List.length_cons, List.length_cons, Rk.len s]
def bLen : DF := fun S ds => match ds with
  | [.str z] => if z.length ≤ sizeLine then some (.int z.length) else none
  | [d] => ((seqOf S d).bind fun xs => some (.int xs.length)).or (match d with | .obj k => (match S[k]? with | some (.dk kvs) => some (.int kvs.length) | _ => none) | _ => none)
  | _ => none
theorem good_len : ∀ X, g.On X → ∃ r, CallR X (.builtin "len") r ∧ GoodCall g.K r bLen := fun X hX => ⟨_, CallR.or call_len_str (CallR.or call_len_seq call_lenD), fun S ds z e m H vs r st Q q => by
  unfold bLen at e
  split at e
  · obtain ⟨v, rfl, rv⟩ := r.one
    cases rv
    split at e
    · rename_i hz
      cases e
      exact .inl ⟨_, rfl, hz, q _ H .refl .int st⟩
    · cases e
  · obtain ⟨v, rfl, rv⟩ := r.one
    rcases Option.or_eq_some_iff.mp e with e | ⟨_, e⟩
    · obtain ⟨xs, hx, e⟩ := bind_some e
      cases e
      obtain ⟨a, vs, rfl, hs, rs⟩ := seqOf_ok hx rv st
      refine .inr (.inl ⟨a, vs, rfl, by rw [hX.K]; exact hs, ?_⟩)
      rw [rs.len]
      exact q _ H .refl .int st
    · split at e
      · split at e
        · rename_i kvs hk
          cases e
          cases rv
          rename_i a ha
          obtain ⟨ws, h1, h2⟩ := st.cel _ _ a hk ha
          refine .inr (.inr ⟨a, ws, rfl, h1, ?_⟩)
          rw [h2.len]
          exact q _ H .refl .int st
        · cases e
      · cases e
  · cases e⟩
def bTuple : DF := fun S ds => match ds with
  | [.tup xs] => some (.tup xs)
  | [.ftp xs] => some (.ftp xs)
  | [d] => (rdL S d).bind fun xs => some (.tup xs)
  | _ => none
theorem good_tuple : ∀ X, g.On X → ∃ r, CallR X (.type "tuple") r ∧ GoodCall g.K r bTuple := fun X hX => ⟨_, call_tuple_of, fun S ds z e m H vs r st Q q => by
  unfold bTuple at e
  split at e
  · obtain ⟨v, rfl, rv⟩ := r.one
    cases e
    cases rv
    rename_i a vs ht hn rs
    exact ⟨a, vs, rfl, .inr ⟨SqT.of ht, q _ H .refl (.tup ht hn rs) st⟩⟩
  · obtain ⟨v, rfl, rv⟩ := r.one
    cases e
    cases rv
    rename_i a o vs ht hd hn rs
    exact ⟨a, vs, rfl, .inr ⟨.inl (.inr ⟨o, ht⟩), q _ H .refl (.ftp ht hd hn rs) st⟩⟩
  · obtain ⟨v, rfl, rv⟩ := r.one
    obtain ⟨xs, hx, e⟩ := bind_some e
    cases e
    obtain ⟨a, vs, rfl, hs, rs⟩ := rdL_ok hx rv st
    exact ⟨a, vs, rfl, .inl ⟨by rw [hX.K]; exact hs, fun p hp => q _ _ (Evo.made st hp) (newT st hp rs) (st.made hp)⟩⟩
  · cases e⟩
def bList : DFL := fun S ds => match ds with
  | [d] => (seqOf S d).bind fun xs => some (.lst xs)
  | _ => none
theorem good_list : ∀ X, g.On X → ∃ r, CallR X (.type "list") r ∧ GoodCallL g.K r bList := fun X hX => ⟨_, call_list_of, fun S ds z e m H0 H vs h0 r st Q q => by
  unfold bList at e
  split at e
  · obtain ⟨v, rfl, rv⟩ := r.one
    obtain ⟨xs, hx, e⟩ := bind_some e
    cases e
    obtain ⟨a, vs, rfl, hs, rs⟩ := seqOf_ok hx rv st
    exact ⟨a, vs, rfl, by rw [hX.K]; exact hs, fun p hp => q _ _ (Evo.made st hp) (Fresh.lst (h0 p hp) st hp rs)⟩
  · cases e⟩
def asInts : List D → Option (List Int)
  | [] => some []
  | .int i :: r => (asInts r).bind fun is => some (i :: is)
  | _ => none
theorem asInts_ok {K : Fr} {m : Nm} {H : Hp} : ∀ {ds : List D} {ns : List Int} {vs : List V}, asInts ds = some ns → Rs K m H vs ds → vs = ns.map V.int
  | [], _, _, e, r => by cases e; cases r; rfl
  | .int i :: ds, _, _, e, r => by
    obtain ⟨is, e1, e⟩ := bind_some e
    cases e
    cases r
    rename_i r s
    cases r
    rw [asInts_ok e1 s]
    rfl
  | .non :: _, _, _, e, _ => by cases e
  | .bl _ :: _, _, _, e, _ => by cases e
  | .str _ :: _, _, _, e, _ => by cases e
  | .tup _ :: _, _, _, e, _ => by cases e
  | .lst _ :: _, _, _, e, _ => by cases e
  | .fzl _ :: _, _, _, e, _ => by cases e
  | .ktp _ :: _, _, _, e, _ => by cases e
  | .ftp _ :: _, _, _, e, _ => by cases e
  | .dk _ :: _, _, _, e, _ => by cases e
  | .dt _ :: _, _, _, e, _ => by cases e
  | .obj _ :: _, _, _, e, _ => by cases e
  | .raw _ :: _, _, _, e, _ => by cases e
def maxI : Int → List Int → Int
  | a, [] => a
  | a, b :: r => maxI (if a < b then b else a) r
theorem maxI_mem : ∀ (r : List Int) (a : Int), maxI a r ∈ a :: r
  | [], a => by simp [maxI]
  | b :: r, a => by
    unfold maxI
    have h := maxI_mem r (if a < b then b else a)
    rcases List.mem_cons.mp h with h | h
    · rw [h]
      split <;> simp
    · exact List.mem_cons_of_mem _ (List.mem_cons_of_mem _ h)
theorem maxI_le : ∀ (r : List Int) (a : Int), ∀ y ∈ a :: r, y ≤ maxI a r
  | [], a => by simp [maxI]
  | b :: r, a => fun y hy => by
    unfold maxI
    have h := maxI_le r (if a < b then b else a)
    have h0 := h _ List.mem_cons_self
    rcases List.mem_cons.mp hy with e | hy
    · exact Int.le_trans (by rw [e]; split <;> omega) h0
    · rcases List.mem_cons.mp hy with e | hy
      · exact Int.le_trans (by rw [e]; split <;> omega) h0
      · exact h y (List.mem_cons_of_mem _ hy)
def minI : Int → List Int → Int
  | a, [] => a
  | a, b :: r => minI (if b < a then b else a) r
theorem minI_mem : ∀ (r : List Int) (a : Int), minI a r ∈ a :: r
  | [], a => by simp [minI]
  | b :: r, a => by
    unfold minI
    have h := minI_mem r (if b < a then b else a)
    rcases List.mem_cons.mp h with h | h
    · rw [h]
      split <;> simp
    · exact List.mem_cons_of_mem _ (List.mem_cons_of_mem _ h)
theorem minI_le : ∀ (r : List Int) (a : Int), ∀ y ∈ a :: r, minI a r ≤ y
  | [], a => by simp [minI]
  | b :: r, a => fun y hy => by
    unfold minI
    have h := minI_le r (if b < a then b else a)
    have h0 := h _ List.mem_cons_self
    rcases List.mem_cons.mp hy with e | hy
    · exact Int.le_trans h0 (by rw [e]; split <;> omega)
    · rcases List.mem_cons.mp hy with e | hy
      · exact Int.le_trans h0 (by rw [e]; split <;> omega)
      · exact h y (List.mem_cons_of_mem _ hy)
def bMax : DF := fun S ds => match ds with
  | [d] => (rdL S d).bind fun xs => (asInts xs).bind fun ns => match ns with | n :: r => some (.int (maxI n r)) | [] => none
  | _ => none
theorem good_max : ∀ X, g.On X → ∃ r, CallR X (.builtin "max") r ∧ GoodCall g.K r bMax := fun X hX => ⟨_, cr_max hX.calm, fun S ds z e m H vs r st Q q => by
  unfold bMax at e
  split at e
  · obtain ⟨v, rfl, rv⟩ := r.one
    obtain ⟨xs, hx, e⟩ := bind_some e
    obtain ⟨ns, hn, e⟩ := bind_some e
    obtain ⟨a, vs, rfl, hs, rs⟩ := rdL_ok hx rv st
    have hv := asInts_ok hn rs
    subst hv
    split at e
    · rename_i n r'
      cases e
      refine ⟨a, n :: r', rfl, by rw [hX.K]; exact hs, by simp, fun k hk hle => ?_⟩
      have hk' : k = maxI n r' := Int.le_antisymm (maxI_le r' n k hk) (hle _ (maxI_mem r' n))
      rw [hk']
      exact q _ H .refl .int st
    · cases e
  · cases e⟩
def bSum : DF := fun S ds => match ds with
  | [d] => (rdL S d).bind fun xs => (asInts xs).bind fun ns => some (.int ns.sum)
  | _ => none
theorem good_sum : ∀ X, g.On X → ∃ r, CallR X (.builtin "sum") r ∧ GoodCall g.K r bSum := fun X hX => ⟨_, cr_sum hX.calm, fun S ds z e m H vs r st Q q => by
  unfold bSum at e
  split at e
  · obtain ⟨v, rfl, rv⟩ := r.one
    obtain ⟨xs, hx, e⟩ := bind_some e
    obtain ⟨ns, hn, e⟩ := bind_some e
    obtain ⟨a, vs, rfl, hs, rs⟩ := rdL_ok hx rv st
    have hv := asInts_ok hn rs
    subst hv
    cases e
    exact ⟨a, ns, rfl, by rw [hX.K]; exact hs, q _ H .refl .int st⟩
  · cases e⟩
/-- repr of data -/
def bRepr : DF := fun S ds => match ds with
  | [d] => (py S d).bind fun p => if p.showable = true ∧ p.shown.length ≤ sizeLine ∧ p.depth ≤ 64 ∧ p.hasDict = false then some (.str p.shown) else none
  | _ => none
theorem call_repr {X : Cx} (gd : X.A.guards = some []) (hu : X.A.units + 100 < cLine) : CallR X (.builtin "repr") (fun xs H Q => ∃ v p, xs = [v] ∧ Dp X.K H v p ∧ p.showable = true ∧ p.shown.length ≤ sizeLine ∧ p.depth ≤ 64 ∧ p.hasDict = false ∧ Q (.str p.shown) H) := by
  intro pins s σ H xs us Q I r h
  obtain ⟨v, p, rfl, hd, h1, h2, h3, h4, q⟩ := h
  obtain ⟨u, rfl, ru⟩ := vals1 r
  obtain ⟨as, rd⟩ := Dp.reads I p v u hd ru
  cases hd with
  | non =>
    cases ru
    exact P.repr_of_none ⟨.str _, H, I.tok _, ⟨_, rfl⟩, q⟩
  | bl b =>
    cases ru
    exact P.repr_of_bool ⟨.str _, H, I.tok _, ⟨_, rfl⟩, q⟩
  | int i =>
    obtain ⟨t, rfl⟩ := ru
    exact P.repr_of_int (of_decide_eq_true (by simpa [PyData.showable] using h1)) ⟨.str _, H, I.tok _, ⟨_, rfl⟩, q⟩
  | str x =>
    obtain ⟨t, rfl⟩ := ru
    exact P.repr_of_str ⟨.str _, H, I.tok _, ⟨_, rfl⟩, q⟩ h2
  | lst a b =>
    cases ru
    refine repr_of_reads' rd h1 (fun h => by rw [h4] at h; cases h) gd (by omega) (fun _ _ e => e) (fun h' u tk hk => ⟨.str _, H, I.kept (h' := h') (t' := tk) hk, ⟨_, rfl⟩, q⟩) h2
  | tup a b =>
    cases ru
    refine repr_of_reads' rd h1 (fun h => by rw [h4] at h; cases h) gd (by omega) (fun _ _ e => e) (fun h' u tk hk => ⟨.str _, H, I.kept (h' := h') (t' := tk) hk, ⟨_, rfl⟩, q⟩) h2
theorem good_repr : ∀ X, g.On X → ∃ r, CallR X (.builtin "repr") r ∧ GoodCall g.K r bRepr := fun X hX => ⟨_, call_repr hX.gd hX.hu, fun S ds z e m H vs r st Q q => by
  unfold bRepr at e
  split at e
  · obtain ⟨v, rfl, rv⟩ := r.one
    obtain ⟨p, hp, e⟩ := bind_some e
    split at e
    · rename_i h
      cases e
      exact ⟨v, p, rfl, by rw [hX.K]; exact py_ok hp rv st, h.1, h.2.1, h.2.2.1, h.2.2.2, q _ H .refl .str st⟩
    · cases e
  · cases e⟩
end
end Mi
namespace Mi
open PySem PySem.Spec PyProof.Rows L2

/-! ### defs -/
structure Wd where
  P : Program
  w : World
  K : Fr
  mg : Str → Option Value
  base : Heap
abbrev G.wd (g : G) : Wd := ⟨g.P, g.w, g.K, g.mg, g.base⟩
/-- the def at f keeps the promise sp where no repr is under way -/
structure FnG (W : Wd) (k : Nat) (f : Addr) (fd : FuncData) (ps : List Str) (sp : Sp) : Prop where
  len : ∀ vs H Q E, sp vs H Q E → vs.length = ps.length
  run : ∀ (A : Around) (outer : List PySem.Env) (s : Shared) (H : Hp) (args : Args) (us : List Value) (vs : List V) (Q : VK) (E : XK), Room k A → A.guards = some [] → Env0 W.P W.w W.K W.mg W.base A outer s H → BindsTo s fd args (ps.zip us) → Vals vs us →
    sp vs H Q E → codeAny (model W.P W.w) A (.call (.ref f) args) (L2.CR CX0 outer W.P W.w H s Q E) s
theorem FnG.mono {W : Wd} {j k : Nat} {f : Addr} {fd : FuncData} {ps : List Str} {sp : Sp} (F : FnG W j f fd ps sp) (h : j ≤ k) : FnG W k f fd ps sp :=
  ⟨F.len, fun A o s H args us vs Q E hr => F.run A o s H args us vs Q E (hr.mono h)⟩
theorem run_fnG {X : Cx} {W : Wd} {k : Nat} {f : Addr} {fd : FuncData} {ps : List Str} {sp : Sp} {pins : List (Addr × Obj)} {σ : L2.St} {H : Hp} {s : Shared} {Q : VK} {us : List Value} {vs : List V} (F : FnG W k f fd ps sp)
    (hW : W = ⟨X.prog, X.w, X.K, X.mg, X.base⟩) (hr : Room k X.A) (gd : X.A.guards = some []) (hb : Binds X.K fd ps []) (I : Inv X pins σ H s) (r : Vals vs us) (h : sp vs H Q E0) : wpAny (model X.prog X.w) X.A (call (.ref f) us) (EP X pins σ Q) X.xe s := by
  subst hW
  have hl : us.length = ps.length := by
    rw [← r.length]
    exact F.len _ _ _ _ h
  have hbb := hb s us I.kIn (by rw [List.append_nil]; exact hl)
  rw [List.append_nil] at hbb
  refine wpAny_call (codeAny_mono (F.run X.A X.stack s H ⟨us, []⟩ us vs Q E0 hr gd I.env0 hbb r h) fun res s' hq => ?_)
  match res, hq with
  | .error _, hq => exact False.elim hq
  | .ok (.ret u), hq => exact I.after hq
  | .ok .next, hq => exact False.elim hq
  | .ok .brk, hq => exact False.elim hq
  | .ok .cont, hq => exact False.elim hq
theorem pe_callG {X : Cx} {W : Wd} {k : Nat} {f : Addr} {fd : FuncData} {ps : List Str} {sp : Sp} {x : Str} {p pos : Pos} {e : Expr} {es : List Expr} {t : TA} (F : FnG W k f fd ps sp) (hW : W = ⟨X.prog, X.w, X.K, X.mg, X.base⟩) (hr : Room k X.A) (gd : X.A.guards = some []) (hg : Gl X x)
    (hm : X.mg x = some (.ref f)) (hk : PySem.W.keepIn X.K (.ref f) = true) (hb : Binds X.K fd ps []) (ha : PA X (e :: es) t) (hdb : (x == ("__debug__" : Str)) = false) (he : starEach (e :: es) X.env = (false, eval e X.env) :: starEach es X.env)
    (hpl : (backTo pos (starEach es X.env)).any (·.1) = false) : PE X (.Call (.Name x p) (e :: es) [] pos) (fun σ H Q => t σ H fun vs H1 => sp vs H1 Q E0) := by
  constructor
  intro pins s σ H Q I h
  refine wpAny_Call_Name_kw (ld_glob I hg hm ?_ hdb)
  exact PySem.W.callWith_K (h₀ := X.base) I.ok.mod.kin hk (thn (ha.run pos pins s σ H _ I h) fun us s1 ⟨vs, H1, I1, r, q⟩ => ⟨I1.kIn, run_fnG F hW hr gd hb I1 r q⟩) he hpl
theorem pe_callG0 {X : Cx} {W : Wd} {k : Nat} {f : Addr} {fd : FuncData} {ps : List Str} {sp : Sp} {x : Str} {p pos : Pos} (F : FnG W k f fd ps sp) (hW : W = ⟨X.prog, X.w, X.K, X.mg, X.base⟩) (hr : Room k X.A) (gd : X.A.guards = some []) (hg : Gl X x)
    (hm : X.mg x = some (.ref f)) (hk : PySem.W.keepIn X.K (.ref f) = true) (hb : Binds X.K fd ps []) (hdb : (x == ("__debug__" : Str)) = false) : PE X (.Call (.Name x p) [] [] pos) (fun σ H Q => sp [] H Q E0) := by
  constructor
  intro pins s σ H Q I h
  exact wpAny_Call_Name_kw (ld_glob I hg hm (PySem.W.callWith_K0 I.kIn hk (run_fnG (us := []) F hW hr gd hb I .nil h)) hdb)

abbrev MF := List D → Sto → Option (D × Sto)
abbrev MFL := List D → Sto → Option (C × Sto)
/-- the promise: what the mirror F says -/
def spF (K : Fr) (F : MF) : Sp := fun vs H Q _ => ∃ ds S d S' m, F ds S = some (d, S') ∧ Rs K m H vs ds ∧ Cells K m H S ∧ ∀ v m' H', Evo m m' H H' → R K m' H' v d → Cells K m' H' S' → Q v H'
def spL (K : Fr) (F : MFL) : Sp := fun vs H Q _ => ∃ ds S c S' m, F ds S = some (c, S') ∧ Rs K m H vs ds ∧ Cells K m H S ∧ ∀ p m' H', Evo m m' H H' → Fresh K m' H H' S' p c → Q (.ref p) H'
/-- the def called x, of n parameters, is F, by at most level j -/
structure Kn (W : Wd) (x : Str) (j n : Nat) (F : MF) : Prop where
  ex : ∃ (f : Addr) (fd : FuncData) (ps : List Str), FnG W j f fd ps (spF W.K F) ∧ W.mg x = some (.ref f) ∧ PySem.W.keepIn W.K (.ref f) = true ∧ Binds W.K fd ps [] ∧ ps.length = n
structure KnL (W : Wd) (x : Str) (j n : Nat) (F : MFL) : Prop where
  ex : ∃ (f : Addr) (fd : FuncData) (ps : List Str), FnG W j f fd ps (spL W.K F) ∧ W.mg x = some (.ref f) ∧ PySem.W.keepIn W.K (.ref f) = true ∧ Binds W.K fd ps [] ∧ ps.length = n
theorem KnL.kn {W : Wd} {x : Str} {j n : Nat} {F : MFL} (h : KnL W x j n F) : Kn W x j n (fun ds S => (F ds S).bind fun a => some (a.1.toD, a.2)) := by
  obtain ⟨f, fd, ps, h1, h2⟩ := h.ex
  refine ⟨f, fd, ps, ⟨fun vs H Q E q => ?_, fun A o s H args us vs Q E hr hg he hb hv hs => ?_⟩, h2⟩
  all_goals first
    | (obtain ⟨ds, S, d, S', m, e, rs, st, q⟩ := q
       obtain ⟨⟨c, S1⟩, e1, e2⟩ := bind_some e
       cases e2
       exact h1.len vs H Q E ⟨ds, S, c, _, m, e1, rs, st, fun p m' H' ev fr => q _ m' H' ev fr.tree fr.st⟩)
    | (obtain ⟨ds, S, d, S', m, e, rs, st, q⟩ := hs
       obtain ⟨⟨c, S1⟩, e1, e2⟩ := bind_some e
       cases e2
       exact h1.run A o s H args us vs Q E hr hg he hb hv ⟨ds, S, c, _, m, e1, rs, st, fun p m' H' ev fr => q _ m' H' ev fr.tree fr.st⟩)
section
variable {g : G} {e : Expr} {es : List Expr} {pos p : Pos} {u : MA} {x : Str} {j n : Nat} {F : MF} {FL : MFL}
theorem G.On.eW {X : Cx} (h : g.On X) : g.wd = ⟨X.prog, X.w, X.K, X.mg, X.base⟩ := by
  rw [h.p, h.w, h.K, h.mg, h.base]
def mCall (F : MF) (u : MA) : ME := fun ρ S => (u ρ S).bind fun a => F a.1 a.2
def mCallL (F : MFL) (u : MA) : MEL := fun ρ S => (u ρ S).bind fun a => F a.1 a.2
theorem ms_call (h : Kn g.wd x j n F) (ha : Ma g (e :: es) u) (hj : j ≤ g.k := by decide) (hg : glB g.sc x = true := by decide +kernel)
    (he : ∀ env : PySem.Env, starEach (e :: es) env = (false, eval e env) :: starEach es env := by intro _; rfl) (hpl : ∀ env : PySem.Env, (backTo pos (starEach es env)).any (·.1) = false := by intro _; rfl) : Ms g (.Call (.Name x p) (e :: es) [] pos) (mCall F u) := ⟨fun X hX => by
  obtain ⟨f, fd, ps, h1, h2, h3, h4, h5⟩ := h.ex
  obtain ⟨t, a1, a2⟩ := ha.ok X hX
  obtain ⟨g1, g2, g3⟩ := glB_ok hX hg
  refine ⟨_, pe_callG h1 hX.eW (hX.room.mono hj) hX.gd g1 (by rw [hX.mg]; exact h2) (by rw [hX.K]; exact h3) (by rw [hX.K]; exact h4) a1 g2 (he _) (hpl _), fun ρ S d S' e m H σ r Q q => ?_⟩
  obtain ⟨⟨ds, S1⟩, e1, e⟩ := bind_some e
  refine a2 ρ S ds S1 e1 m H σ r _ fun vs m1 H1 ev1 rs st1 => ?_
  exact ⟨ds, S1, d, S', m1, e, rs, st1, fun v m' H' ev rv st => q v m' H' (ev1.trans ev) rv st⟩⟩
theorem ms_call0 (h : Kn g.wd x j n F) (hj : j ≤ g.k := by decide) (hg : glB g.sc x = true := by decide +kernel) : Ms g (.Call (.Name x p) [] [] pos) (mCall F mNil) := ⟨fun X hX => by
  obtain ⟨f, fd, ps, h1, h2, h3, h4, h5⟩ := h.ex
  obtain ⟨g1, g2, g3⟩ := glB_ok hX hg
  refine ⟨_, pe_callG0 h1 hX.eW (hX.room.mono hj) hX.gd g1 (by rw [hX.mg]; exact h2) (by rw [hX.K]; exact h3) (by rw [hX.K]; exact h4) g2, fun ρ S d S' e m H σ r Q q => ?_⟩
  exact ⟨[], S, d, S', m, e, .nil, r.st, fun v m' H' ev rv st => q v m' H' ev rv st⟩⟩
theorem ml_call (h : KnL g.wd x j n FL) (ha : Ma g (e :: es) u) (hj : j ≤ g.k := by decide) (hg : glB g.sc x = true := by decide +kernel)
    (he : ∀ env : PySem.Env, starEach (e :: es) env = (false, eval e env) :: starEach es env := by intro _; rfl) (hpl : ∀ env : PySem.Env, (backTo pos (starEach es env)).any (·.1) = false := by intro _; rfl) : Ml g (.Call (.Name x p) (e :: es) [] pos) (mCallL FL u) := ⟨fun X hX => by
  obtain ⟨f, fd, ps, h1, h2, h3, h4, h5⟩ := h.ex
  obtain ⟨t, a1, a2⟩ := ha.ok X hX
  obtain ⟨g1, g2, g3⟩ := glB_ok hX hg
  refine ⟨_, pe_callG h1 hX.eW (hX.room.mono hj) hX.gd g1 (by rw [hX.mg]; exact h2) (by rw [hX.K]; exact h3) (by rw [hX.K]; exact h4) a1 g2 (he _) (hpl _), fun ρ S d S' e m H σ r Q q => ?_⟩
  obtain ⟨⟨ds, S1⟩, e1, e⟩ := bind_some e
  refine a2 ρ S ds S1 e1 m H σ r _ fun vs m1 H1 ev1 rs st1 => ?_
  refine ⟨ds, S1, d, S', m1, e, rs, st1, fun p m' H' ev fr => q p m' H' (ev1.trans ev) ⟨ev1.backC fr.new st1, fr.one, fr.st, fr.tree⟩⟩⟩
end

/-! ### statements -/
inductive Fl where
  | nx (ρ : Env) | rt (d : D) | rl (c : C) | bk (ρ : Env) | ct (ρ : Env)
abbrev MS := Env → Sto → Option (Fl × Sto)
def After (K : Fr) (m : Nm) (H : Hp) (S' : Sto) (Dn : Ends) : Fl → Prop
  | .nx ρ' => ∀ σ' m' H', Evo m m' H H' → Rel K m' H' σ' ρ' S' → Dn.nx σ' H'
  | .bk ρ' => ∀ σ' m' H', Evo m m' H H' → Rel K m' H' σ' ρ' S' → Dn.bk σ' H'
  | .ct ρ' => ∀ σ' m' H', Evo m m' H H' → Rel K m' H' σ' ρ' S' → Dn.ct σ' H'
  | .rt d => ∀ v m' H', Evo m m' H H' → R K m' H' v d → Cells K m' H' S' → Dn.rt v H'
  | .rl c => ∀ p m' H', Evo m m' H H' → Fresh K m' H H' S' p c → Dn.rt (.ref p) H'
def GoodS (K : Fr) (t : TS) (f : MS) : Prop := ∀ ρ S r S', f ρ S = some (r, S') → ∀ m H σ, Rel K m H σ ρ S → ∀ Dn : Ends, After K m H S' Dn r → t Dn σ H
structure Mst (g : G) (st : Stmt) (f : MS) : Prop where
  ok : ∀ X, g.On X → ∃ t, PS X st t ∧ GoodS g.K t f
structure Mss (g : G) (st : List Stmt) (f : MS) : Prop where
  ok : ∀ X, g.On X → ∃ t, PSs X st t ∧ GoodS g.K t f
theorem After.evo {K : Fr} {m m1 : Nm} {H H1 : Hp} {S1 S' : Sto} {Dn : Ends} {r : Fl} (ev : Evo m m1 H H1) (st : Cells K m1 H1 S1) (h : After K m H S' Dn r) : After K m1 H1 S' Dn r := by
  cases r with
  | nx ρ => exact fun σ m2 H2 e r => h σ m2 H2 (ev.trans e) r
  | bk ρ => exact fun σ m2 H2 e r => h σ m2 H2 (ev.trans e) r
  | ct ρ => exact fun σ m2 H2 e r => h σ m2 H2 (ev.trans e) r
  | rt d => exact fun v m2 H2 e r => h v m2 H2 (ev.trans e) r
  | rl c => exact fun p m2 H2 e fr => h p m2 H2 (ev.trans e) ⟨ev.backC fr.new st, fr.one, fr.st, fr.tree⟩
section
variable {g : G} {e a b c : Expr} {es : List Expr} {pos p pos' : Pos} {f h : ME} {u : MA} {s1 : Stmt} {rest ss ts : List Stmt} {k l : MS} {t : MT} {fl : MEL}
def mSkip : MS := fun ρ S => some (.nx ρ, S)
def mSeq (k l : MS) : MS := fun ρ S => (k ρ S).bind fun a => match a.1 with | .nx ρ' => l ρ' a.2 | r => some (r, a.2)
theorem mss_nil : Mss g [] mSkip := ⟨fun X hX => ⟨_, pss_nil, fun ρ S r S' e m H σ rl Dn q => by cases e; exact q σ m H .refl rl⟩⟩
theorem mss_cons (h1 : Mst g s1 k) (h2 : Mss g rest l) : Mss g (s1 :: rest) (mSeq k l) := ⟨fun X hX => by
  obtain ⟨t1, a1, b1⟩ := h1.ok X hX
  obtain ⟨t2, a2, b2⟩ := h2.ok X hX
  refine ⟨_, pss_cons a1 a2, fun ρ S r S' e m H σ rl Dn q => ?_⟩
  obtain ⟨⟨r1, S1⟩, e1, e⟩ := bind_some e
  refine b1 ρ S r1 S1 e1 m H σ rl _ ?_
  cases r1 with
  | nx ρ1 => exact fun σ1 m1 H1 ev r1 => b2 ρ1 S1 r S' e m1 H1 σ1 r1 Dn (q.evo ev r1.st)
  | bk ρ1 => cases e; exact q
  | ct ρ1 => cases e; exact q
  | rt d => cases e; exact q
  | rl d => cases e; exact q⟩
theorem mss_one (h1 : Mst g s1 k) : Mss g [s1] k := ⟨fun X hX => by
  obtain ⟨t1, a1, b1⟩ := h1.ok X hX
  exact ⟨_, pss_one a1, b1⟩⟩
theorem mst_pass : Mst g (.Pass pos) mSkip := ⟨fun X hX => ⟨_, ps_pass, fun ρ S r S' e m H σ rl Dn q => by cases e; exact q σ m H .refl rl⟩⟩
def mBrk : MS := fun ρ S => some (.bk ρ, S)
def mCnt : MS := fun ρ S => some (.ct ρ, S)
theorem mst_break : Mst g (.Break pos) mBrk := ⟨fun X hX => ⟨_, ps_break, fun ρ S r S' e m H σ rl Dn q => by cases e; exact q σ m H .refl rl⟩⟩
theorem mst_cont : Mst g (.Continue pos) mCnt := ⟨fun X hX => ⟨_, ps_continue, fun ρ S r S' e m H σ rl Dn q => by cases e; exact q σ m H .refl rl⟩⟩
/-- a statement that is never reached -/
def mNever : MS := fun _ _ => none
theorem mst_never : Mst g s1 mNever := ⟨fun X hX => ⟨_, ps_never, fun ρ S r S' e => by cases e⟩⟩
def mExpr (f : ME) : MS := fun ρ S => (f ρ S).bind fun a => some (.nx ρ, a.2)
theorem mst_expr (ha : Ms g a f) (hs : ∀ env : PySem.Env, swapsWith a none pos.line env = pure false := by intro _; rfl) : Mst g (.Expr a pos) (mExpr f) := ⟨fun X hX => by
  obtain ⟨t, h1, h2⟩ := ha.ok X hX
  refine ⟨_, ps_expr h1 (hs _), fun ρ S r S' e m H σ rl Dn q => ?_⟩
  obtain ⟨⟨d, S1⟩, e1, e⟩ := bind_some e
  cases e
  exact h2 ρ S d _ e1 m H σ rl _ fun v m1 H1 ev rv st => q σ m1 H1 ev (rl.evo ev st)⟩
def mRet (f : ME) : MS := fun ρ S => (f ρ S).bind fun a => some (.rt a.1, a.2)
theorem mst_ret (ha : Ms g a f) : Mst g (.Return (some a) pos) (mRet f) := ⟨fun X hX => by
  obtain ⟨t, h1, h2⟩ := ha.ok X hX
  refine ⟨_, ps_ret h1, fun ρ S r S' e m H σ rl Dn q => ?_⟩
  obtain ⟨⟨d, S1⟩, e1, e⟩ := bind_some e
  cases e
  exact h2 ρ S d _ e1 m H σ rl _ fun v m1 H1 ev rv st => q v m1 H1 ev rv st⟩
def mRetL (f : MEL) : MS := fun ρ S => (f ρ S).bind fun a => some (.rl a.1, a.2)
theorem mst_retL (ha : Ml g a fl) : Mst g (.Return (some a) pos) (mRetL fl) := ⟨fun X hX => by
  obtain ⟨t, h1, h2⟩ := ha.ok X hX
  refine ⟨_, ps_ret h1, fun ρ S r S' e m H σ rl Dn q => ?_⟩
  obtain ⟨⟨d, S1⟩, e1, e⟩ := bind_some e
  cases e
  exact h2 ρ S d _ e1 m H σ rl _ fun p m1 H1 ev fr => q p m1 H1 ev fr⟩
def mRetN : MS := fun _ S => some (.rt .non, S)
theorem mst_retN : Mst g (.Return none pos) mRetN := ⟨fun X hX => ⟨_, ps_retN, fun ρ S r S' e m H σ rl Dn q => by cases e; exact q _ m H .refl .non rl.st⟩⟩
def mIfS (t : MT) (k l : MS) : MS := fun ρ S => (t ρ S).bind fun a => if a.1 = true then k ρ a.2 else l ρ a.2
theorem mst_if (hc : Mt g c t) (h1 : Mss g ss k) (h2 : Mss g ts l) : Mst g (.If c ss ts pos) (mIfS t k l) := ⟨fun X hX => by
  obtain ⟨t0, a0, b0⟩ := hc.ok X hX
  obtain ⟨t1, a1, b1⟩ := h1.ok X hX
  obtain ⟨t2, a2, b2⟩ := h2.ok X hX
  refine ⟨_, ps_if a0 a1 a2, fun ρ S r S' e m H σ rl Dn q => ?_⟩
  obtain ⟨⟨d, S1⟩, e1, e⟩ := bind_some e
  refine b0 ρ S d S1 e1 m H σ rl _ fun m1 H1 ev st => ?_
  cases d with
  | true =>
    rw [if_pos rfl] at e ⊢
    exact b1 ρ S1 r S' e m1 H1 σ (rl.evo ev st) Dn (q.evo ev st)
  | false =>
    rw [if_neg Bool.false_ne_true] at e ⊢
    exact b2 ρ S1 r S' e m1 H1 σ (rl.evo ev st) Dn (q.evo ev st)⟩

/-! ### targets -/
def locB (N : List Str) (sc ow : Scope) (i : Nat) (x : Str) : Bool := decide (N[i]? = some x) && (match sc.names.lookup x with | some .local => true | some .cell => (match ow.names.lookup x with | some .cell => true | _ => false) | _ => false)
theorem locB_ok {N : List Str} {sc ow : Scope} {i : Nat} {x : Str} (h : locB N sc ow i x = true) : N[i]? = some x ∧ (sc.names.lookup x = some .local ∨ (sc.names.lookup x = some .cell ∧ ow.names.lookup x = some .cell)) := by
  unfold locB at h
  simp only [Bool.and_eq_true, decide_eq_true_eq] at h
  refine ⟨h.1, ?_⟩
  have h2 := h.2
  split at h2
  · exact .inl (by assumption)
  · rename_i hc
    split at h2
    · exact .inr ⟨hc, by assumption⟩
    · cases h2
  · cases h2
theorem G.On.hf {X : Cx} (hX : g.On X) {x : Str} (h : g.sc.names.lookup x = some .local ∨ (g.sc.names.lookup x = some .cell ∧ g.ow.names.lookup x = some .cell)) : (X.fn x = true ∨ X.env.scope.names.lookup x = some .local) ∧ L2.Loc X.env.scope x := by
  unfold L2.Loc
  rw [hX.sc]
  rcases h with h | ⟨h, h'⟩
  · exact ⟨.inr h, .inl h⟩
  · exact ⟨.inl (hX.fn x h'), .inr h⟩
abbrev MG := D → Env → Sto → Option (Env × Sto)
def GoodG (K : Fr) (t : TG) (f : MG) : Prop := ∀ d ρ S ρ' S', f d ρ S = some (ρ', S') → ∀ v m H σ, Rel K m H σ ρ S → R K m H v d → ∀ Q : L2.St → Hp → Prop, (∀ σ' m' H', Evo m m' H H' → Rel K m' H' σ' ρ' S' → Q σ' H') → t v σ H Q
structure Mg (g : G) (e : Expr) (f : MG) : Prop where
  ok : ∀ X, g.On X → ∃ t, PG X e t ∧ GoodG g.K t f
abbrev MGs := List D → Env → Sto → Option (Env × Sto)
def GoodGs (K : Fr) (t : TGs) (f : MGs) : Prop := ∀ d ρ S ρ' S', f d ρ S = some (ρ', S') → ∀ v m H σ, Rel K m H σ ρ S → Rs K m H v d → ∀ Q : L2.St → Hp → Prop, (∀ σ' m' H', Evo m m' H H' → Rel K m' H' σ' ρ' S' → Q σ' H') → t v σ H Q
structure Mgs (g : G) (es : List Expr) (f : MGs) : Prop where
  ok : ∀ X, g.On X → ∃ t, PGs X es t ∧ GoodGs g.K t f
def mName (i : Nat) : MG := fun d ρ S => some (ρ.set i (some d), S)
theorem mg_name {x : Str} (i : Nat) (h : locB g.N g.sc g.ow i x = true) : Mg g (.Name x pos) (mName i) := ⟨fun X hX => by
  obtain ⟨h1, h2⟩ := locB_ok h
  obtain ⟨h3, h4⟩ := hX.hf h2
  refine ⟨_, pg_name (i := i) hX.nd (by rw [hX.N]; exact h1) h4 h3, fun d ρ S ρ' S' e v m H σ r rv Q q => ?_⟩
  cases e
  exact q _ m H .refl (r.set i rv)⟩
def mgNil : MGs := fun ds ρ S => match ds with | [] => some (ρ, S) | _ => none
def mgCons (f : MG) (h : MGs) : MGs := fun ds ρ S => match ds with | d :: r => (f d ρ S).bind fun a => h r a.1 a.2 | [] => none
theorem mgs_nil : Mgs g [] mgNil := ⟨fun X hX => ⟨_, pgs_nil, fun d ρ S ρ' S' e v m H σ r rv Q q => by
  unfold mgNil at e
  split at e
  · cases e
    cases rv
    exact ⟨rfl, q σ m H .refl r⟩
  · cases e⟩⟩
theorem mgs_cons {f : MG} {h : MGs} (h1 : Mg g e f) (h2 : Mgs g es h) (hs : ∀ env : PySem.Env, ((assignEach (e :: es) env).map (·.2)) = assign e env :: ((assignEach es env).map (·.2)) := by intro _; rfl) : Mgs g (e :: es) (mgCons f h) := ⟨fun X hX => by
  obtain ⟨t1, a1, b1⟩ := h1.ok X hX
  obtain ⟨t2, a2, b2⟩ := h2.ok X hX
  refine ⟨_, pgs_cons a1 a2 (hs _), fun d ρ S ρ' S' e v m H σ r rv Q q => ?_⟩
  unfold mgCons at e
  split at e
  · obtain ⟨⟨ρ1, S1⟩, e1, e⟩ := bind_some e
    cases rv
    rename_i v vs rv rs
    refine ⟨_, _, rfl, b1 _ ρ S ρ1 S1 e1 v m H σ r rv _ fun σ1 m1 H1 ev1 r1 => ?_⟩
    exact b2 _ ρ1 S1 ρ' S' e vs m1 H1 σ1 r1 (rs.evo ev1) Q fun σ2 m2 H2 ev2 r2 => q σ2 m2 H2 (ev1.trans ev2) r2
  · cases e⟩
def mgTup (n : Nat) (h : MGs) : MG := fun d ρ S => match d with | .tup xs => if xs.length = n then h xs ρ S else none | _ => none
end
end Mi
namespace Mi
open PySem PySem.Spec PyProof.Rows L2
section
variable {g : G} {e a b c o i : Expr} {es : List Expr} {pos p pos' : Pos} {f h fo fi : ME} {u : MA} {s1 : Stmt} {rest ss ts : List Stmt} {k l : MS} {t : MT} {fl : MEL} {gt : MG} {gs : MGs}
def tupOf : D → Option (List D)
  | .tup xs => some xs
  | .ktp xs => some xs
  | .ftp xs => some xs
  | _ => none
theorem tupOf_ok {K : Fr} {m : Nm} {H : Hp} {d : D} {xs : List D} {v : V} (h : tupOf d = some xs) (r : R K m H v d) : ∃ a vs, v = .ref a ∧ SqT K H a vs ∧ Rs K m H vs xs := by
  cases r
  case tup a vs ds h1 h2 r => cases h; exact ⟨a, vs, rfl, SqT.of h1, r⟩
  case ktp a vs ds h1 r => cases h; exact ⟨a, vs, rfl, sqT_any h1, r⟩
  case ftp a o vs ds h1 hd h2 r => cases h; exact ⟨a, vs, rfl, .inl (.inr ⟨o, h1⟩), r⟩
  all_goals cases h
def mTg (n : Nat) (h : MGs) : MG := fun d ρ S => (tupOf d).bind fun xs => if xs.length = n then h xs ρ S else none
theorem mg_tup {kk n : Nat} (h : Mgs g es gs) (hn : ∀ env : PySem.Env, (assignEach es env).length = n := by intro _; rfl) (hst : ∀ env : PySem.Env, (assignEach es env).findIdx? (·.1) = none := by intro _; rfl) : Mg g (.Tuple es kk pos) (mTg n gs) := ⟨fun X hX => by
  obtain ⟨t1, a1, b1⟩ := h.ok X hX
  refine ⟨_, pg_tup hX.calm a1 (hn _) (hst _), fun d ρ S ρ' S' e v m H σ r rv Q q => ?_⟩
  obtain ⟨xs, ex, e⟩ := bind_some e
  split at e
  · rename_i hl
    obtain ⟨ad, vs, rfl, hs, rs⟩ := tupOf_ok ex rv
    exact ⟨ad, vs, rfl, by rw [hX.K]; exact hs, by rw [rs.len]; exact hl, b1 xs ρ S ρ' S' e vs m H σ r rs Q q⟩
  · cases e⟩
/-- name, target = value -/
def mAsg (f : ME) (gt : MG) : MS := fun ρ S => (f ρ S).bind fun a => (gt a.1 ρ a.2).bind fun b => some (.nx b.1, b.2)
theorem good_asg {K : Fr} {te : TE} {tg : TG} (h1 : GoodE K te f) (h2 : GoodG K tg gt) : GoodS K (tAsg te tg) (mAsg f gt) := fun ρ S r S' e m H σ rl Dn q => by
  obtain ⟨⟨d, S1⟩, e1, e⟩ := bind_some e
  obtain ⟨⟨ρ2, S2⟩, e2, e⟩ := bind_some e
  cases e
  refine h1 ρ S d S1 e1 m H σ rl _ fun v m1 H1 ev rv st => ?_
  exact h2 d ρ S1 _ _ e2 v m1 H1 σ (rl.evo ev st) rv _ fun σ2 m2 H2 ev2 r2 => q σ2 m2 H2 (ev.trans ev2) r2
theorem mst_set {x : Str} (j : Nat) (he : Ms g e f) (hx : locB g.N g.sc g.ow j x = true) (hs : ∀ env : PySem.Env, swapsWith e (some (.Name x pos')) pos.line env = pure false := by intro _; rfl) : Mst g (.Assign [.Name x pos'] e pos) (mAsg f (mName j)) := ⟨fun X hX => by
  obtain ⟨t, h1, h2⟩ := he.ok X hX
  obtain ⟨x1, x2⟩ := locB_ok hx
  obtain ⟨x3, x4⟩ := hX.hf x2
  refine ⟨_, ps_set (i := j) hX.nd (by rw [hX.N]; exact x1) x4 h1 (hs _) x3, good_asg h2 fun d ρ S ρ' S' e v m H σ r rv Q q => ?_⟩
  cases e
  exact q _ m H .refl (r.set j rv)⟩
theorem mst_asg (he : Ms g e f) (hg : Mg g a gt) (hs : ∀ env : PySem.Env, swapsWithSole [a] e pos.line env = pure false := by intro _; rfl) (hw : ∀ env : PySem.Env, env.scope = g.sc → swappedStores [a] e env = pure none)
    (h1 : ∀ env : PySem.Env, (assignEach [a] env).map (·.2) = [assign a env] := by intro _; rfl) : Mst g (.Assign [a] e pos) (mAsg f gt) := ⟨fun X hX => by
  obtain ⟨t, a1, b1⟩ := he.ok X hX
  obtain ⟨t2, a2, b2⟩ := hg.ok X hX
  exact ⟨_, ps_asg a1 a2 (hs _) (hw _ hX.sc) (h1 _), good_asg b1 b2⟩⟩
/-- name = a new container, which is a cell from there on -/
def mNew (fl : MEL) (j : Nat) : MS := fun ρ S => (fl ρ S).bind fun a => some (.nx (ρ.set j (some (.obj a.2.length))), a.2 ++ [a.1])
theorem Evo.add {m m' : Nm} {H H' : Hp} {p : Addr} (e : Evo m m' H H') (hp : H p = none) : Evo m (m'.add p) H H' where
  pre k a h := by
    show (m'.c ++ [p])[k]? = some a
    have h' := e.pre k a h
    rw [List.getElem?_append_left (List.getElem?_eq_some_iff.mp h').1]
    exact h'
  new a h n := by
    rcases h with h | h
    · rcases List.mem_append.mp h with h | h
      · exact e.new a (.inl h) n
      · rw [List.mem_singleton.mp h]
        exact hp
    · exact e.new a (.inr h) n
  ext := e.ext
  len := Nat.le_trans e.len (by show _ ≤ (m'.c ++ [p]).length; rw [List.length_append]; exact Nat.le_add_right _ _)
  hid := e.hid
  keep := e.keep
theorem Fresh.cellAt {K : Fr} {m : Nm} {H0 H : Hp} {S : Sto} {p : Addr} {c : C} (fr : Fresh K m H0 H S p c) : (m.add p).c[S.length]? = some p := by
  show (m.c ++ [p])[S.length]? = some p
  rw [← fr.st.len, List.getElem?_append_right (Nat.le_refl _), Nat.sub_self]
  rfl
theorem mst_new {x : Str} (j : Nat) (he : Ml g e fl) (hx : locB g.N g.sc g.ow j x = true) (hs : ∀ env : PySem.Env, swapsWith e (some (.Name x pos')) pos.line env = pure false := by intro _; rfl) : Mst g (.Assign [.Name x pos'] e pos) (mNew fl j) := ⟨fun X hX => by
  obtain ⟨t, h1, h2⟩ := he.ok X hX
  obtain ⟨x1, x2⟩ := locB_ok hx
  obtain ⟨x3, x4⟩ := hX.hf x2
  refine ⟨_, ps_set (i := j) hX.nd (by rw [hX.N]; exact x1) x4 h1 (hs _) x3, fun ρ S r S' e m H σ rl Dn q => ?_⟩
  obtain ⟨⟨c, S1⟩, e1, e⟩ := bind_some e
  cases e
  refine h2 ρ S c S1 e1 m H σ rl _ fun p m1 H1 ev fr => ?_
  have ev2 := ev.add fr.new
  exact q _ _ _ ev2 ((rl.evo ev2 fr.one).set j (.obj fr.cellAt))⟩
/-- two names at once, stored from the right -/
def mPar2 (i j : Nat) (u : MA) : MS := fun ρ S => (u ρ S).bind fun a => match a.1 with | [x, y] => some (.nx ((ρ.set i (some x)).set j (some y)), a.2) | _ => none
theorem mst_par {x y : Str} {px py pt : Pos} {kt k2 pt2} (i j : Nat) (hij : i ≠ j) (hx : visB g.N g.sc i x = true) (hy : visB g.N g.sc j y = true) (lx : g.sc.names.lookup x = some .local) (ly : g.sc.names.lookup y = some .local) (ha : Ma g [a, b] u)
    (hw : ∀ env : PySem.Env, env.scope = g.sc → swappedStores [.Tuple [.Name x px, .Name y py] kt pt] (.Tuple [a, b] k2 pt2) env = pure (some [x, y]))
    (hs : ∀ env : PySem.Env, swapsWithSole [.Tuple [.Name x px, .Name y py] kt pt] (.Tuple [a, b] k2 pt2) pos.line env = pure false := by intro _; rfl) :
    Mst g (.Assign [.Tuple [.Name x px, .Name y py] kt pt] (.Tuple [a, b] k2 pt2) pos) (mPar2 i j u) := ⟨fun X hX => by
  obtain ⟨t, h1, h2⟩ := ha.ok X hX
  refine ⟨_, ps_par (i := i) (j := j) hX.calm hX.nd (by rw [hX.N]; exact (visB_ok hx).1) (by rw [hX.N]; exact (visB_ok hy).1) hij (by rw [hX.sc]; exact lx) (by rw [hX.sc]; exact ly) h1 (hw _ hX.sc) (hs _), fun ρ S r S' e m H σ rl Dn q => ?_⟩
  obtain ⟨⟨ds, S1⟩, e1, e⟩ := bind_some e
  split at e
  · rename_i d1 d2 hd
    have hd' : ds = [d1, d2] := hd
    subst hd'
    cases e
    refine h2 ρ S _ S1 e1 m H σ rl _ fun vs m1 H1 ev rs st => ?_
    cases rs
    rename_i v vs r1 rs
    cases rs
    rename_i v2 vs2 r2 rs2
    cases rs2
    exact ⟨_, _, rfl, q _ m1 H1 ev (((rl.evo ev st).set i r1).set j r2)⟩
  · cases e⟩
def mPar3 (i j l : Nat) (u : MA) : MS := fun ρ S => (u ρ S).bind fun a => match a.1 with | [x, y, z] => some (.nx (((ρ.set i (some x)).set j (some y)).set l (some z)), a.2) | _ => none
/-! ### name op= value -/
def mAug (i : Nat) (r : Int → Int → Int) (f : ME) : MS := fun ρ S => match ρ[i]? with
  | some (some (.int x)) => (f ρ S).bind fun a => match a.1 with | .int y => some (.nx (ρ.set i (some (.int (r x y)))), a.2) | _ => none
  | _ => none
theorem mst_aug {x : Str} {op : Operator} {r : Int → Int → Int} (j : Nat) (hx : locB g.N g.sc g.ow j x = true) (he : Ms g e f) (ho : ∀ X : Cx, PIp X op (ipI r)) : Mst g (.AugAssign (.Name x pos') op e pos) (mAug j r f) := ⟨fun X hX => by
  obtain ⟨t, h1, h2⟩ := he.ok X hX
  obtain ⟨x1, x2⟩ := locB_ok hx
  obtain ⟨x3, x4⟩ := hX.hf x2
  refine ⟨_, ps_aug (i := j) hX.nd (by rw [hX.N]; exact x1) x4 h1 (ho X) x3, fun ρ S rr S' e m H σ rl Dn q => ?_⟩
  unfold mAug at e
  split at e
  · rename_i n hn
    obtain ⟨⟨d, S1⟩, e1, e⟩ := bind_some e
    split at e
    · rename_i y hy
      have hy' : d = .int y := hy
      subst hy'
      cases e
      obtain ⟨v, hv, rv⟩ := rl.env j _ hn
      cases rv
      refine ⟨_, hv, h2 ρ S _ S1 e1 m H σ rl _ fun w m1 H1 ev rw' st => ?_⟩
      cases rw'
      exact ⟨n, y, rfl, rfl, q _ m1 H1 ev ((rl.evo ev st).set j .int)⟩
    · cases e
  · cases e⟩
/-! ### a cell's list is changed -/
/-- the cell at k, a list -/
def cellL (S : Sto) : D → Option (Nat × List D)
  | .obj k => match S[k]? with | some (.lst ds) => some (k, ds) | _ => none
  | _ => none
theorem cellL_ok {K : Fr} {m : Nm} {H : Hp} {S : Sto} {d : D} {k : Nat} {ds : List D} {v : V} (h : cellL S d = some (k, ds)) (r : R K m H v d) (st : Cells K m H S) : ∃ a vs, v = .ref a ∧ m.c[k]? = some a ∧ H a = some (.lst vs) ∧ Rs K m H vs ds := by
  unfold cellL at h
  split at h
  · split at h
    · rename_i hk
      cases h
      cases r
      rename_i a ha
      obtain ⟨vs, h1, h2⟩ := st.cel _ _ a hk ha
      exact ⟨a, vs, rfl, ha, h1, h2⟩
    · cases h
  · cases h
theorem wrL {K : Fr} {m : Nm} {H : Hp} {S : Sto} {k : Nat} {a : Addr} {vs : List V} {ds : List D} (st : Cells K m H S) (ha : m.c[k]? = some a) (r : Rs K m H vs ds) : Evo m m H (upd H a (.lst vs)) ∧ Cells K m (upd H a (.lst vs)) (S.set k (.lst ds)) :=
  have ev := Evo.wr st (List.mem_of_getElem? ha) (o := .lst vs)
  ⟨ev, st.wr ha ⟨vs, upd_same, r.evo ev⟩⟩
/-- xs[i] = v -/
def mSetL (fo fi : ME) : MG := fun d ρ S => (fo ρ S).bind fun a => (fi ρ a.2).bind fun b => match b.1 with
  | .int n => (cellL b.2 a.1).bind fun x => (ixN x.2.length n).bind fun j => some (ρ, b.2.set x.1 (.lst (x.2.set j d)))
  | _ => none
theorem mg_subL (ho : Ms g o fo) (hi : Ms g i fi)
    (hsub : ∀ (env : PySem.Env) (v : Value), assign (.Subscript o i pos) env v = (do
      let ov ← holding [v] (eval o env)
      let iv ← holding [v, ov] (eval i env)
      standAt pos
      holding [v, ov, iv] (setItem ov iv v)
      release [v, ov, iv] []) := by intro _ _; rfl) : Mg g (.Subscript o i pos) (mSetL fo fi) := ⟨fun X hX => by
  obtain ⟨t1, a1, b1⟩ := ho.ok X hX
  obtain ⟨t2, a2, b2⟩ := hi.ok X hX
  refine ⟨_, pg_sub a1 a2 set_list (fun v => hsub _ v), fun d ρ S ρ' S' e v m H σ r rv Q q => ?_⟩
  obtain ⟨⟨x, S1⟩, e1, e⟩ := bind_some e
  obtain ⟨⟨y, S2⟩, e2, e⟩ := bind_some e
  split at e
  · rename_i n hy
    have hy' : y = .int n := hy
    subst hy'
    obtain ⟨⟨kk, ds⟩, e3, e⟩ := bind_some e
    obtain ⟨j, e4, e⟩ := bind_some e
    cases e
    refine b1 ρ S x S1 e1 m H σ r _ fun vx m1 H1 ev1 rx st1 => ?_
    refine b2 ρ S1 _ S2 e2 m1 H1 σ (r.evo ev1 st1) _ fun vy m2 H2 ev2 ry st2 => ?_
    cases ry
    obtain ⟨ad, vs, rfl, h1, h2, h3⟩ := cellL_ok e3 (rx.evo ev2) st2
    obtain ⟨ev3, st3⟩ := wrL st2 h1 (h3.set j ((rv.evo ev1.w).evo ev2.w))
    have e4' : ixN vs.length n = some j := by rw [h3.len]; exact e4
    exact ⟨ad, vs, n, j, rfl, rfl, h2, e4', q σ m2 _ ((ev1.trans ev2).trans ev3) (r.evo ((ev1.trans ev2).trans ev3) st3)⟩
  · cases e⟩
/-- methods of a cell's list: the new list, the answer -/
abbrev DM := Sto → List D → List D → Option (List D × D)
def GoodM (K : Fr) (r : V → List V → Hp → VK → Prop) (F : DM) : Prop := ∀ S ds as ds' z, F S ds as = some (ds', z) → ∀ m H a vs ws, H a = some (.lst vs) → Rs K m H vs ds → Rs K m H ws as → Cells K m H S → ∀ Q : VK,
  (∀ vs' v, Rs K m H vs' ds' → R K m H v z → Q v (upd H a (.lst vs'))) → r (.ref a) ws H Q
def mMeth (F : DM) (fo : ME) (u : MA) : ME := fun ρ S => (fo ρ S).bind fun x => (cellL x.2 x.1).bind fun _ => (u ρ x.2).bind fun y => (cellL y.2 x.1).bind fun c => (F y.2 c.2 y.1).bind fun z => some (z.2, y.2.set c.1 (.lst z.1))
theorem tyL {K : Fr} {H : Hp} {a : Addr} {vs : List V} (h : H a = some (.lst vs)) : tyV K "list" (.ref a) H := .inl ⟨rfl, vs, SqL.of h⟩
theorem ms_meth {F : DM} {name : Str} {id : String} {apos cpos : Pos} (slot : Slot "list" name id) (hty : typeOf (.builtin id) = pure (.type "method_descriptor")) (hm : ∀ X, g.On X → ∃ r, MtR X id r ∧ GoodM g.K r F) (ho : Ms g o fo) (ha : Ma g (e :: es) u)
    (hbase : ∀ env : PySem.Env, attributeBase o name env (eval o env) = eval o env := by intro _; rfl)
    (hfew : ∀ env : PySem.Env, ((backTo cpos (starEach (e :: es) env)).all (fun x => !x.1) && (backToKw cpos (keywordEach [] env)).all (fun x => x.1.isSome)
      && decide ((e :: es).length + ([] : List Keyword).length + (if ([] : List Keyword).isEmpty then 0 else 1) < 30)) = true := by intro _; rfl)
    (hline : (apos.endLine == cpos.line) = true := by rfl) (hs : ∀ env : PySem.Env, starEach (e :: es) env = (false, eval e env) :: starEach es env := by intro _; rfl) (hplain : ∀ env : PySem.Env, (backTo cpos (starEach es env)).any (·.1) = false := by intro _; rfl) :
    Ms g (.Call (.Attribute o name apos) (e :: es) [] cpos) (mMeth F fo u) := ⟨fun X hX => by
  obtain ⟨t1, a1, b1⟩ := ho.ok X hX
  obtain ⟨t2, a2, b2⟩ := ha.ok X hX
  obtain ⟨r, c1, c2⟩ := hm X hX
  refine ⟨_, pe_bm PySem.F.plainAttrs_list slot hty c1 a1 a2 (hbase _) (hfew _) hline (hs _) (hplain _), fun ρ S d S' e m H σ rl Q q => ?_⟩
  obtain ⟨⟨x, S1⟩, e1, e⟩ := bind_some e
  obtain ⟨⟨k0, ds0⟩, e0, e⟩ := bind_some e
  obtain ⟨⟨as, S2⟩, e2, e⟩ := bind_some e
  obtain ⟨⟨kk, ds⟩, e3, e⟩ := bind_some e
  obtain ⟨⟨ds', z⟩, e4, e⟩ := bind_some e
  cases e
  refine b1 ρ S x S1 e1 m H σ rl _ fun vx m1 H1 ev1 rx st1 => ?_
  obtain ⟨a, vs0, rfl, _, hv0, _⟩ := cellL_ok e0 rx st1
  refine ⟨tyL hv0, b2 ρ S1 as S2 e2 m1 H1 σ (rl.evo ev1 st1) _ fun ws m2 H2 ev2 rs st2 => ?_⟩
  obtain ⟨a', vs, ea, h1, h2, h3⟩ := cellL_ok e3 (rx.evo ev2) st2
  cases ea
  refine c2 S2 ds as ds' z e4 m2 H2 a vs ws h2 h3 rs st2 Q fun vs' v r' rz => ?_
  obtain ⟨ev3, st3⟩ := wrL st2 h1 r'
  exact q v m2 _ ((ev1.trans ev2).trans ev3) (rz.evo ev3) st3⟩
end
end Mi
namespace Mi
open PySem PySem.Spec PyProof.Rows L2
section
variable {g : G} {e a b c o i x2 : Expr} {es : List Expr} {pos p pos' apos cpos : Pos} {f h fo fi : ME} {u : MA}
theorem Rs.two {K : Fr} {m : Nm} {H : Hp} {vs : List V} {d1 d2 : D} (r : Rs K m H vs [d1, d2]) : ∃ v w, vs = [v, w] ∧ R K m H v d1 ∧ R K m H w d2 := by
  cases r
  rename_i r1 s
  cases s
  rename_i r2 s2
  cases s2
  exact ⟨_, _, rfl, r1, r2⟩
def lAppend : DM := fun _ ds as => match as with
  | [d] => if ds.length < sizeLine then some (ds ++ [d], .non) else none
  | _ => none
theorem good_append : ∀ X, g.On X → ∃ r, MtR X "list.append" r ∧ GoodM g.K r lAppend := fun X hX => ⟨_, mt_append, fun S ds as ds' z e m H a vs ws ha rs rw' st Q q => by
  unfold lAppend at e
  split at e
  · split at e
    · rename_i hz
      cases e
      obtain ⟨v, rfl, rv⟩ := rw'.one
      exact ⟨a, vs, v, rfl, rfl, ha, by rw [rs.len]; exact hz, q _ _ (rs.app (.cons rv .nil)) .non⟩
    · cases e
  · cases e⟩
def lInsert : DM := fun _ ds as => match as with
  | [.int i, d] => if ds.length < sizeLine ∧ 0 ≤ i ∧ i < 2 ^ 63 then some (ds.take i.toNat ++ [d] ++ ds.drop i.toNat, .non) else none
  | _ => none
theorem good_insert : ∀ X, g.On X → ∃ r, MtR X "list.insert" r ∧ GoodM g.K r lInsert := fun X hX => ⟨_, mt_insert, fun S ds as ds' z e m H a vs ws ha rs rw' st Q q => by
  unfold lInsert at e
  split at e
  · split at e
    · rename_i hz
      cases e
      obtain ⟨v, w, rfl, r1, r2⟩ := rw'.two
      cases r1
      exact ⟨a, vs, _, w, rfl, rfl, ha, by rw [rs.len]; exact hz.1, hz.2.1, hz.2.2, q _ _ (((rs.take _).app (.cons r2 .nil)).app (rs.drop _)) .non⟩
    · cases e
  · cases e⟩
def lExtend : DM := fun S ds as => match as with
  | [d] => (lstOf S d).bind fun zs => if ds.length + zs.length ≤ sizeLine then some (ds ++ zs, .non) else none
  | _ => none
theorem good_extend : ∀ X, g.On X → ∃ r, MtR X "list.extend" r ∧ GoodM g.K r lExtend := fun X hX => ⟨_, mt_extend, fun S ds as ds' z e m H a vs ws ha rs rw' st Q q => by
  unfold lExtend at e
  split at e
  · obtain ⟨zs, ez, e⟩ := bind_some e
    split at e
    · rename_i hz
      cases e
      obtain ⟨v, rfl, rv⟩ := rw'.one
      obtain ⟨b, us, rfl, hb, rb⟩ := lstOf_ok ez rv st
      exact ⟨a, b, vs, us, rfl, rfl, ha, hb, by rw [rs.len, rb.len]; exact hz, q _ _ (rs.app rb) .non⟩
    · cases e
  · cases e⟩
/-! without arguments -/
def mMeth0 (F : DM) (fo : ME) : ME := fun ρ S => (fo ρ S).bind fun x => (cellL x.2 x.1).bind fun c => (F x.2 c.2 []).bind fun z => some (z.2, x.2.set c.1 (.lst z.1))
theorem ms_meth0 {F : DM} {name : Str} {id : String} (slot : Slot "list" name id) (hty : typeOf (.builtin id) = pure (.type "method_descriptor")) (hm : ∀ X, g.On X → ∃ r, MtR X id r ∧ GoodM g.K r F) (ho : Ms g o fo)
    (hbase : ∀ env : PySem.Env, attributeBase o name env (eval o env) = eval o env := by intro _; rfl) (hline : (apos.endLine == cpos.line) = true := by rfl) :
    Ms g (.Call (.Attribute o name apos) [] [] cpos) (mMeth0 F fo) := ⟨fun X hX => by
  obtain ⟨t1, a1, b1⟩ := ho.ok X hX
  obtain ⟨r, c1, c2⟩ := hm X hX
  refine ⟨_, pe_bm0 PySem.F.plainAttrs_list slot hty c1 a1 (hbase _) hline, fun ρ S d S' e m H σ rl Q q => ?_⟩
  obtain ⟨⟨x, S1⟩, e1, e⟩ := bind_some e
  obtain ⟨⟨k0, ds0⟩, e0, e⟩ := bind_some e
  obtain ⟨⟨ds', z⟩, e4, e⟩ := bind_some e
  cases e
  refine b1 ρ S x S1 e1 m H σ rl _ fun vx m1 H1 ev1 rx st1 => ?_
  obtain ⟨a, vs0, rfl, h1, hv0, hr⟩ := cellL_ok e0 rx st1
  refine ⟨tyL hv0, c2 S1 ds0 [] ds' z e4 m1 H1 a vs0 [] hv0 hr .nil st1 Q fun vs' v r' rz => ?_⟩
  obtain ⟨ev3, st3⟩ := wrL st1 h1 r'
  exact q v m1 _ (ev1.trans ev3) (rz.evo ev3) st3⟩
def lClear : DM := fun _ _ as => match as with | [] => some ([], .non) | _ => none
theorem good_clear : ∀ X, g.On X → ∃ r, MtR X "list.clear" r ∧ GoodM g.K r lClear := fun X hX => ⟨_, mt_clear, fun S ds as ds' z e m H a vs ws ha rs rw' st Q q => by
  unfold lClear at e
  split at e
  · cases e
    cases rw'
    exact ⟨a, vs, rfl, rfl, ha, q _ _ .nil .non⟩
  · cases e⟩
def lReverse : DM := fun _ ds as => match as with | [] => some (ds.reverse, .non) | _ => none
theorem Rs.rev {K : Fr} {m : Nm} {H : Hp} : ∀ {vs : List V} {ds : List D}, Rs K m H vs ds → Rs K m H vs.reverse ds.reverse
  | _, _, .nil => .nil
  | _, _, .cons r s => by
    rw [List.reverse_cons, List.reverse_cons]
    exact (Rs.rev s).app (.cons r .nil)
theorem good_reverse : ∀ X, g.On X → ∃ r, MtR X "list.reverse" r ∧ GoodM g.K r lReverse := fun X hX => ⟨_, mt_reverse, fun S ds as ds' z e m H a vs ws ha rs rw' st Q q => by
  unfold lReverse at e
  split at e
  · cases e
    cases rw'
    exact ⟨a, vs, rfl, rfl, ha, q _ _ rs.rev .non⟩
  · cases e⟩
def lPop : DM := fun _ ds as => match as with | [] => (ds[ds.length - 1]?).bind fun d => some (ds.dropLast, d) | _ => none
theorem Rs.dropLast {K : Fr} {m : Nm} {H : Hp} {vs : List V} {ds : List D} (r : Rs K m H vs ds) : Rs K m H vs.dropLast ds.dropLast := by
  rw [List.dropLast_eq_take, List.dropLast_eq_take, r.len]
  exact r.take _
theorem good_pop : ∀ X, g.On X → ∃ r, MtR X "list.pop" r ∧ GoodM g.K r lPop := fun X hX => ⟨_, mt_pop, fun S ds as ds' z e m H a vs ws ha rs rw' st Q q => by
  unfold lPop at e
  split at e
  · obtain ⟨d, ed, e⟩ := bind_some e
    cases e
    cases rw'
    obtain ⟨v, hv, rv⟩ := rs.get ed
    exact ⟨a, vs, v, rfl, rfl, ha, by rw [rs.len]; exact hv, q _ _ rs.dropLast rv⟩
  · cases e⟩

/-! ### flat things -/
def flatD : D → Bool
  | .non => true
  | .bl _ => true
  | .int _ => true
  | .str _ => true
  | _ => false
def eqF : D → D → Bool
  | .non, .non => true
  | .bl a, .bl b => a == b
  | .bl a, .int b => (if a then 1 else 0) == b
  | .int a, .bl b => a == (if b then 1 else 0)
  | .int a, .int b => a == b
  | .str a, .str b => a == b
  | _, _ => false
theorem flatD_ok {K : Fr} {m : Nm} {H : Hp} {v : V} {d : D} (h : flatD d = true) (r : R K m H v d) : flatV v = true := by
  cases r <;> first | rfl | cases h
theorem eqF_ok {K : Fr} {m : Nm} {H : Hp} {v w : V} {d d' : D} (h : flatD d = true) (h' : flatD d' = true) (r : R K m H v d) (r' : R K m H w d') : eqV v w = eqF d d' := by
  cases r <;> first | cases h; done | (cases r' <;> first | rfl | (cases h'; done))
theorem flats_ok {K : Fr} {m : Nm} {H : Hp} : ∀ {vs : List V} {ds : List D}, ds.all flatD = true → Rs K m H vs ds → vs.all flatV = true
  | _, _, _, .nil => rfl
  | _, _, h, .cons r s => by
    rw [List.all_cons, Bool.and_eq_true] at h ⊢
    exact ⟨flatD_ok h.1 r, flats_ok h.2 s⟩
theorem inF_ok {K : Fr} {m : Nm} {H : Hp} {w : V} {d' : D} (h' : flatD d' = true) (r' : R K m H w d') : ∀ {vs : List V} {ds : List D}, ds.all flatD = true → Rs K m H vs ds → inV w vs = ds.any fun y => eqF y d'
  | _, _, _, .nil => rfl
  | _, _, h, .cons r s => by
    rw [List.all_cons, Bool.and_eq_true] at h
    unfold inV
    rw [List.any_cons, List.any_cons, eqF_ok h.1 h' r r']
    congr 1
    exact inF_ok h' r' h.2 s
/-- x in xs: flat | data in a list -/
def dInB (S : Sto) (x y : D) : Option Bool := ((seqOf S y).bind fun ds => if flatD x && ds.all flatD then some (ds.any fun z => eqF z x) else none).or
  ((rdL S y).bind fun ds => (pyDs ds).bind fun ps => (py S x).bind fun p => if SeqAt.shaped p && SeqAt.shaped (.list ps) then some (ps.any fun z => PyData.eqv z p) else none)
def dIn : DOp := fun S x y => (dInB S x y).bind fun b => some (.bl b)
def dNotIn : DOp := fun S x y => (dInB S x y).bind fun b => some (.bl (!b))
theorem dInB_ok {K : Fr} {m : Nm} {H : Hp} {S : Sto} {x y : D} {b : Bool} {vx vy : V} (e : dInB S x y = some b) (rx : R K m H vx x) (ry : R K m H vy y) (st : Cells K m H S) :
    (∃ p vs, vy = .ref p ∧ (SqL K H p vs ∨ SqT K H p vs) ∧ flatV vx = true ∧ vs.all flatV = true ∧ inV vx vs = b) ∨
    ∃ p ps, Dp K H vx p ∧ Dp K H vy (.list ps) ∧ SeqAt.shaped p = true ∧ SeqAt.shaped (.list ps) = true ∧ (ps.any fun z => PyData.eqv z p) = b := by
  rcases Option.or_eq_some_iff.mp e with e | ⟨_, e⟩
  · obtain ⟨ds, ed, e⟩ := bind_some e
    split at e
    · rename_i hf
      rw [Bool.and_eq_true] at hf
      cases e
      obtain ⟨a, vs, rfl, hs, rs⟩ := seqOf_ok ed ry st
      exact .inl ⟨a, vs, rfl, hs, flatD_ok hf.1 rx, flats_ok hf.2 rs, inF_ok hf.1 rx hf.2 rs⟩
    · cases e
  · obtain ⟨ds, ed, e⟩ := bind_some e
    obtain ⟨ps, ep, e⟩ := bind_some e
    obtain ⟨p, ex, e⟩ := bind_some e
    split at e
    · rename_i hf
      rw [Bool.and_eq_true] at hf
      cases e
      obtain ⟨a, vs, rfl, hs, rs⟩ := rdL_ok ed ry st
      exact .inr ⟨p, ps, py_ok ex rx st, .lst hs (pyDs_ok ep rs), hf.1, hf.2, rfl⟩
    · cases e
theorem good_in : ∀ X, g.On X → ∃ rr, OpR X (compareOp .In) rr ∧ GoodOp g.K rr dIn := fun X hX => ⟨_, OpR.or op_in_seq (op_inD (by have := hX.hu; omega)), fun S x y z e m H vx vy rx ry st Q q => by
  obtain ⟨b, e1, e⟩ := bind_some e
  cases e
  rw [hX.K]
  rcases dInB_ok e1 rx ry st with ⟨p, vs, rfl, h1, h2, h3, h4⟩ | ⟨p, ps, h1, h2, h3, h4, h5⟩
  · refine .inl ⟨p, vs, rfl, h1, h2, h3, ?_⟩
    rw [if_neg Bool.false_ne_true, h4]
    exact q _ H .refl .bl st
  · refine .inr ⟨p, ps, h1, h2, h3, h4, ?_⟩
    rw [h5]
    exact q _ H .refl .bl st⟩
theorem good_notIn : ∀ X, g.On X → ∃ rr, OpR X (compareOp .NotIn) rr ∧ GoodOp g.K rr dNotIn := fun X hX => ⟨_, OpR.or op_notIn_seq (op_notInD (by have := hX.hu; omega)), fun S x y z e m H vx vy rx ry st Q q => by
  obtain ⟨b, e1, e⟩ := bind_some e
  cases e
  rw [hX.K]
  rcases dInB_ok e1 rx ry st with ⟨p, vs, rfl, h1, h2, h3, h4⟩ | ⟨p, ps, h1, h2, h3, h4, h5⟩
  · refine .inl ⟨p, vs, rfl, h1, h2, h3, ?_⟩
    rw [if_pos rfl, h4]
    exact q _ H .refl .bl st
  · refine .inr ⟨p, ps, h1, h2, h3, h4, ?_⟩
    rw [h5]
    exact q _ H .refl .bl st⟩
/-- xs.index(y): the first place -/
def idxF (x : D) : List D → Option Nat
  | [] => none
  | y :: r => if eqF y x then some 0 else (idxF x r).bind fun j => some (j + 1)
theorem idxF_spec {K : Fr} {m : Nm} {H : Hp} {x : D} {w : V} (hx : flatD x = true) (rx : R K m H w x) : ∀ {vs : List V} {ds : List D} {j : Nat}, ds.all flatD = true → Rs K m H vs ds → idxF x ds = some j →
    ∃ z, vs[j]? = some z ∧ eqV z w = true ∧ ∀ (n : Nat) (z' : V), n < j → vs[n]? = some z' → eqV z' w = false
  | _, _, _, _, .nil, e => by cases e
  | _, _, j, h, .cons r s, e => by
    rw [List.all_cons, Bool.and_eq_true] at h
    unfold idxF at e
    split at e
    · rename_i he
      cases e
      exact ⟨_, rfl, by rw [eqF_ok h.1 hx r rx]; exact he, fun n z' hn => absurd hn (Nat.not_lt_zero _)⟩
    · rename_i he
      obtain ⟨j', e', e⟩ := bind_some e
      cases e
      obtain ⟨z, h1, h2, h3⟩ := idxF_spec hx rx h.2 s e'
      refine ⟨z, by simpa using h1, h2, fun n z' hn hz => ?_⟩
      cases n with
      | zero =>
        simp at hz
        subst hz
        rw [eqF_ok h.1 hx r rx]
        exact Bool.eq_false_iff.mpr he
      | succ n => exact h3 n z' (by omega) (by simpa using hz)
def mIdx (sq : Sto → D → Option (List D)) (fo f : ME) : ME := fun ρ S => (fo ρ S).bind fun x => (sq x.2 x.1).bind fun _ => (f ρ x.2).bind fun y => (sq y.2 x.1).bind fun ds => if flatD y.1 && ds.all flatD then (idxF y.1 ds).bind fun j => some (.int j, y.2) else none
theorem ms_indexL (ho : Ms g o fo) (he : Ms g e f) (hbase : ∀ env : PySem.Env, attributeBase o "index" env (eval o env) = eval o env := by intro _; rfl)
    (hfew : ∀ env : PySem.Env, ((backTo cpos (starEach [e] env)).all (fun x => !x.1) && (backToKw cpos (keywordEach [] env)).all (fun x => x.1.isSome)
      && decide (([e] : List Expr).length + ([] : List Keyword).length + (if ([] : List Keyword).isEmpty then 0 else 1) < 30)) = true := by intro _; rfl)
    (hline : (apos.endLine == cpos.line) = true := by rfl) (hs : ∀ env : PySem.Env, starEach [e] env = (false, eval e env) :: starEach [] env := by intro _; rfl) (hplain : ∀ env : PySem.Env, (backTo cpos (starEach [] env)).any (·.1) = false := by intro _; rfl) :
    Ms g (.Call (.Attribute o "index" apos) [e] [] cpos) (mIdx rdL fo f) := ⟨fun X hX => by
  obtain ⟨t1, a1, b1⟩ := ho.ok X hX
  obtain ⟨t2, a2, b2⟩ := he.ok X hX
  refine ⟨_, pe_bm PySem.F.plainAttrs_list PySem.F.slot_list_index PySem.F.type_list_index mt_index a1 (pa_cons a2 pa_nil (hs _)) (hbase _) (hfew _) hline (hs _) (hplain _), fun ρ S d S' e m H σ rl Q q => ?_⟩
  obtain ⟨⟨x, S1⟩, e1, e⟩ := bind_some e
  obtain ⟨ds0, e0, e⟩ := bind_some e
  obtain ⟨⟨y, S2⟩, e2, e⟩ := bind_some e
  obtain ⟨ds, e3, e⟩ := bind_some e
  split at e
  · rename_i hf
    rw [Bool.and_eq_true] at hf
    obtain ⟨j, ej, e⟩ := bind_some e
    cases e
    refine b1 ρ S x S1 e1 m H σ rl _ fun vx m1 H1 ev1 rx st1 => ?_
    obtain ⟨ad, vs0, rfl, hq0, _⟩ := rdL_ok e0 rx st1
    refine ⟨.inl ⟨rfl, vs0, by rw [hX.K]; exact hq0⟩, b2 ρ S1 y S2 e2 m1 H1 σ (rl.evo ev1 st1) _ fun vy m2 H2 ev2 ry st2 => ?_⟩
    obtain ⟨ad', vs, ea, hq, rs⟩ := rdL_ok e3 (rx.evo ev2.w) st2
    cases ea
    obtain ⟨z, h1, h2, h3⟩ := idxF_spec hf.1 ry hf.2 rs ej
    exact ⟨ad, vs, vy, j, z, rfl, rfl, by rw [hX.K]; exact hq, flatD_ok hf.1 ry, flats_ok hf.2 rs, h1, h2, h3, q _ m2 H2 (ev1.trans ev2) .int st2⟩
  · cases e⟩
theorem mt_tupIndexF {X : Cx} : MtR X "tuple.index" (fun x xs H Q => ∃ (a : Addr) (ys : List V) (y : V) (j : Nat) (z : V), x = V.ref a ∧ xs = [y] ∧ SqT X.K H a ys ∧ flatV y = true ∧ ys.all flatV = true ∧ ys[j]? = some z ∧ eqV z y = true ∧
    (∀ (m : Nat) (z' : V), m < j → ys[m]? = some z' → eqV z' y = false) ∧ Q (.int (j : Nat)) H) := by
  intro pins s σ H x xs v us Q I rx rxs h
  obtain ⟨a, ys, y, j, z, rfl, rfl, hs, fy, fys, hz, hzj, hno, q⟩ := h
  cases rx
  obtain ⟨uy, rfl, ry⟩ := vals1 rxs
  obtain ⟨its, rv, pl, hlen⟩ := I.tuple hs
  obtain ⟨⟨cls, dd, data, sl⟩, ho, hc, n, hd⟩ := pl
  simp only at hc hd
  subst hc hd
  obtain ⟨u, hu, ru⟩ := rv.get hz
  obtain ⟨hjl, hje⟩ := List.getElem?_eq_some_iff.mp hu
  have hvl := rv.length
  have hj : j < its.toArray.size := by simpa using hjl
  refine call_meets PySem.F.slot_tuple_index ⟨_, ho, rfl⟩ PySem.F.entry_tuple_index (PySem.F.args_tuple_index_2 _ _) (TI.tuple_indexAt a its.toArray n dd sl uy (eqU y) j hj ?_ ?_) ⟨ho, fun u' hu' => mem_eqAt ry fy rv fys u' (by simpa using hu'), ?_⟩
  · have e1 : its.toArray[j] = u := by simpa using hje
    rw [e1, eqU_of ru (flat_at fys hz), hzj]
  · intro m hm hmj
    have hml : m < its.length := by simpa using hm
    have hy' : ys[m]? = some (ys[m]'(by omega)) := List.getElem?_eq_getElem _
    obtain ⟨u2, hu2, ru2⟩ := rv.get hy'
    have e1 : its.toArray[m] = u2 := by simpa using (List.getElem?_eq_some_iff.mp hu2).2
    rw [e1, eqU_of ru2 (flat_at fys hy')]
    exact hno m _ hmj hy'
  · exact ⟨.int (j : Nat), H, I.tok _, ⟨_, rfl⟩, q⟩
/-- a method of a built-in type, the receiver's type shown by W -/
theorem pe_bmW {X : Cx} {T id : String} {name : Str} {r : V → List V → Hp → VK → Prop} {to : TE} {t : TA} (W : V → Hp → Prop) (hW : ∀ (pins : List (Addr × Obj)) (s : Shared) (σ : L2.St) (H : Hp) (x : V) (v : Value), Inv X pins σ H s → RelV x v → W x H → s.TypeIs v T ∧ ∀ a, v = .ref a → ∃ ob, s.heap.get? a = some ob ∧ ob.dict = none)
    (pa : PlainAttrs T) (slot : Slot T name id) (hty : typeOf (.builtin id) = pure (.type "method_descriptor")) (hm : MtR X id r) (ho : PE X o to) (ha : PA X (e :: es) t) (hbase : attributeBase o name X.env (eval o X.env) = eval o X.env)
    (hfew : ((backTo cpos (starEach (e :: es) X.env)).all (fun x => !x.1) && (backToKw cpos (keywordEach [] X.env)).all (fun x => x.1.isSome)
      && decide ((e :: es).length + ([] : List Keyword).length + (if ([] : List Keyword).isEmpty then 0 else 1) < 30)) = true)
    (hline : (apos.endLine == cpos.line) = true) (hs : starEach (e :: es) X.env = (false, eval e X.env) :: starEach es X.env) (hplain : (backTo cpos (starEach es X.env)).any (·.1) = false) :
    PE X (.Call (.Attribute o name apos) (e :: es) [] cpos) (fun σ H Q => to σ H fun x H1 => W x H1 ∧ t σ H1 fun xs H2 => r x xs H2 Q) := by
  constructor
  intro pins s σ H Q I h
  refine wpAny_Call_method_late hbase hfew hline rfl (thn (ho.run pins s σ H _ I h) fun v s1 hx => ?_)
  obtain ⟨x, H1, I1, r1, ty, q1⟩ := hx
  obtain ⟨w1, w2⟩ := hW pins s1 σ H1 x v I1 r1 ty
  refine ⟨T, id, pa, slot, hty, w1, w2, ?_⟩
  have hA := ha.run cpos pins s1 σ H1 _ I1 q1
  rw [hs] at hA ⊢
  have hp : ((false, eval e X.env) :: backTo cpos (starEach es X.env)).any (·.1) = false := by
    rw [List.any_cons, hplain]
    rfl
  refine Calls.callWith_builtin hp (Calls.evalArgs_plain (thn hA fun us s2 hy => ?_))
  obtain ⟨xs, H2, I2, rs, q2⟩ := hy
  exact hm pins s2 σ H2 x xs v us Q I2 r1 rs q2
def WF (x : V) (H : Hp) : Prop := ∃ a xs, x = .ref a ∧ FTp H a xs
theorem WF_ok {X : Cx} (pins : List (Addr × Obj)) (s : Shared) (σ : L2.St) (H : Hp) (x : V) (v : Value) (I : Inv X pins σ H s) (r : RelV x v) (h : WF x H) : s.TypeIs v "tuple" ∧ ∀ a, v = .ref a → ∃ ob, s.heap.get? a = some ob ∧ ob.dict = none := by
  obtain ⟨a, xs, rfl, ob, ha, hd⟩ := h
  cases r
  obtain ⟨hg, _, its, _, ob', hg', hc, _⟩ := I.hok a _ ha
  rw [hg] at hg'
  cases hg'
  refine ⟨⟨ob, hg, hc⟩, fun b e => ?_⟩
  cases e
  exact ⟨ob, hg, hd⟩
def ftpOf : D → Option (List D)
  | .ftp xs => some xs
  | _ => none
theorem ftpOf_ok {K : Fr} {m : Nm} {H : Hp} {d : D} {xs : List D} {v : V} (h : ftpOf d = some xs) (r : R K m H v d) : ∃ a vs, v = .ref a ∧ FTp H a vs ∧ Rs K m H vs xs := by
  cases r
  case ftp a o vs ds h1 hd h2 r => cases h; exact ⟨a, vs, rfl, ⟨o, h1, hd⟩, r⟩
  all_goals cases h
theorem ms_indexT (ho : Ms g o fo) (he : Ms g e f) (hbase : ∀ env : PySem.Env, attributeBase o "index" env (eval o env) = eval o env := by intro _; rfl)
    (hfew : ∀ env : PySem.Env, ((backTo cpos (starEach [e] env)).all (fun x => !x.1) && (backToKw cpos (keywordEach [] env)).all (fun x => x.1.isSome)
      && decide (([e] : List Expr).length + ([] : List Keyword).length + (if ([] : List Keyword).isEmpty then 0 else 1) < 30)) = true := by intro _; rfl)
    (hline : (apos.endLine == cpos.line) = true := by rfl) (hs : ∀ env : PySem.Env, starEach [e] env = (false, eval e env) :: starEach [] env := by intro _; rfl) (hplain : ∀ env : PySem.Env, (backTo cpos (starEach [] env)).any (·.1) = false := by intro _; rfl) :
    Ms g (.Call (.Attribute o "index" apos) [e] [] cpos) (mIdx (fun _ d => ftpOf d) fo f) := ⟨fun X hX => by
  obtain ⟨t1, a1, b1⟩ := ho.ok X hX
  obtain ⟨t2, a2, b2⟩ := he.ok X hX
  refine ⟨_, pe_bmW WF WF_ok PySem.F.plainAttrs_tuple PySem.F.slot_tuple_index PySem.F.type_tuple_index mt_tupIndexF a1 (pa_cons a2 pa_nil (hs _)) (hbase _) (hfew _) hline (hs _) (hplain _), fun ρ S d S' e m H σ rl Q q => ?_⟩
  obtain ⟨⟨x, S1⟩, e1, e⟩ := bind_some e
  obtain ⟨ds0, e0, e⟩ := bind_some e
  obtain ⟨⟨y, S2⟩, e2, e⟩ := bind_some e
  obtain ⟨ds, e3, e⟩ := bind_some e
  split at e
  · rename_i hf
    rw [Bool.and_eq_true] at hf
    obtain ⟨j, ej, e⟩ := bind_some e
    cases e
    refine b1 ρ S x S1 e1 m H σ rl _ fun vx m1 H1 ev1 rx st1 => ?_
    obtain ⟨ad, vs0, rfl, hq0, _⟩ := ftpOf_ok e0 rx
    refine ⟨⟨ad, vs0, rfl, hq0⟩, b2 ρ S1 y S2 e2 m1 H1 σ (rl.evo ev1 st1) _ fun vy m2 H2 ev2 ry st2 => ?_⟩
    obtain ⟨ad', vs, ea, ⟨oq, hq, _⟩, rs⟩ := ftpOf_ok e3 (rx.evo ev2.w)
    cases ea
    obtain ⟨z, h1, h2, h3⟩ := idxF_spec hf.1 ry hf.2 rs ej
    exact ⟨ad, vs, vy, j, z, rfl, rfl, .inl (.inr ⟨oq, hq⟩), flatD_ok hf.1 ry, flats_ok hf.2 rs, h1, h2, h3, q _ m2 H2 (ev1.trans ev2) .int st2⟩
  · cases e⟩
end
end Mi
namespace Mi
open PySem PySem.Spec PyProof.Rows L2

/-! ### what is walked -/
/-- turn i over the store: none: no word; some none: the end; some (some d): the item -/
abbrev Tn := Sto → Nat → Option (Option D)
def TnOk (K : Fr) (it : Tn) (J : It) (m0 : Nm) (H0 : Hp) : Prop := ∀ i m H S, Evw m0 m H0 H → Cells K m H S →
  (it S i = some none → J.stop i H) ∧ ∀ d, it S i = some (some d) → J.go i H ∧ ∀ x H', J.yld i H x H' → Evo m m H H' ∧ Cells K m H' S ∧ R K m H' x d
abbrev MI := Env → Sto → Option (Tn × Nat × Sto)
def GoodI (K : Fr) (wi : TI) (f : MI) : Prop := ∀ ρ S t n S', f ρ S = some (t, n, S') → ∀ m H σ, Rel K m H σ ρ S → ∀ Rr : It → Hp → Prop, (∀ J m' H', Evo m m' H H' → Cells K m' H' S' → TnOk K t J m' H' → Rr J H') → wi σ H Rr
/-- iter, walked into the target tg: its turns, and a bound of their number -/
structure Mi (g : G) (tg iter : Expr) (f : MI) : Prop where
  ok : ∀ X, g.On X → ∃ wi, PI X tg iter wi ∧ GoodI g.K wi f
def tnL (xs : List D) : Tn := fun _ i => some xs[i]?
theorem tn_list {K : Fr} {m : Nm} {H : Hp} {a : Addr} {vs : List V} {ds : List D} (hl : Lp K m H a vs) (r : Rs K m H vs ds) : TnOk K (tnL ds) (Itl K a) m H := fun i m1 H1 S ev st => by
  have hs := (hl.evo ev).sq
  have r1 := r.evo ev
  refine ⟨fun e => ?_, fun d e => ?_⟩
  · have e' : ds[i]? = none := Option.some.inj e
    exact ⟨vs, hs, by rw [r.len]; exact List.getElem?_eq_none_iff.mp e'⟩
  · have e' : ds[i]? = some d := Option.some.inj e
    obtain ⟨v, hv, rv⟩ := r1.get e'
    refine ⟨⟨vs, v, hs, hv⟩, fun x H' hy => ?_⟩
    obtain ⟨rfl, hy⟩ := hy
    have hx := (hy vs hs).symm.trans hv
    cases hx
    exact ⟨.refl, st, rv⟩
theorem tn_tup {K : Fr} {m : Nm} {H : Hp} {a : Addr} {vs : List V} {ds : List D} (hl : ∀ m1 H1, Evw m m1 H H1 → SqT K H1 a vs) (r : Rs K m H vs ds) : TnOk K (tnL ds) (Itt K a) m H := fun i m1 H1 S ev st => by
  have hs := hl m1 H1 ev
  have r1 := r.evo ev
  refine ⟨fun e => ?_, fun d e => ?_⟩
  · have e' : ds[i]? = none := Option.some.inj e
    exact ⟨vs, hs, by rw [r.len]; exact List.getElem?_eq_none_iff.mp e'⟩
  · have e' : ds[i]? = some d := Option.some.inj e
    obtain ⟨v, hv, rv⟩ := r1.get e'
    refine ⟨⟨vs, v, hs, hv⟩, fun x H' hy => ?_⟩
    obtain ⟨rfl, hy⟩ := hy
    have hx := (hy vs hs).symm.trans hv
    cases hx
    exact ⟨.refl, st, rv⟩
/-- the list in the cell k, as it stands at each turn -/
def tnC (k : Nat) : Tn := fun S i => match S[k]? with | some (.lst ds) => some ds[i]? | _ => none
theorem tn_cell {K : Fr} {m : Nm} {H : Hp} {a : Addr} {k : Nat} (ha : m.c[k]? = some a) : TnOk K (tnC k) (Itl K a) m H := fun i m1 H1 S ev st => by
  have ha1 := ev.pre k a ha
  unfold tnC
  split
  · rename_i ds hk
    obtain ⟨vs, h1, r1⟩ := st.cel k _ a hk ha1
    have hs : SqL K H1 a vs := SqL.of h1
    refine ⟨fun e => ?_, fun d e => ?_⟩
    · have e' : ds[i]? = none := Option.some.inj e
      exact ⟨vs, hs, by rw [r1.len]; exact List.getElem?_eq_none_iff.mp e'⟩
    · have e' : ds[i]? = some d := Option.some.inj e
      obtain ⟨v, hv, rv⟩ := r1.get e'
      refine ⟨⟨vs, v, hs, hv⟩, fun x H' hy => ?_⟩
      obtain ⟨rfl, hy⟩ := hy
      have hx := (hy vs hs).symm.trans hv
      cases hx
      exact ⟨.refl, st, rv⟩
  · exact ⟨fun e => (nomatch e), fun d e => (nomatch e)⟩
def tnR (lo : Int) (n : Nat) : Tn := fun _ i => some (if i < n then some (.int (lo + i)) else none)
theorem tn_rng {K : Fr} {m : Nm} {H : Hp} {lo : Int} {n : Nat} : TnOk K (tnR lo n) (Itr lo n) m H := fun i m1 H1 S ev st => by
  unfold tnR
  refine ⟨fun e => ?_, fun d e => ?_⟩
  · have e' := Option.some.inj e
    split at e'
    · cases e'
    · rename_i h
      exact Nat.le_of_not_lt h
  · have e' := Option.some.inj e
    split at e'
    · rename_i h
      cases e'
      refine ⟨h, fun x H' hy => ?_⟩
      obtain ⟨rfl, rfl⟩ := hy
      exact ⟨.refl, st, .int⟩
    · cases e'
theorem tupOf_ev {K : Fr} {m : Nm} {H : Hp} {d : D} {xs : List D} {v : V} (h : tupOf d = some xs) (r : R K m H v d) : ∃ a vs, v = .ref a ∧ (∀ m2 H2, Evw m m2 H H2 → SqT K H2 a vs) ∧ Rs K m H vs xs := by
  cases r
  case tup a vs ds h1 h2 r => cases h; exact ⟨a, vs, rfl, fun m2 H2 e => SqT.of (e.ext _ _ h2 h1), r⟩
  case ktp a vs ds h1 r => cases h; exact ⟨a, vs, rfl, fun m2 H2 e => sqT_any h1, r⟩
  case ftp a o vs ds h1 hd h2 r => cases h; exact ⟨a, vs, rfl, fun m2 H2 e => .inl (.inr ⟨o, e.ext _ _ h2 h1⟩), r⟩
  all_goals cases h
section
variable {g : G} {e a b c o i tg iter : Expr} {es : List Expr} {pos p p2 : Pos} {f h fo fi : ME} {u : MA} {s1 : Stmt} {rest ss ts body : List Stmt} {k l : MS} {t : MT} {gt : MG} {fit : MI}
/-- over a list: a tree, or a cell -/
def mItL (f : ME) : MI := fun ρ S => (f ρ S).bind fun a => match a.1 with
  | .lst ds => some (tnL ds, ds.length, a.2)
  | .fzl ds => some (tnL ds, ds.length, a.2)
  | .obj k => match a.2[k]? with | some (.lst ds) => some (tnC k, ds.length, a.2) | _ => none
  | _ => none
theorem mi_list (ha : Ms g a f) : Mi g tg a (mItL f) := ⟨fun X hX => by
  obtain ⟨t, h1, h2⟩ := ha.ok X hX
  refine ⟨_, pi_list h1, fun ρ S t n S' e m H σ r Rr q => ?_⟩
  obtain ⟨⟨d, S1⟩, e1, e⟩ := bind_some e
  refine h2 ρ S d S1 e1 m H σ r _ fun v m1 H1 ev rv st => ?_
  have eK := hX.K
  split at e
  · rename_i ds hd
    have hd' : d = .lst ds := hd
    subst hd'
    cases e
    cases rv
    rename_i ad vs h3 h4 h5
    refine ⟨ad, rfl, ⟨vs, by rw [eK]; exact SqL.of h3⟩, ?_⟩
    rw [eK]
    exact q _ m1 H1 ev st (tn_list (.inl ⟨.of h3, h4⟩) h5)
  · rename_i ds hd
    have hd' : d = .fzl ds := hd
    subst hd'
    cases e
    cases rv
    rename_i ad vs h3 h5
    refine ⟨ad, rfl, ⟨vs, by rw [eK]; exact h3.sq⟩, ?_⟩
    rw [eK]
    exact q _ m1 H1 ev st (tn_list h3 h5)
  · rename_i kk hd
    have hd' : d = .obj kk := hd
    subst hd'
    split at e
    · rename_i ds hk
      cases e
      cases rv
      rename_i ad hc
      obtain ⟨vs, h3, _⟩ := st.cel kk _ ad hk hc
      refine ⟨ad, rfl, ⟨vs, by rw [eK]; exact SqL.of h3⟩, ?_⟩
      rw [eK]
      exact q _ m1 H1 ev st (tn_cell hc)
    · cases e
  · cases e⟩
def mItT (f : ME) : MI := fun ρ S => (f ρ S).bind fun a => (tupOf a.1).bind fun ds => some (tnL ds, ds.length, a.2)
theorem mi_tup (ha : Ms g a f) : Mi g tg a (mItT f) := ⟨fun X hX => by
  obtain ⟨t, h1, h2⟩ := ha.ok X hX
  refine ⟨_, pi_tup h1, fun ρ S t n S' e m H σ r Rr q => ?_⟩
  obtain ⟨⟨d, S1⟩, e1, e⟩ := bind_some e
  obtain ⟨ds, ed, e⟩ := bind_some e
  cases e
  refine h2 ρ S d _ e1 m H σ r _ fun v m1 H1 ev rv st => ?_
  have eK := hX.K
  have key := tupOf_ev ed rv
  obtain ⟨ad, vs, rfl, h3, h5⟩ := key
  refine ⟨ad, rfl, ⟨vs, by rw [eK]; exact h3 m1 H1 Evo.refl.w⟩, ?_⟩
  rw [eK]
  exact q _ m1 H1 ev st (tn_tup h3 h5)⟩
def mItR1 (u : MA) : MI := fun ρ S => (u ρ S).bind fun a => match a.1 with
  | [.int n] => if -(2 ^ 62) ≤ n ∧ n < 2 ^ 62 then some (tnR 0 n.toNat, n.toNat, a.2) else none
  | _ => none
theorem mi_range1 (hm : g.mg "range" = none) (ha : Ma g [a] u) (hg : glB g.sc "range" = true) (hs : ∀ env : PySem.Env, starEach [a] env = [(false, eval a env)] := by intro _; rfl) : Mi g tg (.Call (.Name "range" p) [a] [] pos) (mItR1 u) := ⟨fun X hX => by
  obtain ⟨t, h1, h2⟩ := ha.ok X hX
  refine ⟨_, pi_range1 (glB_ok hX hg).1 (by rw [hX.mg]; exact hm) h1 (hs _), fun ρ S t n S' e m H σ r Rr q => ?_⟩
  obtain ⟨⟨ds, S1⟩, e1, e⟩ := bind_some e
  split at e
  · rename_i j hd
    have hd' : ds = [.int j] := hd
    subst hd'
    split at e
    · rename_i hb
      cases e
      refine h2 ρ S _ S1 e1 m H σ r _ fun vs m1 H1 ev rs st => ?_
      obtain ⟨v, rfl, rv⟩ := rs.one
      cases rv
      exact ⟨j, rfl, hb.1, hb.2, q _ m1 H1 ev st tn_rng⟩
    · cases e
  · cases e⟩
def mItR2 (u : MA) : MI := fun ρ S => (u ρ S).bind fun a => match a.1 with
  | [.int i, .int j] => if -(2 ^ 62) ≤ i ∧ i < 2 ^ 62 ∧ -(2 ^ 62) ≤ j ∧ j < 2 ^ 62 then some (tnR i (j - i).toNat, (j - i).toNat, a.2) else none
  | _ => none
theorem mi_range2 (hm : g.mg "range" = none) (ha : Ma g [a, b] u) (hg : glB g.sc "range" = true) (hs : ∀ env : PySem.Env, starEach [a, b] env = [(false, eval a env), (false, eval b env)] := by intro _; rfl) (hs2 : ∀ env : PySem.Env, starEach [b] env = [(false, eval b env)] := by intro _; rfl) :
    Mi g tg (.Call (.Name "range" p) [a, b] [] pos) (mItR2 u) := ⟨fun X hX => by
  obtain ⟨t, h1, h2⟩ := ha.ok X hX
  refine ⟨_, pi_range2 (glB_ok hX hg).1 (by rw [hX.mg]; exact hm) h1 (hs _) (hs2 _), fun ρ S t n S' e m H σ r Rr q => ?_⟩
  obtain ⟨⟨ds, S1⟩, e1, e⟩ := bind_some e
  split at e
  · rename_i x y hd
    have hd' : ds = [.int x, .int y] := hd
    subst hd'
    split at e
    · rename_i hb
      cases e
      refine h2 ρ S _ S1 e1 m H σ r _ fun vs m1 H1 ev rs st => ?_
      obtain ⟨v, w, rfl, r1, r2⟩ := rs.two
      cases r1
      cases r2
      exact ⟨x, y, rfl, hb, q _ m1 H1 ev st tn_rng⟩
    · cases e
  · cases e⟩

/-! ### for -/
/-- n: at most so many turns more -/
def forI (it : Tn) (gt : MG) (body : MS) : Nat → Nat → Env → Sto → Option (Fl × Sto)
  | n, i, ρ, S => match it S i with
    | none => none
    | some none => some (.nx ρ, S)
    | some (some d) => match n with
      | 0 => none
      | n + 1 => (gt d ρ S).bind fun a => (body a.1 a.2).bind fun b => match b.1 with
        | .nx ρ' => forI it gt body n (i + 1) ρ' b.2
        | .ct ρ' => forI it gt body n (i + 1) ρ' b.2
        | .bk ρ' => some (.nx ρ', b.2)
        | r => some (r, b.2)
def mFor (fit : MI) (gt : MG) (body : MS) : MS := fun ρ S => (fit ρ S).bind fun a => forI a.1 gt body a.2.1 0 ρ a.2.2
theorem good_for {K : Fr} {wi : TI} {tg : TG} {tb : TS} (h1 : GoodI K wi fit) (h2 : GoodG K tg gt) (h3 : GoodS K tb k) : GoodS K (tFor wi tg tb) (mFor fit gt k) := by
  intro ρ S r S' e m H σ rl Dn q
  obtain ⟨⟨it, n, S1⟩, e1, e⟩ := bind_some e
  refine h1 ρ S it n S1 e1 m H σ rl _ fun J m1 H1 ev st tn => ?_
  refine ⟨fun i n σ H' => ∃ ρ S m', forI it gt k n i ρ S = some (r, S') ∧ Rel K m' H' σ ρ S ∧ Evo m1 m' H1 H' ∧ After K m' H' S' Dn r, ⟨n, ρ, S1, m1, e, rl.evo ev st, .refl, q.evo ev st⟩, fun i n σ2 H2 hw => ?_⟩
  obtain ⟨ρ2, S2, m2, e2, r2, ev2, q2⟩ := hw
  obtain ⟨t1, t2⟩ := tn i m2 H2 S2 ev2 r2.st
  unfold forI at e2
  split at e2
  · cases e2
  · rename_i hi
    cases e2
    exact .inl ⟨t1 hi, q2 σ2 m2 H2 .refl r2⟩
  · rename_i d hi
    obtain ⟨g1, g2⟩ := t2 d hi
    cases n with
    | zero => cases e2
    | succ n =>
      obtain ⟨⟨ρ3, S3⟩, e3, e2⟩ := bind_some e2
      obtain ⟨⟨rb, S4⟩, e4, e2⟩ := bind_some e2
      refine .inr ⟨g1, fun σ' H' => ∃ ρ S m', forI it gt k n (i + 1) ρ S = some (r, S') ∧ Rel K m' H' σ' ρ S ∧ Evo m1 m' H1 H' ∧ After K m' H' S' Dn r, fun σ' H' hN => ⟨n, Nat.lt_succ_self n, hN⟩, fun x H' hy => ?_⟩
      obtain ⟨ev3, st3, rx⟩ := g2 x H' hy
      refine h2 d ρ2 S2 ρ3 S3 e3 x m2 H' σ2 (r2.evo ev3 st3) rx _ fun σ4 m4 H4 ev4 r4 => ?_
      refine h3 ρ3 S3 rb S4 e4 m4 H4 σ4 r4 _ ?_
      have ev5 := ev3.trans ev4
      have q5 := q2.evo ev5 r4.st
      cases rb with
      | nx ρ5 => exact fun σ6 m6 H6 ev6 r6 => ⟨ρ5, S4, m6, e2, r6, (ev2.trans ev5).trans ev6, q5.evo ev6 r6.st⟩
      | ct ρ5 => exact fun σ6 m6 H6 ev6 r6 => ⟨ρ5, S4, m6, e2, r6, (ev2.trans ev5).trans ev6, q5.evo ev6 r6.st⟩
      | bk ρ5 =>
        cases e2
        exact q5
      | rt d5 =>
        cases e2
        exact q5
      | rl d5 =>
        cases e2
        exact q5
theorem mst_for (hi : Mi g tg iter fit) (hg : Mg g tg gt) (hb : Mss g body k) (hs : ∀ (env : PySem.Env) x, foldedSetIterable iter env x = pure x := by intro _ _; rfl) : Mst g (.For tg iter body [] pos) (mFor fit gt k) := ⟨fun X hX => by
  obtain ⟨wi, i1, i2⟩ := hi.ok X hX
  obtain ⟨tgt, g1, g2⟩ := hg.ok X hX
  obtain ⟨tb, b1, b2⟩ := hb.ok X hX
  exact ⟨_, ps_for hX.pass hX.calm i1 g1 b1 (hs _), good_for i2 g2 b2⟩⟩
end
end Mi
namespace Mi
open PySem PySem.Spec PyProof.Rows L2

/-! ### comprehensions -/
def relabelS (scope sc : Scope) : Scope :=
  { scope with names := scope.names.map fun (n, k) => if (k == .free && sc.kind == .function && sc.names.lookup n == some .cell) then (n, .cell) else (n, k) }
abbrev G.blk (g : G) (scope : Scope) : G := { g with sc := relabelS scope g.sc, ow := scope }
theorem On.blk {g : G} {X : Cx} (hX : g.On X) (scope : Scope) (s : Shared) (H : Hp) (C : Addr) (cl : List (Str × Addr)) (fp : List Addr) : (g.blk scope).On (X.blk s H scope (compEnvC scope cl C X.env) fp) where
  p := hX.p
  w := hX.w
  K := hX.K
  mg := hX.mg
  base := hX.base
  N := hX.N
  sc := by
    show relabel scope X.env = relabelS scope g.sc
    rw [← hX.sc]
    rfl
  nd := hX.nd
  calm := hX.calm
  room := hX.room
  gd := hX.gd
  pass := PassesOwn.never
  fn x h := by
    show (scope.names.lookup x == some .cell) = true
    rw [show scope.names.lookup x = some .cell from h]
    rfl
/-! one reading for every place -/
theorem Ms.uni {g : G} {e : Expr} {f : ME} (h : Ms g e f) : ∃ t, GoodE g.K t f ∧ ∀ X, g.On X → PE X e t := by
  refine ⟨fun σ H Q => ∀ X (hX : g.On X), Classical.choose (h.ok X hX) σ H Q, fun ρ S d S' e1 m H σ r Q q X hX => ?_, fun X hX => ?_⟩
  · exact (Classical.choose_spec (h.ok X hX)).2 ρ S d S' e1 m H σ r Q q
  · exact ⟨fun pins s σ H Q I hq => (Classical.choose_spec (h.ok X hX)).1.run pins s σ H Q I (hq X hX)⟩
theorem Mt.uni {g : G} {e : Expr} {f : MT} (h : Mt g e f) : ∃ t, GoodT g.K t f ∧ ∀ X, g.On X → PT X e t := by
  refine ⟨fun σ H Q => ∀ X (hX : g.On X), Classical.choose (h.ok X hX) σ H Q, fun ρ S d S' e1 m H σ r Q q X hX => ?_, fun X hX => ?_⟩
  · exact (Classical.choose_spec (h.ok X hX)).2 ρ S d S' e1 m H σ r Q q
  · exact ⟨fun pins s σ H Q I hq => (Classical.choose_spec (h.ok X hX)).1.run pins s σ H Q I (hq X hX)⟩
theorem Mi.uni {g : G} {tg e : Expr} {f : MI} (h : Mi g tg e f) : ∃ t, GoodI g.K t f ∧ ∀ X, g.On X → PI X tg e t := by
  refine ⟨fun σ H Q => ∀ X (hX : g.On X), Classical.choose (h.ok X hX) σ H Q, fun ρ S t n S' e1 m H σ r Q q X hX => ?_, fun X hX => ?_⟩
  · exact (Classical.choose_spec (h.ok X hX)).2 ρ S t n S' e1 m H σ r Q q
  · exact ⟨fun pins s σ H Q I hq => (Classical.choose_spec (h.ok X hX)).1.run pins s σ H Q I (hq X hX)⟩
/-- a target whose names are among vs -/
def TgIn (vs : List Nat) (t : TG) : Prop := ∀ v σ H (Q : L2.St → Hp → Prop), t v (wipe σ vs) H Q → t v (wipe σ vs) H fun σ2 H2 => wipe σ2 vs = wipe σ vs ∧ Q σ2 H2
structure Mgc (g : G) (vs : List Nat) (e : Expr) (f : MG) : Prop where
  ok : ∀ X, g.On X → ∃ t, PG X e t ∧ GoodG g.K t f ∧ TgIn vs t
theorem Mgc.uni {g : G} {vs : List Nat} {e : Expr} {f : MG} (h : Mgc g vs e f) : ∃ t, GoodG g.K t f ∧ TgIn vs t ∧ ∀ X, g.On X → PG X e t := by
  refine ⟨fun v σ H Q => ∀ X (hX : g.On X), Classical.choose (h.ok X hX) v σ H Q, fun d ρ S ρ' S' e1 v m H σ r rv Q q X hX => ?_, fun v σ H Q hq X hX => ?_, fun X hX => ?_⟩
  · exact (Classical.choose_spec (h.ok X hX)).2.1 d ρ S ρ' S' e1 v m H σ r rv Q q
  · exact (Classical.choose_spec (h.ok X hX)).2.2 v σ H Q (hq X hX)
  · exact ⟨fun pins s σ H v u Q I r hq => (Classical.choose_spec (h.ok X hX)).1.run pins s σ H v u Q I r (hq X hX)⟩
theorem wipe_at {vs : List Nat} {σ : L2.St} {i : Nat} (h : i ∈ vs) : (wipe σ vs)[i]? = none ∨ (wipe σ vs)[i]? = some none := by
  induction vs with
  | nil => cases h
  | cons v vs ih =>
    unfold wipe
    by_cases e : v = i
    · subst e
      by_cases hl : v < (wipe σ vs).length
      · exact .inr (List.getElem?_set_self hl)
      · exact .inl (List.getElem?_eq_none (by rw [List.length_set]; omega))
    · rw [List.getElem?_set_ne e]
      rcases List.mem_cons.mp h with h | h
      · exact absurd h.symm e
      · exact ih h
theorem wipe_off {vs : List Nat} {σ : L2.St} {i : Nat} (h : i ∉ vs) : (wipe σ vs)[i]? = σ[i]? := by
  induction vs with
  | nil => rfl
  | cons v vs ih =>
    unfold wipe
    rw [List.getElem?_set_ne (fun e : v = i => h (by rw [e]; exact List.mem_cons_self))]
    exact ih fun q => h (List.mem_cons_of_mem _ q)
theorem wipe_ext {vs : List Nat} {σ τ : L2.St} (hl : σ.length = τ.length) (h : ∀ i, i ∉ vs → σ[i]? = τ[i]?) : wipe σ vs = wipe τ vs := by
  refine List.ext_getElem? fun i => ?_
  by_cases hi : i ∈ vs
  · have la := wipe_length σ vs
    have lb := wipe_length τ vs
    have e : (wipe σ vs)[i]? = none ↔ (wipe τ vs)[i]? = none := by
      rw [List.getElem?_eq_none_iff, List.getElem?_eq_none_iff, la, lb, hl]
    rcases wipe_at (σ := σ) hi with a | a <;> rcases wipe_at (σ := τ) hi with b | b
    · rw [a, b]
    · rw [e.mp a] at b
      cases b
    · rw [e.mpr b] at a
      cases a
    · rw [a, b]
  · rw [wipe_off hi, wipe_off hi]
    exact h i hi
theorem wipe_set {vs : List Nat} {σ : L2.St} {i : Nat} {o : Option V} (h : i ∈ vs) : wipe (σ.set i o) vs = wipe σ vs := by
  refine wipe_ext (by rw [List.length_set]) fun j hj => ?_
  rw [List.getElem?_set_ne fun e : i = j => hj (by rw [← e]; exact h)]
theorem wipe_wipe {vs : List Nat} {σ : L2.St} : wipe (wipe σ vs) vs = wipe σ vs := wipe_ext (wipe_length σ vs) fun i hi => wipe_off hi
def mwipe (ρ : Env) : List Nat → Env
  | [] => ρ
  | v :: vs => (mwipe ρ vs).set v none
theorem Rel.unset {K : Fr} {m : Nm} {H : Hp} {σ : L2.St} {ρ : Env} {S : Sto} (r : Rel K m H σ ρ S) (i : Nat) : Rel K m H (σ.set i none) (ρ.set i none) S := by
  refine ⟨fun j d hj => ?_, by rw [List.length_set, List.length_set]; exact r.len, r.st⟩
  by_cases e : i = j
  · subst e
    by_cases hi : i < ρ.length
    · rw [List.getElem?_set_self hi] at hj
      cases hj
    · rw [List.getElem?_eq_none (by rw [List.length_set]; omega)] at hj
      cases hj
  · rw [List.getElem?_set_ne e] at hj ⊢
    exact r.env j d hj
theorem Rel.wipe {K : Fr} {m : Nm} {H : Hp} {σ : L2.St} {ρ : Env} {S : Sto} (r : Rel K m H σ ρ S) : ∀ vs : List Nat, Rel K m H (L2.wipe σ vs) (mwipe ρ vs) S
  | [] => r
  | v :: vs => (Rel.wipe r vs).unset v
def lcI (it : Tn) (gt : MG) (tt : MT) (fe : ME) (ρw : Env) : Nat → Nat → Sto → List D → Option (List D × Sto)
  | n, i, S, acc => match it S i with
    | none => none
    | some none => some (acc, S)
    | some (some d) => match n with
      | 0 => none
      | n + 1 => (gt d ρw S).bind fun a => (tt a.1 a.2).bind fun b => if b.1 = true then (fe a.1 b.2).bind fun y => if acc.length < sizeLine then lcI it gt tt fe ρw n (i + 1) y.2 (acc ++ [y.1]) else none else lcI it gt tt fe ρw n (i + 1) b.2 acc
def mLc (fit : MI) (gt : MG) (tt : MT) (fe : ME) (vs : List Nat) : MEL := fun ρ S => (fit ρ S).bind fun a => (lcI a.1 gt tt fe (mwipe ρ vs) a.2.1 0 a.2.2 []).bind fun b => some (.lst b.1, b.2)
def mYes : MT := fun _ S => some (true, S)
/-- the list that is made, at Dl, hidden; everything else as it was found and as the turns leave it -/
structure LcAt (K : Fr) (m1 m2 : Nm) (H1 H2 : Hp) (S : Sto) (Dl : Addr) (acc : List D) : Prop where
  mem : Dl ∈ m2.b
  ev : Evo m1 m2 H1 H2
  st : Cells K m2 H2 S
  at' : ∃ vs, H2 Dl = some (.lst vs) ∧ Rs K m2 H2 vs acc
theorem LcAt.fresh {K : Fr} {m1 m2 : Nm} {H0 H1 H2 : Hp} {S : Sto} {Dl : Addr} {acc : List D} (l : LcAt K m1 m2 H1 H2 S Dl acc) (h1 : H1 Dl = none) (h0 : H0 Dl = none) (n1 : Dl ∉ m1) : Evo m1 (m2.del Dl) H1 H2 ∧ Fresh K (m2.del Dl) H0 H2 S Dl (.lst acc) := by
  obtain ⟨vs, e, r⟩ := l.at'
  have hm : ∀ a, a ∈ m2.del Dl → a ∈ m2 := fun a => mem_del
  have r' : Rs K (m2.del Dl) H2 vs acc := Rs.less (m := m2) (m1 := m2.del Dl) (fun _ _ z => z) hm r
  have st' : Cells K (m2.del Dl) H2 S := l.st.less rfl fun a h => (List.mem_filter.mp h).1
  have nD := not_del l.st l.mem
  have hc : ∀ (k : Nat) (a : Addr), m2.c[k]? = some a → ((m2.del Dl).add Dl).c[k]? = some a := fun k a z => by
    show (m2.c ++ [Dl])[k]? = some a
    rw [List.getElem?_append_left (List.getElem?_eq_some_iff.mp z).1]
    exact z
  have hin : ∀ a, a ∈ (m2.del Dl).add Dl → a ∈ m2 := fun a h => by
    rcases h with h | h
    · rcases List.mem_append.mp h with h | h
      · exact .inl h
      · rw [List.mem_singleton.mp h]
        exact .inr l.mem
    · exact .inr (List.mem_filter.mp h).1
  refine ⟨⟨l.ev.pre, fun a h n => l.ev.new a (hm a h) n, l.ev.ext, l.ev.len, fun a h => List.mem_filter.mpr ⟨l.ev.hid a h, decide_eq_true fun z => n1 (z ▸ .inr h)⟩, l.ev.keep⟩, h0, ?_, st', .lst e nD r'⟩
  refine ⟨?_, ?_, fun a ha q => ?_, fun a ha => st'.there a ha, fun k c a hk ha => ?_⟩
  · show (m2.c ++ [Dl]).length = _
    rw [List.length_append, List.length_append, l.st.len]
    rfl
  · exact List.nodup_append.mpr ⟨l.st.nd, List.nodup_cons.mpr ⟨by simp, List.nodup_nil⟩, fun a ha b hb z => l.st.apart a ha (by rw [z, List.mem_singleton.mp hb]; exact l.mem)⟩
  · rcases List.mem_append.mp ha with ha | ha
    · exact st'.apart a ha q
    · rw [List.mem_singleton.mp ha] at q
      exact nD (.inr q)
  · have ha : (m2.c ++ [Dl])[k]? = some a := ha
    by_cases hk' : k < m2.c.length
    · rw [List.getElem?_append_left hk'] at ha
      rw [List.getElem?_append_left (l.st.len ▸ hk')] at hk
      have h := l.st.cel k c a hk ha
      cases c <;> (obtain ⟨ws, q, rr⟩ := h; exact ⟨ws, q, rr.less hc hin⟩)
    · have ek : k = m2.c.length := by
        have := (List.getElem?_eq_some_iff.mp ha).1
        rw [List.length_append, List.length_singleton] at this
        omega
      subst ek
      rw [List.getElem?_append_right (Nat.le_refl _), Nat.sub_self] at ha
      rw [l.st.len, List.getElem?_append_right (Nat.le_refl _), Nat.sub_self] at hk
      cases ha
      cases hk
      exact ⟨vs, e, r.less hc hin⟩
/-- one more item -/
theorem LcAt.push {K : Fr} {m1 m2 : Nm} {H1 H2 : Hp} {S : Sto} {Dl : Addr} {acc : List D} {vs : List V} {v : V} {d : D} (l : LcAt K m1 m2 H1 H2 S Dl acc) (h1 : H1 Dl = none) (n1 : Dl ∉ m1) (e : H2 Dl = some (.lst vs)) (rv : R K m2 H2 v d) (rs : Rs K m2 H2 vs acc) :
    LcAt K m1 m2 H1 (upd H2 Dl (.lst (vs ++ [v]))) S Dl (acc ++ [d]) where
  mem := l.mem
  ev := ⟨l.ev.pre, l.ev.new, fun a o n z => by rw [upd_ne (ne_of_none z h1)]; exact l.ev.ext a o n z, l.ev.len, l.ev.hid, fun a ha => by
    rw [upd_ne (fun z : a = Dl => n1 (by rw [← z]; exact .inr ha))]
    exact l.ev.keep a ha⟩
  st := l.st.hwr l.mem
  at' := ⟨vs ++ [v], upd_same, (rs.app (.cons rv .nil)).hwr l.mem⟩
theorem LcAt.go {K : Fr} {m1 m2 m3 : Nm} {H1 H2 H3 : Hp} {S S3 : Sto} {Dl : Addr} {acc : List D} (l : LcAt K m1 m2 H1 H2 S Dl acc) (ev : Evo m2 m3 H2 H3) (st : Cells K m3 H3 S3) : LcAt K m1 m3 H1 H3 S3 Dl acc where
  mem := ev.hid _ l.mem
  ev := l.ev.trans ev
  st := st
  at' := by
    obtain ⟨vs, e, r⟩ := l.at'
    exact ⟨vs, (ev.keep Dl l.mem).trans e, r.evo ev⟩
section
variable {g : G} {elt tg iter c : Expr} {ifs : List Expr} {scope : Scope} {pos : Pos} {fit : MI} {gt : MG} {tt : MT} {fe : ME} {vs : List Nat}
theorem good_lc {K : Fr} {wi : TI} {tgt : TG} {tts : TT} {te : TE} (h1 : GoodI K wi fit) (h2 : GoodG K tgt gt) (h2' : TgIn vs tgt) (h3 : GoodT K tts tt) (h4 : GoodE K te fe) : GoodL K (tLc wi tgt tts te vs) (mLc fit gt tt fe vs) := by
  intro ρ S c S' e m H σ rl Q q
  obtain ⟨⟨it, n, S1⟩, e1, e⟩ := bind_some e
  obtain ⟨⟨acc, S2⟩, e2, e⟩ := bind_some e
  cases e
  refine h1 ρ S it n S1 e1 m H σ rl _ fun J m1 H1 ev st tn => ?_
  intro Dl hD
  have n1 : Dl ∉ m1 := st.free hD
  refine ⟨fun i n H' => ∃ S a m', lcI it gt tt fe (mwipe ρ vs) n i S a = some (acc, S2) ∧ LcAt K m1 m' H1 H' S Dl a, ⟨n, S1, [], m1.hide Dl, e2, ⟨List.mem_cons_self, Evo.hide st hD, st.hide hD, [], upd_same, .nil⟩⟩, fun i n H2 hw => ?_⟩
  obtain ⟨S3, a3, m3, e3, l3⟩ := hw
  obtain ⟨t1, t2⟩ := tn i m3 H2 S3 l3.ev l3.st
  unfold lcI at e3
  split at e3
  · cases e3
  · rename_i hi
    cases e3
    refine .inl ⟨t1 hi, ?_⟩
    obtain ⟨evf, fr⟩ := l3.fresh hD (ev.backC hD st) n1
    exact q Dl _ H2 (ev.trans evf) fr
  · rename_i d hi
    obtain ⟨g1, g2⟩ := t2 d hi
    cases n with
    | zero => cases e3
    | succ n =>
      obtain ⟨⟨ρ4, S4⟩, e4, e3⟩ := bind_some e3
      obtain ⟨⟨b, S5⟩, e5, e3⟩ := bind_some e3
      refine .inr ⟨g1, fun H' => ∃ S a m', lcI it gt tt fe (mwipe ρ vs) n (i + 1) S a = some (acc, S2) ∧ LcAt K m1 m' H1 H' S Dl a, fun H' hN => ⟨n, Nat.lt_succ_self n, hN⟩, fun x H' hy => ?_⟩
      obtain ⟨ev3, st3, rx⟩ := g2 x H' hy
      have l4 := l3.go ev3 st3
      have rl4 : Rel K m3 H' (L2.wipe σ vs) (mwipe ρ vs) S3 := ((rl.evo ev st).evo l4.ev st3).wipe vs
      refine h2' x σ H' _ (h2 d (mwipe ρ vs) S3 ρ4 S4 e4 x m3 H' (L2.wipe σ vs) rl4 rx _ ?_)
      · intro σ5 m5 H5 ev5 r5
        have l5 := l4.go ev5 r5.st
        refine h3 ρ4 S4 b S5 e5 m5 H5 σ5 r5 _ fun m6 H6 ev6 st6 => ?_
        have l6 := l5.go ev6 st6
        cases b with
        | true =>
          rw [if_pos rfl] at e3 ⊢
          obtain ⟨⟨y, S7⟩, e7, e3⟩ := bind_some e3
          refine h4 ρ4 S5 y S7 e7 m6 H6 σ5 (r5.evo ev6 st6) _ fun w m7 H7 ev7 rw' st7 => ?_
          have l7 := l6.go ev7 st7
          obtain ⟨ws, ew, rws⟩ := l7.at'
          split at e3
          · rename_i hz
            exact ⟨ws, ew, by rw [rws.len]; exact hz, S7, _, m7, e3, l7.push hD n1 ew rw' rws⟩
          · cases e3
        | false =>
          rw [if_neg Bool.false_ne_true] at e3 ⊢
          exact ⟨S5, a3, m6, e3, l6⟩
structure Mts (g : G) (ifs : List Expr) (f : MT) : Prop where
  ok : ∀ X, g.On X → ∃ t, PTs X ifs t ∧ GoodT g.K t f
theorem Mts.uni {g : G} {e : List Expr} {f : MT} (h : Mts g e f) : ∃ t, GoodT g.K t f ∧ ∀ X, g.On X → PTs X e t := by
  refine ⟨fun σ H Q => ∀ X (hX : g.On X), Classical.choose (h.ok X hX) σ H Q, fun ρ S d S' e1 m H σ r Q q X hX => ?_, fun X hX => ?_⟩
  · exact (Classical.choose_spec (h.ok X hX)).2 ρ S d S' e1 m H σ r Q q
  · exact ⟨fun pins s σ H Q I hq => (Classical.choose_spec (h.ok X hX)).1.run pins s σ H Q I (hq X hX)⟩
theorem mts_nil : Mts g [] mYes := ⟨fun X hX => ⟨_, pts_nil, fun ρ S d S' e m H σ r Q q => by cases e; exact q m H .refl r.st⟩⟩
theorem mts_one (h : Mt g c tt) : Mts g [c] tt := ⟨fun X hX => by
  obtain ⟨t, h1, h2⟩ := h.ok X hX
  exact ⟨_, pts_one h1, h2⟩⟩
theorem mgc_name {x : Str} {p : Pos} (i : Nat) (h : locB g.N g.sc g.ow i x = true) (hi : i ∈ vs) : Mgc g vs (.Name x p) (mName i) := ⟨fun X hX => by
  obtain ⟨h1, h2⟩ := locB_ok h
  obtain ⟨h3, h4⟩ := hX.hf h2
  refine ⟨_, pg_name (i := i) hX.nd (by rw [hX.N]; exact h1) h4 h3, fun d ρ S ρ' S' e v m H σ r rv Q q => ?_, fun v σ H Q hq => ⟨(wipe_set hi).trans wipe_wipe, hq⟩⟩
  cases e
  exact q _ m H .refl (r.set i rv)⟩
structure Mgsc (g : G) (vs : List Nat) (es : List Expr) (f : MGs) : Prop where
  ok : ∀ X, g.On X → ∃ t, PGs X es t ∧ GoodGs g.K t f ∧ ∀ v τ σ H (Q : L2.St → Hp → Prop), L2.wipe τ vs = L2.wipe σ vs → t v τ H Q → t v τ H fun σ2 H2 => L2.wipe σ2 vs = L2.wipe σ vs ∧ Q σ2 H2
theorem mgsc_nil : Mgsc g vs [] mgNil := ⟨fun X hX => by
  refine ⟨_, pgs_nil, fun d ρ S ρ' S' e v m H σ r rv Q q => ?_, fun v τ σ H Q hw hq => ⟨hq.1, hw, hq.2⟩⟩
  unfold mgNil at e
  split at e
  · cases e
    cases rv
    exact ⟨rfl, q σ m H .refl r⟩
  · cases e⟩
theorem mgsc_cons {es : List Expr} {x : Str} {p : Pos} {h : MGs} (i : Nat) (hx : locB g.N g.sc g.ow i x = true) (hi : i ∈ vs) (h2 : Mgsc g vs es h)
    (hs : ∀ env : PySem.Env, ((assignEach (.Name x p :: es) env).map (·.2)) = assign (.Name x p) env :: ((assignEach es env).map (·.2)) := by intro _; rfl) : Mgsc g vs (.Name x p :: es) (mgCons (mName i) h) := ⟨fun X hX => by
  obtain ⟨x1, x2⟩ := locB_ok hx
  obtain ⟨x3, x4⟩ := hX.hf x2
  obtain ⟨t2, a2, b2, c2⟩ := h2.ok X hX
  refine ⟨_, pgs_cons (pg_name (i := i) hX.nd (by rw [hX.N]; exact x1) x4 x3) a2 (hs _), fun d ρ S ρ' S' e v m H σ r rv Q q => ?_, fun v τ σ H Q hw hq => ?_⟩
  · unfold mgCons at e
    split at e
    · obtain ⟨⟨ρ1, S1⟩, e1, e⟩ := bind_some e
      cases e1
      cases rv
      rename_i v vs rv rs
      exact ⟨_, _, rfl, b2 _ _ _ ρ' S' e vs m H _ (r.set i rv) rs Q q⟩
    · cases e
  · obtain ⟨v1, r, e, hq⟩ := hq
    exact ⟨v1, r, e, c2 r _ σ H Q ((wipe_set hi).trans hw) hq⟩⟩
theorem mgc_tup {es : List Expr} {kk n : Nat} {p : Pos} {gs : MGs} (h : Mgsc g vs es gs) (hn : ∀ env : PySem.Env, (assignEach es env).length = n := by intro _; rfl) (hst : ∀ env : PySem.Env, (assignEach es env).findIdx? (·.1) = none := by intro _; rfl) : Mgc g vs (.Tuple es kk p) (mTg n gs) := ⟨fun X hX => by
  obtain ⟨t1, a1, b1, c1⟩ := h.ok X hX
  refine ⟨_, pg_tup hX.calm a1 (hn _) (hst _), fun d ρ S ρ' S' e v m H σ r rv Q q => ?_, fun v σ H Q hq => ?_⟩
  · obtain ⟨xs, ex, e⟩ := bind_some e
    split at e
    · rename_i hl
      obtain ⟨ad, vs, rfl, hs, rs⟩ := tupOf_ok ex rv
      exact ⟨ad, vs, rfl, by rw [hX.K]; exact hs, by rw [rs.len]; exact hl, b1 xs ρ S ρ' S' e vs m H σ r rs Q q⟩
    · cases e
  · obtain ⟨ad, xs, e1, e2, e3, hq⟩ := hq
    exact ⟨ad, xs, e1, e2, e3, c1 xs _ σ H Q wipe_wipe hq⟩⟩
/-- [elt for tg in iter if ..] -/
theorem ml_lc {own : List (Str × Nat)} (hi : Mi g tg iter fit) (hb : blkC g.N g.sc scope own = true) (hg : Mgc (g.blk scope) (own.map (·.2)) tg gt) (ht : Mts (g.blk scope) ifs tt) (he : Ms (g.blk scope) elt fe)
    (hs : ∀ (env : PySem.Env) x, foldedSetIterable iter env x = pure x := by intro _ _; rfl) : Ml g (.ListComp elt [⟨tg, iter, ifs, 0⟩] scope pos) (mLc fit gt tt fe (own.map (·.2))) := ⟨fun X hX => by
  obtain ⟨wi, i1, i2⟩ := hi.ok X hX
  obtain ⟨t1, g1, g2, g3⟩ := hg.uni
  obtain ⟨t2, u1, u2⟩ := ht.uni
  obtain ⟨t3, v1, v2⟩ := he.uni
  refine ⟨_, pe_lc hX.calm hX.nd i1 (blkOk_by (by rw [hX.N, hX.sc]; exact hb)) (fun s H C cl fp => g3 _ (On.blk hX scope s H C cl fp)) (fun s H C cl fp => u2 _ (On.blk hX scope s H C cl fp)) (fun s H C cl fp => v2 _ (On.blk hX scope s H C cl fp)) (hs _), good_lc i2 g1 g2 u1 v1⟩⟩
/-- name = [..] on one line -/
theorem lc_set {own : List (Str × Nat)} {y : Str} {py spos : Pos} (j : Nat) (hi : Mi g tg iter fit) (hb : blkC g.N g.sc scope own = true) (hg : Mgc (g.blk scope) (own.map (·.2)) tg gt) (ht : Mts (g.blk scope) ifs tt) (he : Ms (g.blk scope) elt fe)
    (hy : visB g.N g.sc j y = true) (hl : g.sc.names.lookup y = some .local) (hpos : (py.line == pos.line) = true) (hno : (scope.names.any fun (n, k) => n == y && (k == .local || k == .cell)) = false)
    (hk : g.sc.kind = .function := by rfl) (hs : ∀ (env : PySem.Env) x, foldedSetIterable iter env x = pure x := by intro _ _; rfl) :
    ∀ X, g.On X → ∃ t, PS X (.Assign [.Name y py] (.ListComp elt [⟨tg, iter, ifs, 0⟩] scope pos) spos) (tAsg t (gName j)) ∧ GoodL g.K t (mLc fit gt tt fe (own.map (·.2))) := fun X hX => by
  obtain ⟨wi, i1, i2⟩ := hi.ok X hX
  obtain ⟨t1, g1, g2, g3⟩ := hg.uni
  obtain ⟨t2, u1, u2⟩ := ht.uni
  obtain ⟨t3, v1, v2⟩ := he.uni
  refine ⟨_, ps_setLc (i := j) hX.calm hX.nd (by rw [hX.N]; exact (visB_ok hy).1) (by rw [hX.sc]; exact hl) ?_ i1 (blkOk_by (by rw [hX.N, hX.sc]; exact hb)) (fun s H C cl fp => g3 _ (On.blk hX scope s H C cl fp)) (fun s H C cl fp => u2 _ (On.blk hX scope s H C cl fp)) (fun s H C cl fp => v2 _ (On.blk hX scope s H C cl fp)) (hs _), good_lc i2 g1 g2 u1 v1⟩
  exact sw_true (by rw [hX.sc]; exact hk) (by rw [hX.sc]; exact hl) hpos hno
end
end Mi
namespace Mi
open PySem PySem.Spec PyProof.Rows L2
section
variable {g : G} {elt tg iter tg1 iter1 c : Expr} {ifs ifs1 : List Expr} {scope : Scope} {pos : Pos} {fit fit1 : MI} {gt gt1 : MG} {tt tt1 : MT} {fe : ME} {vs vs1 : List Nat}
theorem Rel.evoW {K : Fr} {m m1 : Nm} {H H1 : Hp} {σ : L2.St} {ρ : Env} {S S1 : Sto} (r : Rel K m H σ ρ S) (e : Evw m m1 H H1) (st : Cells K m1 H1 S1) : Rel K m1 H1 σ ρ S1 :=
  ⟨fun i d h => by
    obtain ⟨v, hv, hr⟩ := r.env i d h
    exact ⟨v, hv, hr.evo e⟩, r.len, st⟩
theorem good_setL {K : Fr} {t : TE} {fl : MEL} (j : Nat) (h : GoodL K t fl) : GoodS K (tAsg t (gName j)) (mAsg (mOfL fl) (mName j)) := fun ρ S r S' e m H σ rl Dn q => by
  obtain ⟨⟨d, S1⟩, e1, e⟩ := bind_some e
  obtain ⟨⟨cc, S2⟩, e2, e1⟩ := bind_some e1
  obtain ⟨⟨ρ2, S3⟩, e3, e⟩ := bind_some e
  cases e1
  cases e3
  cases e
  exact h ρ S cc _ e2 m H σ rl _ fun p m1 H1 ev fr => q _ m1 H1 ev ((rl.evo ev fr.st).set j fr.tree)
theorem good_newL {K : Fr} {t : TE} {fl : MEL} (j : Nat) (h : GoodL K t fl) : GoodS K (tAsg t (gName j)) (mNew fl j) := fun ρ S r S' e m H σ rl Dn q => by
  obtain ⟨⟨cc, S1⟩, e1, e⟩ := bind_some e
  cases e
  refine h ρ S cc S1 e1 m H σ rl _ fun p m1 H1 ev fr => ?_
  have ev2 := ev.add fr.new
  exact q _ _ _ ev2 ((rl.evo ev2 fr.one).set j (.obj fr.cellAt))
theorem mst_lcSet {st : Stmt} {fl : MEL} {j : Nat} (h : ∀ X, g.On X → ∃ t, PS X st (tAsg t (gName j)) ∧ GoodL g.K t fl) : Mst g st (mAsg (mOfL fl) (mName j)) := ⟨fun X hX => by
  obtain ⟨t, h1, h2⟩ := h X hX
  exact ⟨_, h1, good_setL j h2⟩⟩
theorem mst_lcNew {st : Stmt} {fl : MEL} {j : Nat} (h : ∀ X, g.On X → ∃ t, PS X st (tAsg t (gName j)) ∧ GoodL g.K t fl) : Mst g st (mNew fl j) := ⟨fun X hX => by
  obtain ⟨t, h1, h2⟩ := h X hX
  exact ⟨_, h1, good_newL j h2⟩⟩
/-! two walks -/
def lcI2 (it : Tn) (gt : MG) (tt : MT) (fit1 : MI) (gt1 : MG) (tt1 : MT) (fe : ME) (ρw : Env) (vs1 : List Nat) : Nat → Nat → Sto → List D → Option (List D × Sto)
  | n, i, S, acc => match it S i with
    | none => none
    | some none => some (acc, S)
    | some (some d) => match n with
      | 0 => none
      | n + 1 => (gt d ρw S).bind fun a => (tt a.1 a.2).bind fun b => if b.1 = true then (fit1 a.1 b.2).bind fun w => (lcI w.1 gt1 tt1 fe (mwipe a.1 vs1) w.2.1 0 w.2.2 acc).bind fun y => lcI2 it gt tt fit1 gt1 tt1 fe ρw vs1 n (i + 1) y.2 y.1
          else lcI2 it gt tt fit1 gt1 tt1 fe ρw vs1 n (i + 1) b.2 acc
def mLc2 (fit : MI) (gt : MG) (tt : MT) (fit1 : MI) (gt1 : MG) (tt1 : MT) (fe : ME) (vs vs1 : List Nat) : MEL := fun ρ S => (fit ρ S).bind fun a => (lcI2 a.1 gt tt fit1 gt1 tt1 fe (mwipe ρ vs) vs1 a.2.1 0 a.2.2 []).bind fun b => some (.lst b.1, b.2)
theorem good_lc2 {K : Fr} {wi wi1 : TI} {tgt tgt1 : TG} {tts tts1 : TT} {te : TE} (h1 : GoodI K wi fit) (h2 : GoodG K tgt gt) (h2' : TgIn vs tgt) (h3 : GoodT K tts tt) (i1 : GoodI K wi1 fit1) (i2 : GoodG K tgt1 gt1) (i2' : TgIn vs1 tgt1) (i3 : GoodT K tts1 tt1) (h4 : GoodE K te fe) :
    GoodL K (tLc2 wi tgt tts wi1 tgt1 tts1 te vs vs1) (mLc2 fit gt tt fit1 gt1 tt1 fe vs vs1) := by
  intro ρ S c S' e m H σ rl Q q
  obtain ⟨⟨it, n, S1⟩, e1, e⟩ := bind_some e
  obtain ⟨⟨acc, S2⟩, e2, e⟩ := bind_some e
  cases e
  refine h1 ρ S it n S1 e1 m H σ rl _ fun J m1 H1 ev st tn => ?_
  intro Dl hD
  have n1 : Dl ∉ m1 := st.free hD
  refine ⟨fun i n H' => ∃ S a m', lcI2 it gt tt fit1 gt1 tt1 fe (mwipe ρ vs) vs1 n i S a = some (acc, S2) ∧ LcAt K m1 m' H1 H' S Dl a, ⟨n, S1, [], m1.hide Dl, e2, ⟨List.mem_cons_self, Evo.hide st hD, st.hide hD, [], upd_same, .nil⟩⟩, fun i n H2 hw => ?_⟩
  obtain ⟨S3, a3, m3, e3, l3⟩ := hw
  obtain ⟨t1, t2⟩ := tn i m3 H2 S3 l3.ev l3.st
  unfold lcI2 at e3
  split at e3
  · cases e3
  · rename_i hi
    cases e3
    refine .inl ⟨t1 hi, ?_⟩
    obtain ⟨evf, fr⟩ := l3.fresh hD (ev.backC hD st) n1
    exact q Dl _ H2 (ev.trans evf) fr
  · rename_i d hi
    obtain ⟨g1, g2⟩ := t2 d hi
    cases n with
    | zero => cases e3
    | succ n =>
      obtain ⟨⟨ρ4, S4⟩, e4, e3⟩ := bind_some e3
      obtain ⟨⟨b, S5⟩, e5, e3⟩ := bind_some e3
      refine .inr ⟨g1, fun H' => ∃ S a m', lcI2 it gt tt fit1 gt1 tt1 fe (mwipe ρ vs) vs1 n (i + 1) S a = some (acc, S2) ∧ LcAt K m1 m' H1 H' S Dl a, fun H' hN => ⟨n, Nat.lt_succ_self n, hN⟩, fun x H' hy => ?_⟩
      obtain ⟨ev3, st3, rx⟩ := g2 x H' hy
      have l4 := l3.go ev3 st3
      have rl4 : Rel K m3 H' (L2.wipe σ vs) (mwipe ρ vs) S3 := ((rl.evo ev st).evo l4.ev st3).wipe vs
      refine h2' x σ H' _ (h2 d (mwipe ρ vs) S3 ρ4 S4 e4 x m3 H' (L2.wipe σ vs) rl4 rx _ ?_)
      intro σ5 m5 H5 ev5 r5
      have l5 := l4.go ev5 r5.st
      refine h3 ρ4 S4 b S5 e5 m5 H5 σ5 r5 _ fun m6 H6 ev6 st6 => ?_
      have l6 := l5.go ev6 st6
      have r6 := r5.evo ev6 st6
      cases b with
      | true =>
        rw [if_pos rfl] at e3 ⊢
        obtain ⟨⟨it1, nn, S7⟩, e7, e3⟩ := bind_some e3
        obtain ⟨⟨a8, S8⟩, e8, e3⟩ := bind_some e3
        refine i1 ρ4 S5 it1 nn S7 e7 m6 H6 σ5 r6 _ fun J1 m7 H7 ev7 st7 tn1 => ?_
        have l7 := l6.go ev7 st7
        have r7 := r6.evo ev7 st7
        refine ⟨fun j k H' => ∃ S a m', lcI it1 gt1 tt1 fe (mwipe ρ4 vs1) k j S a = some (a8, S8) ∧ LcAt K m1 m' H1 H' S Dl a ∧ Evw m7 m' H7 H' , ⟨nn, S7, a3, m7, e8, l7, Evo.refl.w⟩, fun j k H8 hw => ?_⟩
        obtain ⟨S9, a9, m9, e9, l9, ev9⟩ := hw
        obtain ⟨t3, t4⟩ := tn1 j m9 H8 S9 ev9 l9.st
        unfold lcI at e9
        split at e9
        · cases e9
        · rename_i hi1
          cases e9
          exact .inl ⟨t3 hi1, _, _, m9, e3, l9⟩
        · rename_i d1 hi1
          obtain ⟨g3, g4⟩ := t4 d1 hi1
          cases k with
          | zero => cases e9
          | succ k =>
            obtain ⟨⟨ρa, Sa⟩, ea, e9⟩ := bind_some e9
            obtain ⟨⟨b1, Sb⟩, eb, e9⟩ := bind_some e9
            refine .inr ⟨g3, fun H' => ∃ S a m', lcI it1 gt1 tt1 fe (mwipe ρ4 vs1) k (j + 1) S a = some (a8, S8) ∧ LcAt K m1 m' H1 H' S Dl a ∧ Evw m7 m' H7 H', fun H' hN => ⟨k, Nat.lt_succ_self k, hN⟩, fun x1 Hx hy1 => ?_⟩
            obtain ⟨evx, stx, rx1⟩ := g4 x1 Hx hy1
            have lx := l9.go evx stx
            have evA := ev9.trans evx.w
            have rlx : Rel K m9 Hx (L2.wipe σ5 vs1) (mwipe ρ4 vs1) S9 := (r7.evoW evA stx).wipe vs1
            refine i2' x1 σ5 Hx _ (i2 d1 (mwipe ρ4 vs1) S9 ρa Sa ea x1 m9 Hx (L2.wipe σ5 vs1) rlx rx1 _ ?_)
            intro σb mb Hb evb rb
            have lb := lx.go evb rb.st
            refine i3 ρa Sa b1 Sb eb mb Hb σb rb _ fun mc Hc evc stc => ?_
            have lc := lb.go evc stc
            have evC := (evA.trans evb.w).trans evc.w
            cases b1 with
            | true =>
              rw [if_pos rfl] at e9 ⊢
              obtain ⟨⟨y, Sd⟩, ed, e9⟩ := bind_some e9
              refine h4 ρa Sb y Sd ed mc Hc σb (rb.evo evc stc) _ fun w md Hd evd rw' std => ?_
              have ld := lc.go evd std
              obtain ⟨ws, ew, rws⟩ := ld.at'
              split at e9
              · rename_i hz
                have evD := evC.trans evd.w
                exact ⟨ws, ew, by rw [rws.len]; exact hz, Sd, _, md, e9, ld.push hD n1 ew rw' rws, evD.pre, evD.new, fun a o n z => by
                  rw [upd_ne (fun y : a = Dl => n (by rw [y]; exact .inr l7.mem))]
                  exact evD.ext a o n z⟩
              · cases e9
            | false =>
              rw [if_neg Bool.false_ne_true] at e9 ⊢
              exact ⟨Sb, a9, mc, e9, lc, evC⟩
      | false =>
        rw [if_neg Bool.false_ne_true] at e3 ⊢
        exact ⟨S5, a3, m6, e3, l6⟩
end
end Mi
namespace Mi
open PySem PySem.Spec PyProof.Rows L2

/-! ### behind a def: its own cells become trees -/
mutual
def below (n : Nat) : D → Bool
  | .non => true
  | .bl _ => true
  | .int _ => true
  | .str _ => true
  | .tup xs => belows n xs
  | .lst xs => belows n xs
  | .fzl xs => belows n xs
  | .ktp xs => belows n xs
  | .ftp xs => belows n xs
  | .dk kvs => belowK n kvs
  | .dt kvs => belowT n kvs
  | .obj k => decide (k < n)
  | .raw _ => true
def belows (n : Nat) : List D → Bool
  | [] => true
  | x :: xs => below n x && belows n xs
def belowK (n : Nat) : List (Key × D) → Bool
  | [] => true
  | (_, x) :: xs => below n x && belowK n xs
def belowT (n : Nat) : List (List Key × D) → Bool
  | [] => true
  | (_, x) :: xs => below n x && belowT n xs
end
def C.below (n : Nat) : C → Bool
  | .lst ds => belows n ds
  | .dk kvs => belowK n kvs
  | .dt kvs => belowT n kvs
section
variable {K : Fr} {m m1 : Nm} {H : Hp} {n : Nat}
mutual
theorem R.take (hc : ∀ (k : Nat) (a : Addr), k < n → m.c[k]? = some a → m1.c[k]? = some a) (hs : ∀ a, a ∈ m1 → a ∈ m) : ∀ {v : V} {d : D}, below n d = true → R K m H v d → R K m1 H v d
  | _, _, _, .non => .non
  | _, _, _, .bl => .bl
  | _, _, _, .int => .int
  | _, _, _, .str => .str
  | _, _, _, .raw => .raw
  | _, _, b, .obj h => .obj (hc _ _ (of_decide_eq_true (by simpa only [below] using b)) h)
  | _, _, b, .tup h p r => .tup h (fun q => p (hs _ q)) (Rs.takeB hc hs (by simpa only [below] using b) r)
  | _, _, b, .lst h p r => .lst h (fun q => p (hs _ q)) (Rs.takeB hc hs (by simpa only [below] using b) r)
  | _, _, b, .ktp h r => .ktp h (Rs.takeB hc hs (by simpa only [below] using b) r)
  | _, _, b, .ftp h d p r => .ftp h d (fun q => p (hs _ q)) (Rs.takeB hc hs (by simpa only [below] using b) r)
  | _, _, b, .fzl h r => .fzl (h.imp (fun z => ⟨z.1, fun q => z.2 (hs _ q)⟩) id) (Rs.takeB hc hs (by simpa only [below] using b) r)
  | _, _, b, .dk h p r => .dk h (fun q => p (hs _ q)) (Rk.take hc hs (by simpa only [below] using b) r)
  | _, _, b, .dt h p r => .dt h (fun q => p (hs _ q)) (Rt.take hc hs (by simpa only [below] using b) r)
theorem Rs.takeB (hc : ∀ (k : Nat) (a : Addr), k < n → m.c[k]? = some a → m1.c[k]? = some a) (hs : ∀ a, a ∈ m1 → a ∈ m) : ∀ {v : List V} {d : List D}, belows n d = true → Rs K m H v d → Rs K m1 H v d
  | _, _, _, .nil => .nil
  | _, _, b, .cons r s => by
    simp only [belows, Bool.and_eq_true] at b
    exact .cons (R.take hc hs b.1 r) (Rs.takeB hc hs b.2 s)
theorem Rk.take (hc : ∀ (k : Nat) (a : Addr), k < n → m.c[k]? = some a → m1.c[k]? = some a) (hs : ∀ a, a ∈ m1 → a ∈ m) : ∀ {v : List (Key × V)} {d : List (Key × D)}, belowK n d = true → Rk K m H v d → Rk K m1 H v d
  | _, _, _, .nil => .nil
  | _, _, b, .cons r s => by
    simp only [belowK, Bool.and_eq_true] at b
    exact .cons (R.take hc hs b.1 r) (Rk.take hc hs b.2 s)
theorem Rt.take (hc : ∀ (k : Nat) (a : Addr), k < n → m.c[k]? = some a → m1.c[k]? = some a) (hs : ∀ a, a ∈ m1 → a ∈ m) : ∀ {v : List (List Key × V)} {d : List (List Key × D)}, belowT n d = true → Rt K m H v d → Rt K m1 H v d
  | _, _, _, .nil => .nil
  | _, _, b, .cons r s => by
    simp only [belowT, Bool.and_eq_true] at b
    exact .cons (R.take hc hs b.1 r) (Rt.take hc hs b.2 s)
end
end
def mapO (f : D → Option D) : List D → Option (List D)
  | [] => some []
  | x :: xs => (f x).bind fun y => (mapO f xs).bind fun ys => some (y :: ys)
/-- the tree of a value whose own cells (from n on) are given up -/
def th (S : Sto) (n : Nat) : Nat → D → Option D
  | 0, d => if below n d then some d else none
  | f + 1, d => if below n d then some d else match d with
    | .obj k => match S[k]? with
      | some (.lst ds) => (mapO (th S n f) ds).bind fun es => some (.lst es)
      | some (.dk kvs) => if belowK n kvs then some (.dk kvs) else none
      | some (.dt kvs) => if belowT n kvs then some (.dt kvs) else none
      | none => none
    | .tup ds => (mapO (th S n f) ds).bind fun es => some (.tup es)
    | .lst ds => (mapO (th S n f) ds).bind fun es => some (.lst es)
    | _ => none
theorem mapO_ok {K : Fr} {m m1 : Nm} {H : Hp} {f : D → Option D} (hf : ∀ v d d', R K m H v d → f d = some d' → R K m1 H v d') : ∀ {vs : List V} {ds es : List D}, Rs K m H vs ds → mapO f ds = some es → Rs K m1 H vs es
  | _, _, _, .nil, e => by cases e; exact .nil
  | _, _, _, .cons r s, e => by
    obtain ⟨y, e1, e⟩ := bind_some e
    obtain ⟨ys, e2, e⟩ := bind_some e
    cases e
    exact .cons (hf _ _ _ r e1) (mapO_ok hf s e2)
theorem th_ok {K : Fr} {m m1 : Nm} {H : Hp} {S : Sto} {n : Nat} (hS : ∀ (k : Nat) (c : C) (a : Addr), S[k]? = some c → m.c[k]? = some a → CR K m H a c) (hc : ∀ (k : Nat) (a : Addr), k < n → m.c[k]? = some a → m1.c[k]? = some a) (hs : ∀ a, a ∈ m1 → a ∈ m)
    (hl : ∀ (k : Nat) (a : Addr), n ≤ k → k < S.length → m.c[k]? = some a → a ∉ m1) : ∀ (f : Nat) (v : V) (d d' : D), R K m H v d → th S n f d = some d' → R K m1 H v d'
  | 0, v, d, d', r, e => by
    unfold th at e
    split at e
    · cases e
      exact r.take hc hs (by assumption)
    · cases e
  | f + 1, v, d, d', r, e => by
    unfold th at e
    split at e
    · cases e
      exact r.take hc hs (by assumption)
    · rename_i hb
      split at e
      · rename_i k
        cases r
        rename_i a ha
        have hk : n ≤ k := by
          simp only [below, decide_eq_true_eq] at hb
          omega
        split at e
        · rename_i ds hd
          obtain ⟨es, e1, e⟩ := bind_some e
          cases e
          obtain ⟨vs, h1, h2⟩ := hS k _ a hd ha
          exact .lst h1 (hl k a hk (List.getElem?_eq_some_iff.mp hd).1 ha) (mapO_ok (fun v d d' => th_ok hS hc hs hl f v d d') h2 e1)
        · rename_i kvs hd
          split at e
          · cases e
            obtain ⟨vs, h1, h2⟩ := hS k _ a hd ha
            exact .dk (.of h1) (hl k a hk (List.getElem?_eq_some_iff.mp hd).1 ha) (h2.take hc hs (by assumption))
          · cases e
        · rename_i kvs hd
          split at e
          · cases e
            obtain ⟨vs, h1, h2⟩ := hS k _ a hd ha
            exact .dt (.of h1) (hl k a hk (List.getElem?_eq_some_iff.mp hd).1 ha) (h2.take hc hs (by assumption))
          · cases e
        · cases e
      · obtain ⟨es, e1, e⟩ := bind_some e
        cases e
        cases r
        rename_i a vs h1 h2 h3
        exact .tup h1 (fun q => h2 (hs _ q)) (mapO_ok (fun v d d' => th_ok hS hc hs hl f v d d') h3 e1)
      · obtain ⟨es, e1, e⟩ := bind_some e
        cases e
        cases r
        rename_i a vs h1 h2 h3
        exact .lst h1 (fun q => h2 (hs _ q)) (mapO_ok (fun v d d' => th_ok hS hc hs hl f v d d') h3 e1)
      · cases e
def thC (S : Sto) (n : Nat) : C → Option C
  | .lst ds => (mapO (th S n 6) ds).bind fun es => some (.lst es)
  | .dk kvs => if belowK n kvs then some (.dk kvs) else none
  | .dt kvs => if belowT n kvs then some (.dt kvs) else none
def Nm.upto (m : Nm) (n : Nat) : Nm := ⟨m.c.take n, m.b⟩
def retD (n : Nat) (S : Sto) (d : D) : Option (D × Sto) := if S.length ≤ n then some (d, S) else (th S n 6 d).bind fun d' => if (S.take n).all (C.below n) then some (d', S.take n) else none
section
variable {K : Fr} {m m0 : Nm} {H H0 : Hp} {S : Sto} {n : Nat}
theorem upto_get {k : Nat} {a : Addr} (hk : k < n) (h : m.c[k]? = some a) : (m.upto n).c[k]? = some a := by
  show (m.c.take n)[k]? = some a
  rw [List.getElem?_take_of_lt hk]
  exact h
theorem of_upto {a : Addr} (h : a ∈ m.upto n) : a ∈ m := h.imp List.mem_of_mem_take id
theorem upto_out (st : Cells K m H S) {k : Nat} {a : Addr} (hk : n ≤ k) (h : m.c[k]? = some a) : a ∉ m.upto n := fun q => by
  rcases q with q | q
  · obtain ⟨j, hj, e⟩ := List.mem_iff_getElem.mp q
    have hjn : j < n := by
      have : (m.upto n).c.length ≤ n := by
        show (m.c.take n).length ≤ n
        rw [List.length_take]
        exact Nat.min_le_left _ _
      omega
    have hj2 : m.c[j]? = some a := by
      have := List.getElem?_eq_getElem hj
      rw [e] at this
      have h2 : (m.c.take n)[j]? = some a := this
      rw [List.getElem?_take_of_lt hjn] at h2
      exact h2
    have := nodup_inj st.nd hj2 h
    omega
  · exact st.apart a (List.mem_of_getElem? h) q
theorem Cells.upto (st : Cells K m H S) (hn : n ≤ S.length) (hb : (S.take n).all (C.below n) = true) : Cells K (m.upto n) H (S.take n) where
  len := by
    show (m.c.take n).length = _
    rw [List.length_take, List.length_take, st.len]
  nd := st.nd.sublist (List.take_sublist _ _)
  apart a ha := st.apart a (List.mem_of_mem_take ha)
  there a ha := st.there a ha
  cel k c a hk ha := by
    have hkn : k < n := by
      have := (List.getElem?_eq_some_iff.mp hk).1
      rw [List.length_take] at this
      omega
    rw [List.getElem?_take_of_lt hkn] at hk
    have ha : (m.c.take n)[k]? = some a := ha
    rw [List.getElem?_take_of_lt hkn] at ha
    have hbc : c.below n = true := List.all_eq_true.mp hb c (List.mem_of_getElem? (by rw [List.getElem?_take_of_lt hkn]; exact hk))
    have h := st.cel k c a hk ha
    have h1 : ∀ (k : Nat) (a : Addr), k < n → m.c[k]? = some a → (m.upto n).c[k]? = some a := fun k a => upto_get
    have h2 : ∀ a, a ∈ m.upto n → a ∈ m := fun a => of_upto
    cases c with
    | lst ds => obtain ⟨vs, q, r⟩ := h; exact ⟨vs, q, r.takeB h1 h2 hbc⟩
    | dk ds => obtain ⟨vs, q, r⟩ := h; exact ⟨vs, q, r.take h1 h2 hbc⟩
    | dt ds => obtain ⟨vs, q, r⟩ := h; exact ⟨vs, q, r.take h1 h2 hbc⟩
theorem Evo.upto (e : Evo m0 m H0 H) (hn : m0.c.length = n) : Evo m0 (m.upto n) H0 H where
  pre k a h := upto_get (hn ▸ (List.getElem?_eq_some_iff.mp h).1) (e.pre k a h)
  new a h q := e.new a (of_upto h) q
  ext := e.ext
  len := by
    show _ ≤ (m.c.take n).length
    rw [List.length_take]
    have := e.len
    omega
  hid := e.hid
  keep := e.keep
theorem retD_ok {v : V} {d d' : D} {S' : Sto} (e : retD n S d = some (d', S')) (ev : Evo m0 m H0 H) (hn : m0.c.length = n) (r : R K m H v d) (st : Cells K m H S) : ∃ m', Evo m0 m' H0 H ∧ R K m' H v d' ∧ Cells K m' H S' := by
  unfold retD at e
  split at e
  · cases e
    exact ⟨m, ev, r, st⟩
  · obtain ⟨d2, e1, e⟩ := bind_some e
    split at e
    · rename_i hb
      cases e
      refine ⟨m.upto n, ev.upto hn, ?_, st.upto (by omega) hb⟩
      exact th_ok (fun k c a => st.cel k c a) (fun k a => upto_get) (fun a => of_upto) (fun k a hk _ ha => upto_out st hk ha) 6 v d d' r e1
    · cases e
end
/-! ### a def's mirror, and the def -/
def outF (n : Nat) : Fl × Sto → Option (D × Sto)
  | (.rt d, S) => retD n S d
  | (.rl c, S) => retD n S c.toD
  | (.nx _, S) => retD n S .non
  | _ => none
def mFun (n N : Nat) (body : MS) : MF := fun ds S => if ds.length = n then (body (ds.map some ++ List.replicate (N - n) none) S).bind (outF S.length) else none
theorem fnG_of {W : Wd} {k : Nat} {x qual : Str} {st : Stmt} {f : Addr} {fd : FuncData} {N ps : List Str} {sp : Sp} (F : L2.Fun W.K x qual st f fd) (S : FnScope N ps (defScope st)) (len : ∀ vs H Q E, sp vs H Q E → vs.length = ps.length)
    (hbody : ∀ (cdv : Value) (A : Around) (outer : List PySem.Env) (s : Shared) (H : Hp) (vs : List V) (Q : VK) (E : XK), Room k (A.deeper (envOfC qual (defScope st) s.heap.objs.size f cdv)) → A.guards = some [] → sp vs H Q E →
      ∃ t, PSs (cxOf CX0 W.P W.w W.K W.mg W.base N qual (defScope st) f cdv A outer s H E).nox (defBody st) t ∧ t { nx := fun _ H' => Q .non H', rt := Q } (start N vs) H) : FnG W (k + 1) f fd ps sp := by
  obtain ⟨oc, od, kV, doc, pm, an, cdv, ct, osl, rfl, lk, hcd⟩ := F.ex
  constructor
  · exact len
  intro A outer s H args us vs Q E hr hg e0 hb r hsp
  have KX : W.K.In s.heap := e0.mod.kin.keeps fun b o e => (e0.bs b o e).1
  have lim : s.heap.NoLimit := e0.mod.nolimit.keeps fun b o e => (e0.bs b o e).1
  have hkind : ∀ y ∈ ps.zip us, (defScope st).names.lookup y.1 = some .local ∨ ((defScope st).names.lookup y.1 = some .cell ∧ ((cellsFrom (s.heap.objs.size + 1) (defScope st).names []).lookup y.1).isSome = true) := by
    rintro ⟨y, v⟩ hy
    refine (S.par y (List.of_mem_zip hy).1).imp id fun q => ⟨q, ?_⟩
    exact PySem.W.cellsFrom_some _ _ _ (.inl q)
  refine codeAny_call_function hr.depth (KX _ _ lk) rfl S.co S.gen rfl (PySem.W.codeRec_of KX hcd) (hb _ _ _ _ (wpAny_newFunctionEnv_cells S.kind hkind fun env he s1 x => ?_))
  subst he
  refine ⟨lim.keeps x.toInCall.keep, codeAny_func ?_⟩
  obtain ⟨t, ht, hq⟩ := hbody cdv A outer s H vs Q E (hr.deeper _) hg hsp
  have I := inv_start (CX := CX0) (E := E) S hr.hd e0 (len _ _ _ _ hsp) r x
  refine wpAny_mono (ht.nox.run [] s1 (start N vs) H _ I hq) (fun fl s' hs => ?_) (fun _ _ q => q)
  match fl, hs with
  | .ret u, ⟨v, σ', H', J, rv, q⟩ => exact ⟨v, H', J.os, J.bare, J.base, J.hok, rv, q⟩
  | .next, ⟨σ', H', J, q⟩ => exact ⟨V.non, H', J.os, J.bare, J.base, J.hok, rfl, q⟩
  | .brk, ⟨_, _, _, q⟩ => exact False.elim q
  | .cont, ⟨_, _, _, q⟩ => exact False.elim q
abbrev gOf (W : Wd) (N : List Str) (sc : Scope) (k : Nat) : G := ⟨W.P, W.w, W.K, W.mg, W.base, N, sc, sc, k⟩
theorem on_body {W : Wd} {k : Nat} {qual : Str} {sc : Scope} {f : Addr} {N ps : List Str} (S : FnScope N ps sc) {cdv : Value} {A : Around} {outer : List PySem.Env} {s : Shared} {H : Hp} {E : XK} (hr : Room k (A.deeper (envOfC qual sc s.heap.objs.size f cdv))) (hg : A.guards = some []) :
    (gOf W N sc k).On (cxOf CX0 W.P W.w W.K W.mg W.base N qual sc f cdv A outer s H E).nox :=
  ⟨rfl, rfl, rfl, rfl, rfl, rfl, rfl, S.nd, rfl, hr, hg, PassesOwn.never, fun _ _ => rfl⟩
theorem start_rel {K : Fr} {m : Nm} {H : Hp} {S : Sto} {N : List Str} {vs : List V} {ds : List D} (rs : Rs K m H vs ds) (st : Cells K m H S) {n : Nat} (hn : N.length = n) : Rel K m H (start N vs) (ds.map some ++ List.replicate (n - ds.length) none) S := by
  subst hn
  unfold L2.start
  refine ⟨fun i d h => ?_, ?_, st⟩
  · by_cases hi : i < ds.length
    · rw [List.getElem?_append_left (by rw [List.length_map]; exact hi), List.getElem?_map] at h
      cases e : ds[i]? with
      | none =>
        rw [e] at h
        cases h
      | some d' =>
        rw [e] at h
        cases h
        obtain ⟨v, hv, rv⟩ := rs.get e
        refine ⟨v, ?_, rv⟩
        rw [List.getElem?_append_left (by rw [List.length_map, rs.len]; exact hi), List.getElem?_map, hv]
        rfl
    · rw [List.getElem?_append_right (by rw [List.length_map]; omega), List.getElem?_replicate] at h
      split at h <;> cases h
  · rw [List.length_append, List.length_append, List.length_map, List.length_map, List.length_replicate, List.length_replicate, rs.len]
/-- THE RULE for a def of the text -/
theorem fn_of {W : Wd} {k : Nat} {x qual : Str} {st : Stmt} {f : Addr} {fd : FuncData} {N ps : List Str} {body : MS} (F : L2.Fun W.K x qual st f fd) (S : FnScope N ps (defScope st)) (h : Mss (gOf W N (defScope st) k) (defBody st) body) {n nN : Nat} (hn : ps.length = n := by rfl) (hN : N.length = nN := by rfl) :
    FnG W (k + 1) f fd ps (spF W.K (mFun n nN body)) := by
  refine fnG_of F S ?_ ?_
  · rintro vs H Q E ⟨ds, S, d, S', m, e, rs, -⟩
    unfold mFun at e
    split at e
    · rename_i hl
      rw [rs.len, hl, hn]
    · cases e
  · rintro cdv A outer s H vs Q E hr hg ⟨ds, S0, d, S', m, e, rs, st0, q⟩
    obtain ⟨t, h1, h2⟩ := h.ok _ (on_body S hr hg)
    refine ⟨t, h1, ?_⟩
    unfold mFun at e
    split at e
    · rename_i hl
      obtain ⟨⟨r, S1⟩, e1, e⟩ := bind_some e
      have hr0 : Rel W.K m H (start N vs) (ds.map some ++ List.replicate (nN - n) none) S0 := by
        have := start_rel (N := N) rs st0 hN
        rw [hl] at this
        exact this
      refine h2 _ S0 r S1 e1 m H _ hr0 _ ?_
      cases r with
      | nx ρ =>
        intro σ' m' H' ev rl
        obtain ⟨m2, ev2, r2, st2⟩ := retD_ok e ev st0.len (.non (K := W.K) (m := m')) rl.st
        exact q _ m2 H' ev2 r2 st2
      | rt d1 =>
        intro v m' H' ev rv st
        obtain ⟨m2, ev2, r2, st2⟩ := retD_ok e ev st0.len rv st
        exact q _ m2 H' ev2 r2 st2
      | rl c =>
        intro p m' H' ev fr
        obtain ⟨m2, ev2, r2, st2⟩ := retD_ok e ev st0.len fr.tree fr.st
        exact q _ m2 H' ev2 r2 st2
      | bk ρ => cases e
      | ct ρ => cases e
    · cases e
theorem kn_of {W : Wd} {k : Nat} {x qual : Str} {st : Stmt} {f : Addr} {fd : FuncData} {N ps : List Str} {body : MS} (F : L2.Fun W.K x qual st f fd) (S : FnScope N ps (defScope st)) (hm : W.mg x = some (.ref f)) (hb : Binds W.K fd ps []) (h : Mss (gOf W N (defScope st) k) (defBody st) body) {n nN : Nat} (hn : ps.length = n := by rfl) (hN : N.length = nN := by rfl) :
    Kn W x (k + 1) n (mFun n nN body) :=
  ⟨f, fd, ps, fn_of F S h hn hN, hm, F.kp, hb, hn⟩

/-! ### a def that hands back a new container -/
def outL (n : Nat) : Fl × Sto → Option (C × Sto)
  | (.rl c, S) => if S.length ≤ n then some (c, S) else (thC S n c).bind fun c' => if (S.take n).all (C.below n) then some (c', S.take n) else none
  | (.rt (.obj k), S) => if k < n then none else (S[k]?).bind fun c => if c.below n && (S.take n).all (C.below n) then some (c, S.take n) else none
  | _ => none
def mFunL (n N : Nat) (body : MS) : MFL := fun ds S => if ds.length = n then (body (ds.map some ++ List.replicate (N - n) none) S).bind (outL S.length) else none
section
variable {K : Fr} {m m0 m1 : Nm} {H H0 : Hp} {S : Sto} {n : Nat} {p : Addr} {c c' : C}
/-- m.upto n with the place p: all its cells and p, by what is true from elsewhere -/
theorem Cells.plus (st : Cells K m H S) (hp : p ∉ m) (h0 : H p ≠ none) (hc : CR K (m.add p) H p c) (hS : ∀ (k : Nat) (c : C) (a : Addr), S[k]? = some c → m.c[k]? = some a → CR K (m.add p) H a c) : Cells K (m.add p) H (S ++ [c]) where
  len := by
    show (m.c ++ [p]).length = _
    rw [List.length_append, List.length_append, st.len]
    rfl
  nd := List.nodup_append.mpr ⟨st.nd, List.nodup_cons.mpr ⟨by simp, List.nodup_nil⟩, fun a ha b hb z => hp (.inl (by rw [← List.mem_singleton.mp hb, ← z]; exact ha))⟩
  apart a ha := by
    rcases List.mem_append.mp ha with ha | ha
    · exact st.apart a ha
    · rw [List.mem_singleton.mp ha]
      exact fun z => hp (.inr z)
  there a ha := st.there a ha
  cel k c' a hk ha := by
    have ha : (m.c ++ [p])[k]? = some a := ha
    by_cases hlt : k < m.c.length
    · rw [List.getElem?_append_left hlt] at ha
      rw [List.getElem?_append_left (st.len ▸ hlt)] at hk
      exact hS k c' a hk ha
    · have ek : k = m.c.length := by
        have := (List.getElem?_eq_some_iff.mp ha).1
        rw [List.length_append, List.length_singleton] at this
        omega
      subst ek
      rw [List.getElem?_append_right (Nat.le_refl _), Nat.sub_self] at ha
      rw [st.len, List.getElem?_append_right (Nat.le_refl _), Nat.sub_self] at hk
      cases ha
      cases hk
      exact hc
theorem add_get {k : Nat} {a : Addr} (h : m.c[k]? = some a) : (m.add p).c[k]? = some a := by
  show (m.c ++ [p])[k]? = some a
  rw [List.getElem?_append_left (List.getElem?_eq_some_iff.mp h).1]
  exact h
theorem of_add {a : Addr} (h : a ∈ m.add p) : a ∈ m ∨ a = p := by
  rcases h with h | h
  · rcases List.mem_append.mp h with h | h
    · exact .inl (.inl h)
    · exact .inr (List.mem_singleton.mp h)
  · exact .inl (.inr h)
theorem mem_add {a : Addr} (h : a ∈ m ∨ a = p) : a ∈ m.add p := by
  rcases h with (h | h) | h
  · exact .inl (List.mem_append_left _ h)
  · exact .inr h
  · exact .inl (List.mem_append_right _ (List.mem_singleton.mpr h))
theorem add_lt {k : Nat} {a : Addr} (hk : k < m.c.length) (h : (m.add p).c[k]? = some a) : m.c[k]? = some a := by
  have h : (m.c ++ [p])[k]? = some a := h
  rw [List.getElem?_append_left hk] at h
  exact h
theorem CR.takeB {a : Addr} (hc : ∀ (k : Nat) (a : Addr), k < n → m.c[k]? = Option.some a → m1.c[k]? = Option.some a) (hs : ∀ a, a ∈ m1 → a ∈ m) (hb : c.below n = true) (h : CR K m H a c) : CR K m1 H a c := by
  cases c with
  | lst ds => obtain ⟨vs, q, r⟩ := h; exact ⟨vs, q, r.takeB hc hs hb⟩
  | dk ds => obtain ⟨vs, q, r⟩ := h; exact ⟨vs, q, r.take hc hs hb⟩
  | dt ds => obtain ⟨vs, q, r⟩ := h; exact ⟨vs, q, r.take hc hs hb⟩
theorem CR.tree {a : Addr} (n1 : a ∉ m) (h : CR K m H a c) : R K m H (.ref a) c.toD := by
  cases c with
  | lst ds => obtain ⟨vs, q, r⟩ := h; exact .lst q n1 r
  | dk ds => obtain ⟨vs, q, r⟩ := h; exact .dk (.of q) n1 r
  | dt ds => obtain ⟨vs, q, r⟩ := h; exact .dt (.of q) n1 r
theorem thC_ok {a : Addr} (hS : ∀ (k : Nat) (c : C) (a : Addr), S[k]? = some c → m.c[k]? = some a → CR K m H a c) (hc : ∀ (k : Nat) (a : Addr), k < n → m.c[k]? = some a → m1.c[k]? = some a) (hs : ∀ a, a ∈ m1 → a ∈ m)
    (hl : ∀ (k : Nat) (a : Addr), n ≤ k → k < S.length → m.c[k]? = some a → a ∉ m1) (e : thC S n c = some c') (h : CR K m H a c) : CR K m1 H a c' := by
  cases c with
  | lst ds =>
    obtain ⟨es, e1, e⟩ := bind_some e
    cases e
    obtain ⟨vs, q, r⟩ := h
    exact ⟨vs, q, mapO_ok (fun v d d' => th_ok hS hc hs hl 6 v d d') r e1⟩
  | dk ds =>
    simp only [thC] at e
    split at e
    · cases e
      obtain ⟨vs, q, r⟩ := h
      exact ⟨vs, q, r.take hc hs (by assumption)⟩
    · cases e
  | dt ds =>
    simp only [thC] at e
    split at e
    · cases e
      obtain ⟨vs, q, r⟩ := h
      exact ⟨vs, q, r.take hc hs (by assumption)⟩
    · cases e
theorem Fresh.out (fr : Fresh K m H0 H S p c) : p ∉ m := fun h => by
  rcases h with h | h
  · have h1 := fr.one.nd
    have h2 := (List.nodup_append.mp h1).2.2
    exact h2 p h p (List.mem_singleton.mpr rfl) rfl
  · exact fr.one.apart p (List.mem_append_right _ (List.mem_singleton.mpr rfl)) h
theorem Fresh.upto (fr : Fresh K m H0 H S p c) (hn : n ≤ S.length) (hb : (S.take n).all (C.below n) = true) (e : thC S n c = some c') : Fresh K (m.upto n) H0 H (S.take n) p c' := by
  have np := fr.out
  have st2 := fr.st.upto hn hb
  have hcp : (m.add p).c[S.length]? = some p := fr.cellAt
  have c0 : CR K (m.add p) H p c := fr.one.cel S.length c p (by rw [List.getElem?_append_right (Nat.le_refl _), Nat.sub_self]; rfl) hcp
  have hS : ∀ (k : Nat) (c : C) (a : Addr), S[k]? = some c → (m.add p).c[k]? = some a → CR K (m.add p) H a c := fun k c a hk ha => fr.one.cel k c a (by rw [List.getElem?_append_left (List.getElem?_eq_some_iff.mp hk).1]; exact hk) ha
  have hlen : n ≤ m.c.length := fr.st.len ▸ hn
  have hc : ∀ (k : Nat) (a : Addr), k < n → (m.add p).c[k]? = some a → ((m.upto n).add p).c[k]? = some a := fun k a hk ha => add_get (upto_get hk (add_lt (by omega) ha))
  have hs : ∀ a, a ∈ (m.upto n).add p → a ∈ m.add p := fun a h => mem_add ((of_add h).imp of_upto id)
  have hl : ∀ (k : Nat) (a : Addr), n ≤ k → k < S.length → (m.add p).c[k]? = some a → a ∉ (m.upto n).add p := fun k a h1 h2 ha q => by
    have ha' := add_lt (by rw [fr.st.len]; exact h2) ha
    rcases of_add q with q | q
    · exact upto_out fr.st h1 ha' q
    · subst q
      exact np (.inl (List.mem_of_getElem? ha'))
  have c1 : CR K ((m.upto n).add p) H p c' := thC_ok hS hc hs hl e c0
  have np2 : p ∉ m.upto n := fun q => np (of_upto q)
  refine ⟨fr.new, st2.plus np2 c0.some c1 fun k c a hk ha => ?_, st2, ?_⟩
  · have hkn : k < n := by
      have := (List.getElem?_eq_some_iff.mp hk).1
      rw [List.length_take] at this
      omega
    have hbc : c.below n = true := List.all_eq_true.mp hb c (List.mem_of_getElem? hk)
    rw [List.getElem?_take_of_lt hkn] at hk
    have ha : (m.c.take n)[k]? = some a := ha
    rw [List.getElem?_take_of_lt hkn] at ha
    exact (hS k c a hk (add_get ha)).takeB hc hs hbc
  · have ht : R K m H (.ref p) c.toD := fr.tree
    have c2 : CR K m H p c := by
      cases c with
      | lst ds =>
        cases ht
        exact ⟨_, by assumption, by assumption⟩
      | dk ds =>
        cases ht
        rename_i kvs h1 h2 h3
        obtain ⟨vs, q, _⟩ := c0
        rcases h1 with h1 | ⟨o, h1⟩
        · exact ⟨_, h1, h3⟩
        · rw [h1] at q
          cases q
      | dt ds =>
        cases ht
        rename_i kvs h1 h2 h3
        obtain ⟨vs, q, _⟩ := c0
        rcases h1 with h1 | ⟨o, h1⟩
        · exact ⟨_, h1, h3⟩
        · rw [h1] at q
          cases q
    exact (thC_ok (fun k c a => fr.st.cel k c a) (fun k a => upto_get) (fun a => of_upto) (fun k a h1 _ ha => upto_out fr.st h1 ha) e c2).tree np2
/-- a cell of one's own is handed back -/
theorem fresh_cell {k : Nat} (st : Cells K m H S) (ev : Evo m0 m H0 H) (hn : m0.c.length = n) (hk : n ≤ k) (hp : m.c[k]? = some p) (hc : S[k]? = some c) (hb : c.below n = true) (hB : (S.take n).all (C.below n) = true) : Fresh K (m.upto n) H0 H (S.take n) p c := by
  have hnS : n ≤ S.length := by
    have := (List.getElem?_eq_some_iff.mp hc).1
    omega
  have st2 := st.upto hnS hB
  have np2 : p ∉ m.upto n := upto_out st hk hp
  have c0 := st.cel k c p hc hp
  have hpm : p ∈ m.c := List.mem_of_getElem? hp
  have h0 : H0 p = none := ev.new p (.inl hpm) fun q => by
    rcases q with q | q
    · obtain ⟨j, hj, e⟩ := List.mem_iff_getElem.mp q
      have hj2 := ev.pre j p (by rw [List.getElem?_eq_getElem hj, e])
      have := nodup_inj st.nd hj2 hp
      omega
    · exact st.apart p hpm (ev.hid p q)
  have hcc : ∀ (j : Nat) (a : Addr), j < n → m.c[j]? = some a → ((m.upto n).add p).c[j]? = some a := fun j a hj ha => add_get (upto_get hj ha)
  have hs : ∀ a, a ∈ (m.upto n).add p → a ∈ m := fun a h => by
    rcases of_add h with h | h
    · exact of_upto h
    · rw [h]
      exact .inl hpm
  refine ⟨h0, st2.plus np2 c0.some (c0.takeB hcc hs hb) fun j c a hj ha => ?_, st2, (c0.takeB (fun j a => upto_get) (fun a => of_upto) hb).tree np2⟩
  have hkn : j < n := by
    have := (List.getElem?_eq_some_iff.mp hj).1
    rw [List.length_take] at this
    omega
  have hbc : c.below n = true := List.all_eq_true.mp hB c (List.mem_of_getElem? hj)
  rw [List.getElem?_take_of_lt hkn] at hj
  have ha : (m.c.take n)[j]? = some a := ha
  rw [List.getElem?_take_of_lt hkn] at ha
  exact (st.cel j c a hj ha).takeB hcc hs hbc
end
theorem knL_of {W : Wd} {k : Nat} {x qual : Str} {st : Stmt} {f : Addr} {fd : FuncData} {N ps : List Str} {body : MS} (F : L2.Fun W.K x qual st f fd) (S : FnScope N ps (defScope st)) (hm : W.mg x = some (.ref f)) (hb : Binds W.K fd ps []) (h : Mss (gOf W N (defScope st) k) (defBody st) body) {n nN : Nat} (hn : ps.length = n := by rfl) (hN : N.length = nN := by rfl) :
    KnL W x (k + 1) n (mFunL n nN body) := by
  refine ⟨f, fd, ps, fnG_of F S ?_ ?_, hm, F.kp, hb, hn⟩
  · rintro vs H Q E ⟨ds, S, d, S', m, e, rs, -⟩
    unfold mFunL at e
    split at e
    · rename_i hl
      rw [rs.len, hl, hn]
    · cases e
  · rintro cdv A outer s H vs Q E hr hg ⟨ds, S0, d, S', m, e, rs, st0, q⟩
    obtain ⟨t, h1, h2⟩ := h.ok _ (on_body S hr hg)
    refine ⟨t, h1, ?_⟩
    unfold mFunL at e
    split at e
    · rename_i hl
      obtain ⟨⟨r, S1⟩, e1, e⟩ := bind_some e
      have hr0 : Rel W.K m H (start N vs) (ds.map some ++ List.replicate (nN - n) none) S0 := by
        have := start_rel (N := N) rs st0 hN
        rw [hl] at this
        exact this
      refine h2 _ S0 r S1 e1 m H _ hr0 _ ?_
      cases r with
      | nx ρ => cases e
      | rt d1 =>
        intro v m' H' ev rv st
        cases d1 with
        | obj k0 =>
          simp only [outL] at e
          split at e
          · cases e
          · rename_i hk
            obtain ⟨c, hc, e⟩ := bind_some e
            split at e
            · rename_i hbb
              rw [Bool.and_eq_true] at hbb
              cases e
              cases rv
              rename_i a ha
              exact q a _ H' (ev.upto st0.len) (fresh_cell st ev st0.len (by omega) ha hc hbb.1 hbb.2)
            · cases e
        | _ => cases e
      | rl c =>
        intro p m' H' ev fr
        simp only [outL] at e
        split at e
        · cases e
          exact q p m' H' ev fr
        · obtain ⟨c', ec, e⟩ := bind_some e
          split at e
          · rename_i hB
            cases e
            exact q p _ H' (ev.upto st0.len) (fr.upto (by omega) hB ec)
          · cases e
      | bk ρ => cases e
      | ct ρ => cases e
    · cases e
end Mi
namespace Mi
open PySem PySem.Spec PyProof.Rows L2

/-! ### dicts -/
def keyD : D → Option Key
  | .int i => some (.inl i)
  | .str x => some (.inr x)
  | _ => none
theorem keyD_ok {K : Fr} {m : Nm} {H : Hp} {d : D} {k : Key} {v : V} (h : keyD d = some k) (r : R K m H v d) : v = kV k := by
  cases r <;> cases h <;> rfl
def keysD : List D → Option (List Key)
  | [] => some []
  | d :: ds => (keyD d).bind fun k => (keysD ds).bind fun ks => some (k :: ks)
theorem keysD_ok {K : Fr} {m : Nm} {H : Hp} : ∀ {ds : List D} {ks : List Key} {vs : List V}, keysD ds = some ks → Rs K m H vs ds → vs = ks.map kV
  | _, _, _, e, .nil => by cases e; rfl
  | _, _, _, e, .cons r s => by
    obtain ⟨k, e1, e⟩ := bind_some e
    obtain ⟨ks, e2, e⟩ := bind_some e
    cases e
    rw [keyD_ok e1 r, keysD_ok e2 s]
    rfl
section
variable {κ : Type} [DecidableEq κ]
def valD (kvs : List (κ × D)) (k : κ) : Option D := (kvs.find? fun kv => decide (kv.1 = k)).map (·.2)
def putD (kvs : List (κ × D)) (k : κ) (v : D) : List (κ × D) :=
  if (kvs.any fun kv => decide (kv.1 = k)) = true then kvs.map (fun kv => if kv.1 = k then (kv.1, v) else kv) else kvs ++ [(k, v)]
theorem valD_cons (k k' : κ) (d : D) (r : List (κ × D)) : valD ((k', d) :: r) k = if k' = k then some d else valD r k := by
  unfold valD
  rw [List.find?_cons]
  by_cases h : k' = k
  · simp [h]
  · simp [h]
theorem valV_cons (k k' : κ) (d : V) (r : List (κ × V)) : valV ((k', d) :: r) k = if k' = k then some d else valV r k := by
  unfold valV
  rw [List.find?_cons]
  by_cases h : k' = k
  · simp [h]
  · simp [h]
end
/-- what a look-up gives: both there, or neither -/
def RO (K : Fr) (m : Nm) (H : Hp) : Option V → Option D → Prop
  | some v, some d => R K m H v d
  | none, none => True
  | _, _ => False
section
variable {K : Fr} {m m1 : Nm} {H H1 : Hp} {S : Sto}
theorem Rk.val (k : Key) : ∀ {vs : List (Key × V)} {ds : List (Key × D)}, Rk K m H vs ds → RO K m H (valV vs k) (valD ds k)
  | _, _, .nil => trivial
  | _, _, @Rk.cons _ _ _ k' v d vs ds r s => by
    rw [valV_cons, valD_cons]
    split
    · exact r
    · exact Rk.val k s
theorem Rt.val (k : List Key) : ∀ {vs : List (List Key × V)} {ds : List (List Key × D)}, Rt K m H vs ds → RO K m H (valV vs k) (valD ds k)
  | _, _, .nil => trivial
  | _, _, @Rt.cons _ _ _ k' v d vs ds r s => by
    rw [valV_cons, valD_cons]
    split
    · exact r
    · exact Rt.val k s
theorem Rk.keys (k : Key) : ∀ {vs : List (Key × V)} {ds : List (Key × D)}, Rk K m H vs ds → (vs.any fun kv => decide (kv.1 = k)) = (ds.any fun kv => decide (kv.1 = k))
  | _, _, .nil => rfl
  | _, _, .cons _ s => by rw [List.any_cons, List.any_cons, Rk.keys k s]
theorem Rt.keys (k : List Key) : ∀ {vs : List (List Key × V)} {ds : List (List Key × D)}, Rt K m H vs ds → (vs.any fun kv => decide (kv.1 = k)) = (ds.any fun kv => decide (kv.1 = k))
  | _, _, .nil => rfl
  | _, _, .cons _ s => by rw [List.any_cons, List.any_cons, Rt.keys k s]
theorem Rk.mapS {k : Key} {v : V} {d : D} (q : R K m H v d) : ∀ {vs : List (Key × V)} {ds : List (Key × D)}, Rk K m H vs ds → Rk K m H (vs.map fun kv => if kv.1 = k then (kv.1, v) else kv) (ds.map fun kv => if kv.1 = k then (kv.1, d) else kv)
  | _, _, .nil => .nil
  | _, _, .cons r s => by
    rw [List.map_cons, List.map_cons]
    split
    · exact .cons q (Rk.mapS q s)
    · exact .cons r (Rk.mapS q s)
theorem Rt.mapS {k : List Key} {v : V} {d : D} (q : R K m H v d) : ∀ {vs : List (List Key × V)} {ds : List (List Key × D)}, Rt K m H vs ds → Rt K m H (vs.map fun kv => if kv.1 = k then (kv.1, v) else kv) (ds.map fun kv => if kv.1 = k then (kv.1, d) else kv)
  | _, _, .nil => .nil
  | _, _, .cons r s => by
    rw [List.map_cons, List.map_cons]
    split
    · exact .cons q (Rt.mapS q s)
    · exact .cons r (Rt.mapS q s)
theorem Rk.app : ∀ {vs ws : List (Key × V)} {ds es : List (Key × D)}, Rk K m H vs ds → Rk K m H ws es → Rk K m H (vs ++ ws) (ds ++ es)
  | _, _, _, _, .nil, s => s
  | _, _, _, _, .cons r t, s => .cons r (Rk.app t s)
theorem Rt.app : ∀ {vs ws : List (List Key × V)} {ds es : List (List Key × D)}, Rt K m H vs ds → Rt K m H ws es → Rt K m H (vs ++ ws) (ds ++ es)
  | _, _, _, _, .nil, s => s
  | _, _, _, _, .cons r t, s => .cons r (Rt.app t s)
theorem Rk.put {k : Key} {v : V} {d : D} (q : R K m H v d) {vs : List (Key × V)} {ds : List (Key × D)} (r : Rk K m H vs ds) : Rk K m H (putK vs k v) (putD ds k d) := by
  unfold putK putD
  rw [r.keys k]
  split
  · exact r.mapS q
  · exact r.app (.cons q .nil)
theorem Rt.put {k : List Key} {v : V} {d : D} (q : R K m H v d) {vs : List (List Key × V)} {ds : List (List Key × D)} (r : Rt K m H vs ds) : Rt K m H (putK vs k v) (putD ds k d) := by
  unfold putK putD
  rw [r.keys k]
  split
  · exact r.mapS q
  · exact r.app (.cons q .nil)
theorem Rt.len : ∀ {vs : List (List Key × V)} {ds : List (List Key × D)}, Rt K m H vs ds → vs.length = ds.length
  | _, _, .nil => rfl
  | _, _, .cons _ s => by rw [List.length_cons, List.length_cons, Rt.len s]
/-- the dict with tuples as keys that is read -/
def dtOf (S : Sto) : D → Option (List (List Key × D))
  | .dt ds => some ds
  | .obj k => match S[k]? with | some (.dt ds) => some ds | _ => none
  | _ => none
theorem dtOf_ok {d : D} {ds : List (List Key × D)} {v : V} (h : dtOf S d = some ds) (r : R K m H v d) (st : Cells K m H S) : ∃ a vs, v = .ref a ∧ Rd H a (.dT vs) ∧ Rt K m H vs ds := by
  cases r
  case dt a vs ds' hl n rs => cases h; exact ⟨a, vs, rfl, hl, rs⟩
  case obj k a ha =>
    simp only [dtOf] at h
    split at h
    · rename_i ds' hs
      cases h
      obtain ⟨vs, h1, h2⟩ := st.cel k _ a hs ha
      exact ⟨a, vs, rfl, .of h1, h2⟩
    · cases h
  all_goals cases h
/-- a look-up: none: no word; some o: what is there -/
def dLook (S : Sto) (x y : D) : Option (Option D) := match y with
  | .tup ks => (dtOf S x).bind fun kvs => (keysD ks).bind fun k => some (valD kvs k)
  | y => (dkOf S x).bind fun kvs => (keyD y).bind fun k => some (valD kvs k)
theorem dLook_ok {x y : D} {o : Option D} {vx vy : V} (h : dLook S x y = some o) (rx : R K m H vx x) (ry : R K m H vy y) (st : Cells K m H S) : ∃ a ov, vx = .ref a ∧ DGet H a vy ov ∧ RO K m H ov o := by
  unfold dLook at h
  split at h
  · obtain ⟨kvs, e1, h⟩ := bind_some h
    obtain ⟨k, e2, h⟩ := bind_some h
    cases h
    obtain ⟨a, vs, rfl, hd, rt⟩ := dtOf_ok e1 rx st
    cases ry
    rename_i b ws h1 h2 h3
    have e := keysD_ok e2 h3
    subst e
    exact ⟨a, _, rfl, .inr ⟨vs, k, b, hd, rfl, h1, rfl⟩, rt.val k⟩
  · obtain ⟨kvs, e1, h⟩ := bind_some h
    obtain ⟨k, e2, h⟩ := bind_some h
    cases h
    obtain ⟨a, vs, rfl, hd, rk⟩ := dkOf_ok e1 rx st
    exact ⟨a, _, rfl, .inl ⟨vs, k, hd, keyD_ok e2 ry, rfl⟩, rk.val k⟩
end
section
variable {g : G} {o i e f' value : Expr} {pos pos' apos cpos : Pos} {fo fi f h : ME}
def mDGet (fo fi : ME) : ME := fun ρ S => (fo ρ S).bind fun x => (fi ρ x.2).bind fun y => (dLook y.2 x.1 y.1).bind fun o => o.bind fun d => some (d, y.2)
theorem ms_dget (ho : Ms g o fo) (hi : Ms g i fi) (hs : NoSl i := by exact fun _ _ => rfl) : Ms g (.Subscript o i pos) (mDGet fo fi) := ⟨fun X hX => by
  obtain ⟨t1, a1, b1⟩ := ho.ok X hX
  obtain ⟨t2, a2, b2⟩ := hi.ok X hX
  refine ⟨_, pe_dget (by have := hX.hu; omega) a1 a2 hs, fun ρ S d S' e m H σ r Q q => ?_⟩
  obtain ⟨⟨x, S1⟩, e1, e⟩ := bind_some e
  obtain ⟨⟨y, S2⟩, e2, e⟩ := bind_some e
  obtain ⟨o, e3, e⟩ := bind_some e
  obtain ⟨d', e4, e⟩ := bind_some e
  cases e
  subst e4
  refine b1 ρ S x S1 e1 m H σ r _ fun vx m1 H1 ev1 rx st1 => ?_
  refine b2 ρ S1 y _ e2 m1 H1 σ (r.evo ev1 st1) _ fun vy m2 H2 ev2 ry st2 => ?_
  obtain ⟨a, ov, rfl, hg, ro⟩ := dLook_ok e3 (rx.evo ev2.w) ry st2
  cases ov with
  | none => exact ro.elim
  | some v => exact ⟨a, v, rfl, hg, q v m2 H2 (ev1.trans ev2) ro st2⟩⟩
/-- y in d, y not in d -/
def mDIn (neg : Bool) (fi fo : ME) : ME := fun ρ S => (fi ρ S).bind fun y => (fo ρ y.2).bind fun x => (dLook x.2 x.1 y.1).bind fun o => some (.bl (if neg then !o.isSome else o.isSome), x.2)
theorem isSome_RO {K : Fr} {m : Nm} {H : Hp} {ov : Option V} {o : Option D} (r : RO K m H ov o) : ov.isSome = o.isSome := by
  cases ov <;> cases o <;> first | rfl | exact r.elim
theorem good_din {K : Fr} {ty td : TE} (h1 : GoodE K ty fi) (h2 : GoodE K td fo) : GoodE K (tDIn ty td) (mDIn false fi fo) := fun ρ S d S' e m H σ r Q q => by
  obtain ⟨⟨y, S1⟩, e1, e⟩ := bind_some e
  obtain ⟨⟨x, S2⟩, e2, e⟩ := bind_some e
  obtain ⟨o, e3, e⟩ := bind_some e
  cases e
  refine h1 ρ S y S1 e1 m H σ r _ fun vy m1 H1 ev1 ry st1 => ?_
  refine h2 ρ S1 x _ e2 m1 H1 σ (r.evo ev1 st1) _ fun vx m2 H2 ev2 rx st2 => ?_
  obtain ⟨a, ov, rfl, hg, ro⟩ := dLook_ok e3 rx (ry.evo ev2.w) st2
  refine ⟨a, ov, rfl, hg, ?_⟩
  rw [isSome_RO ro]
  exact q _ m2 H2 (ev1.trans ev2) .bl st2
theorem good_dnotin {K : Fr} {ty td : TE} (h1 : GoodE K ty fi) (h2 : GoodE K td fo) : GoodE K (tDNotIn ty td) (mDIn true fi fo) := fun ρ S d S' e m H σ r Q q => by
  obtain ⟨⟨y, S1⟩, e1, e⟩ := bind_some e
  obtain ⟨⟨x, S2⟩, e2, e⟩ := bind_some e
  obtain ⟨o, e3, e⟩ := bind_some e
  cases e
  refine h1 ρ S y S1 e1 m H σ r _ fun vy m1 H1 ev1 ry st1 => ?_
  refine h2 ρ S1 x _ e2 m1 H1 σ (r.evo ev1 st1) _ fun vx m2 H2 ev2 rx st2 => ?_
  obtain ⟨a, ov, rfl, hg, ro⟩ := dLook_ok e3 rx (ry.evo ev2.w) st2
  refine ⟨a, ov, rfl, hg, ?_⟩
  rw [isSome_RO ro]
  exact q _ m2 H2 (ev1.trans ev2) .bl st2
theorem ms_din (hi : Ms g i fi) (ho : Ms g o fo) (h1 : behindInMarks .In o = false := by rfl) : Ms g (.Compare i [.In] [o] pos) (mDIn false fi fo) := ⟨fun X hX => by
  obtain ⟨t1, a1, b1⟩ := hi.ok X hX
  obtain ⟨t2, a2, b2⟩ := ho.ok X hX
  exact ⟨_, pe_cmp (pc_din (by have := hX.hu; omega) a1 a2) h1, good_din b1 b2⟩⟩
theorem ms_dnotin (hi : Ms g i fi) (ho : Ms g o fo) (h1 : behindInMarks .NotIn o = false := by rfl) : Ms g (.Compare i [.NotIn] [o] pos) (mDIn true fi fo) := ⟨fun X hX => by
  obtain ⟨t1, a1, b1⟩ := hi.ok X hX
  obtain ⟨t2, a2, b2⟩ := ho.ok X hX
  exact ⟨_, pe_cmp (pc_dnotin (by have := hX.hu; omega) a1 a2) h1, good_dnotin b1 b2⟩⟩
theorem mt_din (hi : Ms g i fi) (ho : Ms g o fo) (h1 : behindInMarks .In o = false := by rfl) : Mt g (.Compare i [.In] [o] pos) (mT (mDIn false fi fo)) := ⟨fun X hX => by
  obtain ⟨t1, a1, b1⟩ := hi.ok X hX
  obtain ⟨t2, a2, b2⟩ := ho.ok X hX
  exact ⟨_, pt_cmp (pc_din (by have := hX.hu; omega) a1 a2) h1, goodT (good_din b1 b2)⟩⟩
theorem mt_dnotin (hi : Ms g i fi) (ho : Ms g o fo) (h1 : behindInMarks .NotIn o = false := by rfl) : Mt g (.Compare i [.NotIn] [o] pos) (mT (mDIn true fi fo)) := ⟨fun X hX => by
  obtain ⟨t1, a1, b1⟩ := hi.ok X hX
  obtain ⟨t2, a2, b2⟩ := ho.ok X hX
  exact ⟨_, pt_cmp (pc_dnotin (by have := hX.hu; omega) a1 a2) h1, goodT (good_dnotin b1 b2)⟩⟩
/-- d[y] = v, d a cell -/
def dStore (S : Sto) (x y v : D) : Option Sto := match x with
  | .obj k => match S[k]? with
    | some (.dk kvs) => (keyD y).bind fun ky => if kvs.length < sizeLine then some (S.set k (.dk (putD kvs ky v))) else none
    | some (.dt kvs) => (match y with | .tup ks => (keysD ks).bind fun ky => if kvs.length < sizeLine then some (S.set k (.dt (putD kvs ky v))) else none | _ => none)
    | _ => none
  | _ => none
theorem dStore_ok {K : Fr} {m : Nm} {H : Hp} {S S' : Sto} {x y d : D} {vx vy v : V} (h : dStore S x y d = some S') (rx : R K m H vx x) (ry : R K m H vy y) (rd : R K m H v d) (st : Cells K m H S) : ∃ a H', vx = .ref a ∧ DPut H a vy v H' ∧ Evo m m H H' ∧ Cells K m H' S' := by
  unfold dStore at h
  split at h
  · cases rx
    rename_i k a ha
    have hm := List.mem_of_getElem? ha
    split at h
    · rename_i kvs hk
      obtain ⟨ky, e1, h⟩ := bind_some h
      split at h
      · rename_i hz
        cases h
        obtain ⟨vs, h1, h2⟩ := st.cel _ _ a hk ha
        have ev := Evo.wr st hm (o := .dK (putK vs ky v))
        exact ⟨a, _, rfl, .inl ⟨vs, ky, h1, keyD_ok e1 ry, by rw [h2.len]; exact hz, rfl⟩, ev, st.wr ha ⟨_, upd_same, (h2.put rd).evo ev.w⟩⟩
      · cases h
    · rename_i kvs hk
      split at h
      · obtain ⟨ky, e1, h⟩ := bind_some h
        split at h
        · rename_i hz
          cases h
          obtain ⟨vs, h1, h2⟩ := st.cel _ _ a hk ha
          cases ry
          rename_i b ws b1 b2 b3
          have e := keysD_ok e1 b3
          subst e
          have ev := Evo.wr st hm (o := .dT (putK vs ky v))
          exact ⟨a, _, rfl, .inr ⟨vs, ky, b, h1, rfl, b1, by rw [h2.len]; exact hz, rfl⟩, ev, st.wr ha ⟨_, upd_same, (h2.put rd).evo ev.w⟩⟩
        · cases h
      · cases h
    · cases h
  · cases h
def mDSet (fv fo fi : ME) : MS := fun ρ S => (fv ρ S).bind fun v => (fo ρ v.2).bind fun x => (fi ρ x.2).bind fun y => (dStore y.2 x.1 y.1 v.1).bind fun S' => some (.nx ρ, S')
theorem mst_dset {fv : ME} (hv : Ms g value fv) (ho : Ms g o fo) (hi : Ms g i fi) (hs : ∀ env : PySem.Env, swapsWith value (some (.Subscript o i pos')) pos.line env = pure false := by intro _; rfl) : Mst g (.Assign [.Subscript o i pos'] value pos) (mDSet fv fo fi) := ⟨fun X hX => by
  obtain ⟨t0, a0, b0⟩ := hv.ok X hX
  obtain ⟨t1, a1, b1⟩ := ho.ok X hX
  obtain ⟨t2, a2, b2⟩ := hi.ok X hX
  refine ⟨_, ps_dput (by have := hX.hu; omega) a1 a2 a0 (hs _), fun ρ S r S' e m H σ rl Dn q => ?_⟩
  obtain ⟨⟨v, S0⟩, e0, e⟩ := bind_some e
  obtain ⟨⟨x, S1⟩, e1, e⟩ := bind_some e
  obtain ⟨⟨y, S2⟩, e2, e⟩ := bind_some e
  obtain ⟨S3, e3, e⟩ := bind_some e
  cases e
  refine b0 ρ S v S0 e0 m H σ rl _ fun vv m0 H0 ev0 rv st0 => ?_
  refine b1 ρ S0 x S1 e1 m0 H0 σ (rl.evo ev0 st0) _ fun vx m1 H1 ev1 rx st1 => ?_
  refine b2 ρ S1 y S2 e2 m1 H1 σ ((rl.evo ev0 st0).evo ev1 st1) _ fun vy m2 H2 ev2 ry st2 => ?_
  obtain ⟨a, H3, rfl, h1, ev3, st3⟩ := dStore_ok e3 (rx.evo ev2.w) ry (rv.evo (ev1.trans ev2).w) st2
  have ev := ((ev0.trans ev1).trans ev2).trans ev3
  exact ⟨a, H3, rfl, h1, q σ m2 H3 ev (rl.evo ev st3)⟩⟩
/-- d.get(k, x) -/
def isDB (S : Sto) (x : D) : Bool := (dkOf S x).isSome || (dtOf S x).isSome
theorem isDB_ok {K : Fr} {m : Nm} {H : Hp} {S : Sto} {x : D} {v : V} (h : isDB S x = true) (r : R K m H v x) (st : Cells K m H S) : ∃ a, v = .ref a ∧ IsD H a := by
  unfold isDB at h
  rw [Bool.or_eq_true] at h
  rcases h with h | h
  · obtain ⟨ds, e⟩ := Option.isSome_iff_exists.mp h
    obtain ⟨a, vs, rfl, hd, _⟩ := dkOf_ok e r st
    exact ⟨a, rfl, .inl ⟨vs, hd⟩⟩
  · obtain ⟨ds, e⟩ := Option.isSome_iff_exists.mp h
    obtain ⟨a, vs, rfl, hd, _⟩ := dtOf_ok e r st
    exact ⟨a, rfl, .inr ⟨vs, hd⟩⟩
def mDGet2 (fo fi f : ME) : ME := fun ρ S => (fo ρ S).bind fun x => if isDB x.2 x.1 = true then (fi ρ x.2).bind fun y => (f ρ y.2).bind fun z => (dLook z.2 x.1 y.1).bind fun o => some (o.getD z.1, z.2) else none
theorem ms_dget2 (ho : Ms g o fo) (hi : Ms g i fi) (hf : Ms g e f) (hm : ∀ X, M2 X o "get" apos i e cpos := by intro X; exact ⟨rfl, rfl, rfl, rfl⟩) : Ms g (.Call (.Attribute o "get" apos) [i, e] [] cpos) (mDGet2 fo fi f) := ⟨fun X hX => by
  obtain ⟨t1, a1, b1⟩ := ho.ok X hX
  obtain ⟨t2, a2, b2⟩ := hi.ok X hX
  obtain ⟨t3, a3, b3⟩ := hf.ok X hX
  refine ⟨_, pe_dget2 (by have := hX.hu; omega) a1 a2 a3 (hm X), fun ρ S d S' e m H σ r Q q => ?_⟩
  obtain ⟨⟨x, S1⟩, e1, e⟩ := bind_some e
  split at e
  · rename_i hd
    obtain ⟨⟨y, S2⟩, e2, e⟩ := bind_some e
    obtain ⟨⟨z, S3⟩, e3, e⟩ := bind_some e
    obtain ⟨o, e4, e⟩ := bind_some e
    cases e
    refine b1 ρ S x S1 e1 m H σ r _ fun vx m1 H1 ev1 rx st1 => ?_
    obtain ⟨a, rfl, hD⟩ := isDB_ok hd rx st1
    refine ⟨a, rfl, hD, b2 ρ S1 y S2 e2 m1 H1 σ (r.evo ev1 st1) _ fun vy m2 H2 ev2 ry st2 => ?_⟩
    refine b3 ρ S2 z _ e3 m2 H2 σ ((r.evo ev1 st1).evo ev2 st2) _ fun vz m3 H3 ev3 rz st3 => ?_
    obtain ⟨a', ov, ea, hg, ro⟩ := dLook_ok e4 ((rx.evo ev2.w).evo ev3.w) (ry.evo ev3.w) st3
    cases ea
    refine ⟨ov, hg, q _ m3 H3 ((ev1.trans ev2).trans ev3) ?_ st3⟩
    cases ov <;> cases o
    · exact rz
    · exact ro.elim
    · exact ro.elim
    · exact ro
  · cases e⟩
end
end Mi
namespace Mi
open PySem PySem.Spec PyProof.Rows L2

/-! ### the law's own call -/
section
variable {P : Program} {w : World} {K : Fr} {mg mb : Str → Option Value} {k : Nat} {fa a : Addr} {fd : FuncData} {x : Str} {sp : Sp} {s₁ : Shared} {vs : List Value} {ns : List Int}
/-- from an abstract heap H in which at most the script is tracked -/
theorem law_core (KX : K.In s₁.heap) (hns : s₁.heap.Ns mainGlobals mg) (hb : s₁.heap.Ns builtinsNs mb) (hbb : ∀ x : Str, x ≠ "__name__" → mb x = bootBuiltins x) (hlim : s₁.heap.NoLimit) (hg : s₁.gens = #[])
    (ha : s₁.heap.get? a = some { cls := .type "list", data := .seq vs.toArray }) (hr : Room k callerA) (F : ∀ base : Heap, K.In base → base.Ns mainGlobals mg → FnG ⟨P, w, K, mg, base⟩ k fa fd [x] sp) (hbind : ∀ (s : Shared) (u : Value), BindsTo s fd ⟨[u], []⟩ [(x, u)])
    {H : Hp} (hO : Only H) (hok : HOk P w H s₁.heap) (hA : ∀ b, H b ≠ none → b = a) (hK : H a ≠ none → K.lookup a = none) (hsp : sp [.ref a] H (fun v _ => v = .bl true) fun _ _ _ => False) :
    codeAny (model P w) callerA (.call (.ref fa) ⟨[.ref a], []⟩) (fun r s' => r = .ok (.ret (.bool true)) ∧ OldK s₁.heap s'.heap ∧ s'.os = s₁.os ∧ AllBare s'.gens) s₁ := by
  have free : ∀ {b : Addr}, b ≠ a → H b = none := fun {b} n => by
    cases q : H b with
    | none => rfl
    | some u => exact absurd (hA b (by rw [q]; intro z; cases z)) n
  have noA : ∀ {b : Addr} {o : Obj} {es : Array DictEntry} {ep : Nat}, s₁.heap.get? b = some o → o.data = .dict es ep → H b = none := fun {b o es ep} e d =>
    free fun z => by
      rw [z, ha] at e
      cases e
      cases (show Data.seq vs.toArray _ = Data.dict es ep from d)
  have nsK : ∀ {b : Addr} {m : Str → Option Value}, s₁.heap.Ns b m → (hidT s₁.heap H).Ns b m := by
    rintro b m ⟨o, es, ep, e, d, r⟩
    exact ⟨o, es, ep, hidT_get e (noA e d), d, r⟩
  have hKb : K.In (hidT s₁.heap H) := by
    intro b o e
    refine hidT_get (KX b o e) ?_
    cases q : H b with
    | none => rfl
    | some u =>
      have hne : H b ≠ none := by rw [q]; intro z; cases z
      have e' := hA b hne
      subst e'
      rw [hK hne] at e
      cases e
  obtain ⟨mc, l1, l2⟩ := hlim
  have hM : Mod K mg (hidT s₁.heap H) := ⟨hKb, nsK hns, ⟨mb, nsK hb, hbb⟩, mc, nsK l1, l2⟩
  have nof : ∀ b, b ∉ frs [] := fun b z => by cases z
  have e0 : Env0 P w K mg (hidT s₁.heap H) callerA [] s₁ H := ⟨rfl, hM, fun b o e => of_hidT e, Nat.le_of_eq (hidT_size _ _), trivial, fun b z => absurd z (nof b), hok, .of_eq hg⟩
  have run := (F _ hKb (nsK hns)).run callerA [] s₁ H ⟨[.ref a], []⟩ [.ref a] [.ref a] _ _ hr rfl e0 (hbind s₁ (.ref a)) (.cons rfl .nil) hsp
  refine codeAny_mono run fun r s' h => ?_
  match r, h with
  | .error _, h => exact False.elim h
  | .ok .next, h => exact False.elim h
  | .ok .brk, h => exact False.elim h
  | .ok .cont, h => exact False.elim h
  | .ok (.ret u), ⟨v, H', os, bare, un, hok', r', q⟩ =>
    have q' : v = .bl true := q
    subst q'
    cases r'
    refine ⟨rfl, OldK.of_keep fun b o e => ?_, os, bare⟩
    cases q2 : H b with
    | none => exact un.keep b o e q2 (nof b) (fun z => by cases z)
    | some u =>
      rcases hO b with z | ⟨ob, xs, z⟩
      · rw [q2] at z
        cases z
      · have e1 := (hok b _ z).1
        rw [e] at e1
        cases e1
        exact (hok' b _ (un.frzs b o _ z)).1
theorem law_callG (KX : K.In s₁.heap) (hns : s₁.heap.Ns mainGlobals mg) (hb : s₁.heap.Ns builtinsNs mb) (hbb : ∀ x : Str, x ≠ "__name__" → mb x = bootBuiltins x) (hlim : s₁.heap.NoLimit) (hg : s₁.gens = #[])
    (ha : s₁.heap.get? a = some { cls := .type "list", data := .seq vs.toArray }) (hi : IntsAre vs ns) (hl : ns.length ≤ sizeLine) (hr : Room k callerA) (F : ∀ base : Heap, K.In base → base.Ns mainGlobals mg → FnG ⟨P, w, K, mg, base⟩ k fa fd [x] sp) (hbind : ∀ (s : Shared) (u : Value), BindsTo s fd ⟨[u], []⟩ [(x, u)])
    (hsp : ∀ H : Hp, Only H → SqL K H a (ns.map V.int) → sp [.ref a] H (fun v _ => v = .bl true) fun _ _ _ => False) :
    codeAny (model P w) callerA (.call (.ref fa) ⟨[.ref a], []⟩) (fun r s' => r = .ok (.ret (.bool true)) ∧ OldK s₁.heap s'.heap ∧ s'.os = s₁.os ∧ AllBare s'.gens) s₁ := by
  have rv := vals_ints hi
  have lenV := hi.length
  cases hk : K.lookup a with
  | some o =>
    have e := KX a o hk
    rw [ha] at e
    cases e
    have hO : Only noH := fun _ => .inl rfl
    refine law_core KX hns hb hbb hlim hg ha hr F hbind hO (fun b u z => by cases z) (fun b z => absurd rfl z) (fun z => absurd rfl z) (hsp _ hO (.inr ⟨_, vs.toArray, _, hk, rfl, rfl, rfl, ?_, by simpa using rv⟩))
    rw [List.size_toArray, lenV]
    exact hl
  | none =>
    have hO : Only (upd noH a (.frz { cls := .type "list", data := .seq vs.toArray } (.lst (ns.map V.int)))) := fun b => by
      by_cases h : b = a
      · rw [h]
        exact .inr ⟨_, _, upd_same⟩
      · exact .inl (upd_ne h)
    refine law_core KX hns hb hbb hlim hg ha hr F hbind hO (fun b u z => ?_) (fun b z => ?_) (fun _ => hk) (hsp _ hO (.inl (.inr ⟨_, upd_same⟩)))
    · by_cases h : b = a
      · subst h
        rw [upd_same] at z
        cases z
        exact ⟨ha, by rw [List.length_map]; exact hl, vs, _, rv, ha⟩
      · rw [upd_ne h] at z
        cases z
    · by_cases h : b = a
      · exact h
      · exact absurd (upd_ne h) z
end
/-- the law's def keeps the promise of its mirror: the row holds -/
theorem walk_G {l : PySem.W.OpenLaw} {q : Program} {loose : List Str} {XP : (Str → Option Value) → Heap → Prop} {YP : World → Heap → Prop} {d : DefRec} {K : Params → PySem.W.Frag} {k : Nat} {x : Str} (hn : l.most = some 63) (hdf : d.params.defaults = []) (hr : Room k callerA)
    (hY : ∀ (w : World) (h : Heap), YP w h → (K w.params).In h) (M : (w : World) → MF)
    (F : ∀ (w : World) (mg : Str → Option Value) (fa : Addr) (h : Heap), (K w.params).In h → h.Ns mainGlobals mg → mg d.name = some (.ref fa) →
      ∃ fd : FuncData, (∀ (s : Shared) (u : Value), BindsTo s fd ⟨[u], []⟩ [(x, u)]) ∧ ∀ base : Heap, (K w.params).In base → base.Ns mainGlobals mg → FnG ⟨l.prog, w, K w.params, mg, base⟩ k fa fd [x] (spF (K w.params) (M w)))
    (hM : ∀ (w : World) (ns : List Int), ns.length ≤ 63 → (∀ z ∈ ns, Builtin.Int.intBits z ≤ 1048576) → ∃ S', M w [.fzl (ns.map D.int)] [] = some (.bl true, S')) : PySem.W.WalkO q loose XP YP l.row.toRowW d [] (fun f vs => PySem.call f vs) := by
  refine Att.attach_callB hn hdf fun w s₀ s₁ mg mb fa o pm cd doc a vs ns G Y ho hd hcd hmg hobj hints hlen hbits hg => ?_
  have KX := hY w _ Y
  obtain ⟨fd, hb, hF⟩ := F w mg fa _ KX G.T.g hmg
  obtain ⟨S', eM⟩ := hM w ns hlen hbits
  refine law_callG KX G.T.g G.T.b G.T.builtins G.T.nolimit hg hobj hints (Nat.le_trans hlen (by decide)) hr hF hb fun H hO hS => ?_
  have hS' : Lp (K w.params) ⟨[], []⟩ H a (ns.map V.int) := by
    rcases hS with h | h
    · exact .inl ⟨h, fun z => by rcases z with z | z <;> cases z⟩
    · exact .inr (.inr h)
  exact ⟨[.fzl (ns.map D.int)], [], .bl true, S', ⟨[], []⟩, eM, .cons (.fzl hS' (Rs.ints ns)) .nil, ⟨rfl, List.nodup_nil, fun a h => (nomatch h), fun a h => (nomatch h), fun k c a h => by cases h⟩, fun v m' H' _ rv _ => by
    cases rv
    rfl⟩

/-! ### xs[i] op= v -/
theorem pget_list {X : Cx} : PGet X (fun x y H Q => ∃ (p : Addr) (xs : List V) (j : Nat) (v : V), x = .ref p ∧ y = .int (j : Int) ∧ SqL X.K H p xs ∧ xs[j]? = some v ∧ Q v H) := by
  intro pins s σ H o i ov iv Q I ro ri h
  obtain ⟨p, xs, j, v, rfl, rfl, hp, hv, q⟩ := h
  cases ro
  obtain ⟨t, rfl⟩ := ri
  obtain ⟨its, r, pl, hz⟩ := I.list hp
  obtain ⟨u, hu, ru⟩ := r.get hv
  have hl := r.length
  have hj := (List.getElem?_eq_some_iff.mp hu).1
  have h63 := line63
  exact wpAny_getItem_list pl.isList (Int.natCast_nonneg j) (by omega) (by simpa using hu) ⟨v, H, I, ru, q⟩
section
variable {g : G} {o i e : Expr} {pos tpos : Pos} {fo fi f : ME}
def mAugL (r : Int → Int → Int) (fo fi f : ME) : MS := fun ρ S => (fo ρ S).bind fun x => (fi ρ x.2).bind fun y => match y.1 with
  | .int (.ofNat j) => (cellL y.2 x.1).bind fun c => match c.2[j]? with
    | some (.int n) => (f ρ y.2).bind fun z => match z.1 with
      | .int k => (cellL z.2 x.1).bind fun c' => if j < c'.2.length then some (.nx ρ, z.2.set c'.1 (.lst (c'.2.set j (.int (r n k))))) else none
      | _ => none
    | _ => none
  | _ => none
theorem mst_augL {op : Operator} {r : Int → Int → Int} (ho : Ms g o fo) (hi : Ms g i fi) (he : Ms g e f) (hop : ∀ X : Cx, PIp X op (ipI r)) (ha : ∀ ov iv new, augStore i ov iv new = (do holding [new, ov, iv] (setItem ov iv new); release [new, ov, iv] []; pure .next) := by intros; rfl) :
    Mst g (.AugAssign (.Subscript o i tpos) op e pos) (mAugL r fo fi f) := ⟨fun X hX => by
  obtain ⟨t1, a1, b1⟩ := ho.ok X hX
  obtain ⟨t2, a2, b2⟩ := hi.ok X hX
  obtain ⟨t3, a3, b3⟩ := he.ok X hX
  refine ⟨_, ps_augS a1 a2 pget_list a3 (hop X) set_list ha, fun ρ S r' S' e m H σ rl Dn q => ?_⟩
  obtain ⟨⟨x, S1⟩, e1, e⟩ := bind_some e
  obtain ⟨⟨y, S2⟩, e2, e⟩ := bind_some e
  split at e
  · rename_i j hj
    have hy : y = .int (.ofNat j) := hj
    subst hy
    obtain ⟨⟨k1, ds⟩, e3, e⟩ := bind_some e
    split at e
    · rename_i n hn
      obtain ⟨⟨z, S3⟩, e4, e⟩ := bind_some e
      split at e
      · rename_i k2 hk
        have hz : z = .int k2 := hk
        subst hz
        obtain ⟨⟨k3, es⟩, e5, e⟩ := bind_some e
        split at e
        · rename_i hlt
          cases e
          refine b1 ρ S x S1 e1 m H σ rl _ fun vx m1 H1 ev1 rx st1 => ?_
          refine b2 ρ S1 _ S2 e2 m1 H1 σ (rl.evo ev1 st1) _ fun vy m2 H2 ev2 ry st2 => ?_
          cases ry
          have rx2 := rx.evo ev2.w
          obtain ⟨a, vs, rfl, h1, h2, h3⟩ := cellL_ok e3 rx2 st2
          obtain ⟨v, hv, rv⟩ := h3.get hn
          cases rv
          refine ⟨a, vs, j, _, rfl, rfl, SqL.of h2, hv, ?_⟩
          refine b3 ρ S2 _ S3 e4 m2 H2 σ ((rl.evo ev1 st1).evo ev2 st2) _ fun vz m3 H3 ev3 rz st3 => ?_
          cases rz
          refine ⟨n, k2, rfl, rfl, ?_⟩
          obtain ⟨a', ws, ea, h4, h5, h6⟩ := cellL_ok e5 (rx2.evo ev3.w) st3
          cases ea
          obtain ⟨ev4, st4⟩ := wrL st3 h4 (h6.set j (.int (i := r n k2)))
          have hj2 : ixN ws.length ((j : Nat) : Int) = some j := by
            unfold ixN
            have hlt' : j < es.length := hlt
            rw [if_pos (Int.natCast_nonneg j), if_pos (by rw [h6.len]; exact Int.ofNat_lt.mpr hlt')]
            rfl
          have ev := ((ev1.trans ev2).trans ev3).trans ev4
          exact ⟨a, ws, _, j, rfl, rfl, h5, hj2, q σ m3 _ ev (rl.evo ev st4)⟩
        · cases e
      · cases e
    · cases e
  · cases e⟩
end
end Mi
namespace Mi
open PySem PySem.Spec PyProof.Rows L2

/-! ### len(set(t)), t a tuple of ints -/
def dedup : List Int → List Int
  | [] => []
  | n :: r => if n ∈ r then dedup r else n :: dedup r
theorem mem_dedup {k : Int} : ∀ {ns : List Int}, k ∈ dedup ns ↔ k ∈ ns
  | [] => Iff.rfl
  | n :: r => by
    unfold dedup
    have ih := @mem_dedup k r
    split
    · rename_i h
      rw [ih, List.mem_cons]
      constructor
      · exact .inr
      · rintro (e | e)
        · rw [e]
          exact h
        · exact e
    · rw [List.mem_cons, List.mem_cons, ih]
theorem nodup_dedup : ∀ ns : List Int, (dedup ns).Nodup
  | [] => List.nodup_nil
  | n :: r => by
    unfold dedup
    split
    · exact nodup_dedup r
    · rename_i h
      exact List.nodup_cons.mpr ⟨fun q => h (mem_dedup.mp q), nodup_dedup r⟩
theorem nodup_le : ∀ {l m : List Int}, l.Nodup → (∀ k, k ∈ l → k ∈ m) → l.length ≤ m.length
  | [], _, _, _ => Nat.zero_le _
  | k :: l, m, hn, hs => by
    have hk := hs k List.mem_cons_self
    obtain ⟨hn1, hn2⟩ := List.nodup_cons.mp hn
    have ih := @nodup_le l (m.erase k) hn2 fun j hj => (List.mem_erase_of_ne fun e : j = k => hn1 (by rw [← e]; exact hj)).mpr (hs j (List.mem_cons_of_mem _ hj))
    rw [List.length_erase_of_mem hk] at ih
    have := List.length_pos_of_mem hk
    rw [List.length_cons]
    omega
theorem nodup_len {l m : List Int} (h1 : l.Nodup) (h2 : m.Nodup) (h : ∀ k, k ∈ l ↔ k ∈ m) : l.length = m.length :=
  Nat.le_antisymm (nodup_le h1 fun k => (h k).mp) (nodup_le h2 fun k => (h k).mpr)
section
variable {g : G} {a : Expr} {p p2 q pos : Pos} {f : ME}
def tLenSetT (K : Fr) (ta : TE) : TE := fun σ H Q => ta σ H fun x H1 => ∃ (l : Addr) (ns : List Int), x = .ref l ∧ SqT K H1 l (ns.map V.int) ∧ ns.length ≤ 4000 ∧ Q (.int ((dedup ns).length : Nat)) H1
theorem pe_lenSetT {X : Cx} {ta : TE} (hg : Gl X "len") (hm : X.mg "len" = none) (hg2 : Gl X "set") (hm2 : X.mg "set" = none) (ha : PE X a ta) (hc : X.calm = true)
    (na : starEach [a] X.env = (false, eval a X.env) :: starEach [] X.env) : PE X (.Call (.Name "len" p) [.Call (.Name "set" p2) [a] [] q] [] pos) (tLenSetT X.K ta) := by
  constructor
  intro pins s σ H Q I h
  refine Call_ (ld_blt I hg hm boot_len (PyProof.Rows.callWith_builtin1 (PyProof.Rows.args_cons ?_ rfl) rfl rfl))
  refine Call_ (ld_blt I hg2 hm2 boot_set (PyProof.Rows.callWith_type1 (PyProof.Rows.args_cons (thn (ha.run pins s σ H _ I h) fun v s1 hx => PyProof.Rows.args_nil ?_) na) na rfl))
  obtain ⟨x, H1, I1, r1, l, ns, rfl, hq, hl, q1⟩ := hx
  cases r1
  obtain ⟨its, r, pl, hz⟩ := I1.tuple hq
  have hb : ns.length + 1 < scanBound := by unfold scanBound; omega
  have hi : IntsAre its.toArray.toList ns := by simpa using intsAre_of r
  refine call_set_tupI ns (I1.ok.hd hc) pl hi hb fun h' tk c hS hc' hk => PyProof.Rows.args_nil ?_
  obtain ⟨o, es, ep, t, ho, hex, hd, h1, h2, h3, h4, h5, h6, -⟩ := hS
  have hlen : es.size = (dedup ns).length := by
    rw [← Array.length_toList, ← List.length_map (f := L2.keyOf)]
    refine nodup_len h2 (nodup_dedup ns) fun k => ?_
    rw [mem_dedup, ← h3 k]
    simp
  have I2 : Inv X pins σ H1 { s1 with heap := h', toks := tk } := I1.kept fun b o e => hk b o e
  exact call_len_set ho hex hd h5 (by unfold scanBound at h4; omega) ⟨.int ((dedup ns).length : Nat), H1, I2.tok _, ⟨_, by rw [hlen]⟩, q1⟩
def mLenSet (f : ME) : ME := fun ρ S => (f ρ S).bind fun x => (tupOf x.1).bind fun ds => (asInts ds).bind fun ns => if ns.length ≤ 4000 then some (.int ((dedup ns).length : Nat), x.2) else none
theorem ms_lenSet (hm : g.mg "len" = none) (hm2 : g.mg "set" = none) (ha : Ms g a f) (hg : glB g.sc "len" = true) (hg2 : glB g.sc "set" = true) (na : ∀ env : PySem.Env, starEach [a] env = (false, eval a env) :: starEach [] env := by intro _; rfl) :
    Ms g (.Call (.Name "len" p) [.Call (.Name "set" p2) [a] [] q] [] pos) (mLenSet f) := ⟨fun X hX => by
  obtain ⟨t, h1, h2⟩ := ha.ok X hX
  refine ⟨_, pe_lenSetT (glB_ok hX hg).1 (by rw [hX.mg]; exact hm) (glB_ok hX hg2).1 (by rw [hX.mg]; exact hm2) h1 hX.calm (na _), fun ρ S d S' e m H σ r Q q => ?_⟩
  obtain ⟨⟨x, S1⟩, e1, e⟩ := bind_some e
  obtain ⟨ds, e2, e⟩ := bind_some e
  obtain ⟨ns, e3, e⟩ := bind_some e
  split at e
  · rename_i hl
    cases e
    refine h2 ρ S x _ e1 m H σ r _ fun v m1 H1 ev rv st => ?_
    obtain ⟨ad, vs, rfl, hs, rs⟩ := tupOf_ok e2 rv
    have hv := asInts_ok e3 rs
    subst hv
    exact ⟨ad, ns, rfl, by rw [hX.K]; exact hs, hl, q _ m1 H1 ev .int st⟩
  · cases e⟩
end
/-! ### enumerate(t), t a tuple -/
theorem meets_enum0 {v : Value} {o : Obj} {H : Heap → Prop} (B : Begins v o H) :
    Meets (Builtin.«enumerate.__new__» ⟨[.type "enumerate", v], []⟩) (fun _ R s => H s.heap ∧
      R (.ok (.ret (.ref (s.heap.push o).objs.size))) { s with heap := (s.heap.push o).push { cls := .type "enumerate", data := .fields #[.none, .bool false, .ref s.heap.objs.size, rawInt 0, .none, .none] } }) :=
  .of_wp fun prog w A R s h => by
    obtain ⟨hp, g, d, tk, os⟩ := s
    obtain ⟨h1, h⟩ := h
    have hsub := sub_enumerate
    have q1 : ∀ {A' : Around} {E : Value → Shared → Prop} {Q : Value → Shared → Prop}, Q (.ref hp.objs.size) ⟨hp.push o, g, d, tk, os⟩ → wpAny (model prog w) A' (pyIter v) Q E ⟨hp, g, d, tk, os⟩ := fun q => B.iter prog w _ _ ⟨hp, g, d, tk, os⟩ _ h1 q
    wp_walk
    refine wpAny_stack_any fun st => wpAny_pure ?_
    split
    · rename_i c _ _ _ _ _
      cases (c == Value.type "enumerate")
      · wp_walk using q1
        exact ⟨_, rfl, h⟩
      · wp_walk using q1
        exact ⟨_, rfl, h⟩
    · wp_walk using q1
      exact ⟨_, rfl, h⟩
theorem call_enum0 {prog : Program} {w : World} {A : Around} {E : Value → Shared → Prop} {s : Shared} {v : Value} {o : Obj} {H : Heap → Prop} {Q : Value → Shared → Prop} (B : Begins v o H) (h1 : H s.heap)
    (h : ∀ h', IsEnum h' (s.heap.objs.size + 1) s.heap.objs.size 0 .none → h'.get? s.heap.objs.size = some o → h'.objs.size = s.heap.objs.size + 2 →
      (∀ b o, s.heap.get? b = some o → h'.get? b = some o) → Q (.ref (s.heap.objs.size + 1)) { s with heap := h' }) :
    wpAny (model prog w) A (call (.type "enumerate") [v]) Q E s := by
  refine callType_new F.called_enumerate (by decide) (F.typeCall_enumerate_1 _) (F.newCall_enumerate_1 _) (fun obj => F.args_object_init_2 obj _) F.entry_enumerate_new (meets_enum0 B) ⟨h1, ?_⟩
  have hz : (s.heap.push o).objs.size = s.heap.objs.size + 1 := Heap.size_push ..
  show _ ∧ _
  rw [hz]
  have he : IsEnum ((s.heap.push o).push { cls := .type "enumerate", data := .fields #[.none, .bool false, .ref s.heap.objs.size, rawInt 0, .none, .none] }) (s.heap.objs.size + 1) s.heap.objs.size 0 .none := by
    have z := Heap.get?_push_size (s.heap.push o) (o := { cls := .type "enumerate", data := .fields #[.none, .bool false, .ref s.heap.objs.size, rawInt 0, .none, .none] }) rfl
    rw [hz] at z
    exact z
  refine ⟨⟨_, he, rfl⟩, h _ he (Heap.get?_push_of_some _ (Heap.get?_push_size _ B.free)) ?_ fun b o x => Heap.get?_push_of_some _ (Heap.get?_push_of_some _ x)⟩
  rw [Heap.size_push, hz]
theorem enum_endT {prog : Program} {w : World} {A : Around} {s : Shared} {E : Value → Shared → Prop} {e it l : Addr} {i : Nat} {items : Array Value} {old : Value} {Q : Option Value → Shared → Prop} (hh : A.in1.handled = none)
    (he : IsEnum s.heap e it i old) (hit : s.heap.IsTupleIter it l i) (hl : s.heap.IsTuple l items) (hx : items[i]? = none)
    (hQ : ∀ h', Heap.ExtBut it s.heap h' → Q none { s with heap := h' }) : wpAny (model prog w) A (pyNext (.ref e)) Q E s := by
  have hT : s.TypeIs (.ref e) "enumerate" := ⟨_, he, rfl⟩
  unfold pyNext
  refine wpAny_bind (wpAny_attempt (wpAny_callSpecial?_slot (name := Str.ofString "__next__") hT F.slot_enumerate_next (wpAny_call_entry F.slot_enumerate_next hT F.entry_enumerate_next ?_ (F.args_enumerate_next_1 _))))
  show wpAny _ _ (field (.ref e) 2 >>= _) _ _ _
  refine wpAny_bind (wpAny_field he rfl (x := .ref it) rfl ?_)
  refine wpAny_bind (wpAny_nextOf_tuple_end hh hit hl hx fun h' x he2 hx' => ?_)
  obtain ⟨o, ho, hc⟩ := hx'
  exact wpAny_bind (wpAny_isInstance (T := "StopIteration") (b := true) ⟨o, ho, hc⟩ isSubtype_stop (wpAny_pure (hQ _ he2)))
/-- the tuple at a, each item in a new pair -/
def ItEt (K : Fr) (a : Addr) : It :=
  ⟨fun i H => ∃ (xs : List V) (x : V), SqT K H a xs ∧ xs[i]? = some x, fun i H v H' => ∃ T x, v = .ref T ∧ H T = none ∧ H' = upd H T (.tup [.int (i : Nat), x]) ∧ ∀ xs, SqT K H a xs → xs[i]? = some x, fun i H => ∃ xs : List V, SqT K H a xs ∧ xs.length ≤ i⟩
theorem turn_enumT {P : Program} {w : World} {K : Fr} {elts : List Expr} {kk : Nat} {tpos : Pos} (a e it : Addr) :
    Turn P w K (.Tuple elts kk tpos) (ItEt K a) [e, it] e (fun i h => (∃ old, IsEnum h e it ((i : Nat) : Int) old) ∧ h.IsTupleIter it a i ∧ e ≠ it ∧ a ≠ it ∧ a ≠ e) where
  mem := List.mem_cons_self
  obj := by
    rintro i h ⟨⟨old, he⟩, ⟨o, ho, hc, hd⟩, -⟩ b hb
    rcases List.mem_cons.mp hb with z | z
    · rw [z]
      exact ⟨_, he, fun v q => nomatch q⟩
    · rw [List.mem_singleton.mp z]
      exact ⟨o, ho, fun v q => by rw [hd] at q; cases q⟩
  keep := by
    rintro i h h' ⟨⟨old, he⟩, hi, hne⟩ k
    exact ⟨⟨old, k e List.mem_cons_self _ he⟩, hi.at fun o q => k it (List.mem_cons_of_mem _ List.mem_cons_self) o q, hne⟩
  item := by
    intro X hP hw hK hc i pins s σ H E I hf st hg
    subst hP hw hK
    obtain ⟨⟨old, he⟩, hit, hne, hai, hae⟩ := st
    obtain ⟨xs, x, hq, hx⟩ := hg
    obtain ⟨its, rv, pl, hz⟩ := I.tuple hq
    obtain ⟨u, hu, ru⟩ := rv.get hx
    have hel : e < s.heap.objs.size := Heap.lt_size he
    have hil : it < s.heap.objs.size := by
      obtain ⟨_, q, _⟩ := hit
      exact Heap.lt_size q
    have ha : X.A.in1.handled = none := I.ok.hd hc
    have hef : e ∉ [it, a] := fun z => by
      rcases List.mem_cons.mp z with z | z
      · exact hne z
      · exact hae (List.mem_singleton.mp z).symm
    have hlt : i < its.toArray.size := by simpa using (List.getElem?_eq_some_iff.mp hu).1
    have D := Draws.tuple (prog := X.prog) (w := X.w) (A := X.A.in1) ha it a hai its.toArray
    refine wpAny_pyNext_enum_itemD D he ⟨hit, pl⟩ hlt hne hef fun y h' tk hy ho hst hT hsz hk => ?_
    have hyu : y = u := by
      have h1 : its[i]? = some y := by simpa using hy
      exact Option.some.inj (h1.symm.trans hu)
    subst hyu
    refine ⟨_, rfl, wpAny_letOwnedTupleGo_enum (s := { s with heap := h', toks := tk + 1 }) ho fun h'' he' sb => ?_⟩
    have hT2 : h''.get? s.heap.objs.size = some { cls := .type "tuple", data := .seq #[.int i tk, y] } := (sb.2 _ (Nat.ne_of_gt hel)).trans hT
    have new : ObjOk X.prog X.w (upd H s.heap.objs.size (.tup [.int (i : Nat), x])) h'' s.heap.objs.size (.tup [.int (i : Nat), x]) := by
      refine ⟨by show 2 ≤ sizeLine; decide, [.int i tk, y], .cons ⟨_, rfl⟩ (.cons ru .nil), ?_⟩
      exact ⟨_, hT2, rfl, _, rfl⟩
    have I1 : Inv X pins σ (upd H s.heap.objs.size (.tup [.int (i : Nat), x])) { s with heap := h'', toks := tk + 1 } := by
      refine I.turnedNew (ch := [e, it]) (fun b ob hb q => ?_) hf (Nat.le_refl _) new
      have n1 : b ≠ e := fun z => hb (by rw [z]; exact List.mem_cons_self)
      have n2 : b ≠ it := fun z => hb (by rw [z]; exact List.mem_cons_of_mem _ List.mem_cons_self)
      exact (sb.2 b n1).trans (hk b ob n1 n2 q)
    refine ⟨.ref s.heap.objs.size, _, I1, rfl, ⟨_, x, rfl, I.hok.fresh (Nat.le_refl _), rfl, fun ys hy2 => ?_⟩, ⟨⟨y, ?_⟩, hst.1.at fun o q => (sb.2 it (Ne.symm hne)).trans q, hne, hai, hae⟩, fun b hb => ?_⟩
    · obtain ⟨its2, rv2, pl2, _⟩ := I.tuple hy2
      obtain ⟨o1, g1, _, n1, d1⟩ := pl
      obtain ⟨o2, g2, _, n2, d2⟩ := pl2
      rw [g1] at g2
      cases g2
      rw [d1] at d2
      cases d2
      have hlen : ys.length = xs.length := by rw [rv.length, rv2.length]
      have hxl := (List.getElem?_eq_some_iff.mp hx).1
      have hy3 : ys[i]? = some (ys[i]'(by omega)) := List.getElem?_eq_getElem _
      obtain ⟨u2, hu2, ru2⟩ := rv2.get hy3
      rw [hu] at hu2
      cases hu2
      rw [hy3]
      exact Option.some.inj (congrArg some (ru2.inj ru)) ▸ rfl
    · have e1 : ((i + 1 : Nat) : Int) = (i : Int) + 1 := by omega
      rw [e1]
      exact he'
    · have hb' : b < s.heap.objs.size := by
        rcases List.mem_cons.mp hb with z | z
        · rw [z]
          exact hel
        · rw [List.mem_singleton.mp z]
          exact hil
      rw [upd_ne (Nat.ne_of_lt hb')]
      exact (hf b hb).1
  done := by
    intro X hP hw hK hc i pins s σ H E I hf st hg
    subst hP hw hK
    obtain ⟨⟨old, he⟩, hit, hne, hai, hae⟩ := st
    obtain ⟨xs, hq, hx⟩ := hg
    obtain ⟨its, rv, pl, hz⟩ := I.tuple hq
    obtain ⟨f0, f1, f2, f3, f4, f5⟩ := hf it (List.mem_cons_of_mem _ List.mem_cons_self)
    have ha : X.A.in1.handled = none := I.ok.hd hc
    have hl := rv.length
    exact enum_endT ha he hit pl (by simp; omega) fun h' eb => ⟨rfl, I.turned (t' := s.toks) (fun b o hb q => eb b o hb q) f0 f1 f3 f4 f5⟩
  self := by
    rintro A i s Q E ⟨⟨_, he⟩, _⟩ h
    exact wpAny_pyIter_enum he h
end Mi
namespace Mi
open PySem PySem.Spec PyProof.Rows L2

section
variable {g : G} {e a b c elt tg iter tg1 iter1 : Expr} {ifs ifs1 : List Expr} {scope : Scope} {pos p : Pos} {f : ME} {u : MA} {fit fit1 : MI} {gt gt1 : MG} {tt tt1 : MT} {fe : ME} {elts : List Expr} {kk : Nat} {tpos : Pos} {k l : MS}
/-! ### enumerate -/
def mEnumT (u : MA) : MI := fun ρ S => (u ρ S).bind fun a => match a.1 with | [d] => (tupOf d).bind fun ds => some (tnE ds, ds.length, a.2) | _ => none
where tnE (xs : List D) : Tn := fun _ i => some (xs[i]?.map fun d => .tup [.int i, d])
theorem tn_enumT {K : Fr} {m : Nm} {H : Hp} {a : Addr} {vs : List V} {ds : List D} (hl : ∀ m1 H1, Evw m m1 H H1 → SqT K H1 a vs) (r : Rs K m H vs ds) : TnOk K (mEnumT.tnE ds) (ItEt K a) m H := fun i m1 H1 S ev st => by
  have hs := hl m1 H1 ev
  have r1 := r.evo ev
  refine ⟨fun e => ?_, fun d e => ?_⟩
  · have e' : ds[i]? = none := Option.map_eq_none_iff.mp (Option.some.inj e)
    exact ⟨vs, hs, by rw [r.len]; exact List.getElem?_eq_none_iff.mp e'⟩
  · obtain ⟨d0, e', rfl⟩ := Option.map_eq_some_iff.mp (Option.some.inj e)
    obtain ⟨v, hv, rv⟩ := r1.get e'
    refine ⟨⟨vs, v, hs, hv⟩, fun x H' hy => ?_⟩
    obtain ⟨T, y, rfl, hT, rfl, hy⟩ := hy
    have hx := (hy vs hs).symm.trans hv
    cases hx
    exact ⟨Evo.made st hT, st.made hT, newT st hT (.cons .int (.cons rv .nil))⟩
def iEnumT (K : Fr) (ta : TA) : TI := fun σ H R => ta σ H fun vs H1 => ∃ (a : Addr) (xs : List V), vs = [.ref a] ∧ SqT K H1 a xs ∧ R (ItEt K a) H1
theorem pi_enumT {X : Cx} {e : Expr} {ta : TA} {p pos tpos : Pos} {elts : List Expr} {kk : Nat} (hg : Gl X "enumerate") (hm : X.mg "enumerate" = none) (ha : PA X [e] ta) (hs : starEach [e] X.env = [(false, eval e X.env)]) :
    PI X (.Tuple elts kk tpos) (.Call (.Name "enumerate" p) [e] [] pos) (iEnumT X.K ta) := by
  constructor
  intro pins s σ H R I h
  refine Call_ (ld_blt I hg hm boot_enumerate (PyProof.Rows.callWith_type1 (thn (ha.run pos pins s σ H _ I h) fun us s1 hx => ?_) hs rfl))
  obtain ⟨vs, H1, I1, r1, a, xs, ex, hq, q⟩ := hx
  subst ex
  cases r1
  rename_i u us ru rr
  cases rr
  cases ru
  obtain ⟨its, rv, pt, hz⟩ := I1.tuple hq
  refine call_enum0 (begins_tuple a its.toArray) pt fun h' he hit hsz hk => wpAny_pyIter_enum he ?_
  have hal : a < s1.heap.objs.size := by
    obtain ⟨o, ho, _⟩ := pt
    exact Heap.lt_size ho
  have I2 : Inv X pins σ H1 { s1 with heap := h' } := I1.kept (t' := s1.toks) hk
  refine ⟨s1.heap.objs.size + 1, [s1.heap.objs.size + 1, s1.heap.objs.size], _, _, H1, rfl, I2, turn_enumT a (s1.heap.objs.size + 1) s1.heap.objs.size, ⟨⟨.none, he⟩, ⟨_, hit, rfl, rfl⟩, Nat.succ_ne_self _, Nat.ne_of_lt hal, Nat.ne_of_lt (Nat.lt_succ_of_lt hal)⟩, fun b hb => ?_, q⟩
  have hle : s1.heap.objs.size ≤ b := by
    rcases List.mem_cons.mp hb with z | z
    · rw [z]
      exact Nat.le_succ _
    · rw [List.mem_singleton.mp z]
      exact Nat.le_refl _
  exact I1.fpOk hle (I1.hok.fresh hle)
theorem mi_enumT (hm : g.mg "enumerate" = none) (ha : Ma g [a] u) (hg : glB g.sc "enumerate" = true) (hs : ∀ env : PySem.Env, starEach [a] env = [(false, eval a env)] := by intro _; rfl) : Mi g (.Tuple elts kk tpos) (.Call (.Name "enumerate" p) [a] [] pos) (mEnumT u) := ⟨fun X hX => by
  obtain ⟨t, h1, h2⟩ := ha.ok X hX
  refine ⟨_, pi_enumT (glB_ok hX hg).1 (by rw [hX.mg]; exact hm) h1 (hs _), fun ρ S t n S' e m H σ r Rr q => ?_⟩
  obtain ⟨⟨ds, S1⟩, e1, e⟩ := bind_some e
  split at e
  · rename_i d hd
    have hd' : ds = [d] := hd
    subst hd'
    obtain ⟨xs, ex, e⟩ := bind_some e
    cases e
    refine h2 ρ S _ S1 e1 m H σ r _ fun vs m1 H1 ev rs st => ?_
    obtain ⟨v, rfl, rv⟩ := rs.one
    have eK := hX.K
    obtain ⟨ad, vs, rfl, h3, h5⟩ := tupOf_ev ex rv
    refine ⟨ad, vs, rfl, ?_, ?_⟩
    · rw [eK]
      exact h3 m1 H1 Evo.refl.w
    · rw [eK]
      exact q _ m1 H1 ev st (tn_enumT h3 h5)
  · cases e⟩
/-! of a list: a tree, or a cell -/
def tnEL (xs : List D) : Tn := fun _ i => some (xs[i]?.map fun d => .tup [.int i, d])
def tnEC (k : Nat) : Tn := fun S i => match S[k]? with | some (.lst ds) => some (ds[i]?.map fun d => .tup [.int i, d]) | _ => none
theorem tn_enumL {K : Fr} {m : Nm} {H : Hp} {a : Addr} {vs : List V} {ds : List D} (hl : ∀ m1 H1, Evw m m1 H H1 → SqL K H1 a vs) (r : Rs K m H vs ds) : TnOk K (tnEL ds) (Ite K a) m H := fun i m1 H1 S ev st => by
  have hs := hl m1 H1 ev
  have r1 := r.evo ev
  refine ⟨fun e => ?_, fun d e => ?_⟩
  · have e' : ds[i]? = none := Option.map_eq_none_iff.mp (Option.some.inj e)
    exact ⟨vs, hs, by rw [r.len]; exact List.getElem?_eq_none_iff.mp e'⟩
  · obtain ⟨d0, e', rfl⟩ := Option.map_eq_some_iff.mp (Option.some.inj e)
    obtain ⟨v, hv, rv⟩ := r1.get e'
    refine ⟨⟨vs, v, hs, hv⟩, fun x H' hy => ?_⟩
    obtain ⟨T, y, rfl, hT, rfl, hy⟩ := hy
    have hx := (hy vs hs).symm.trans hv
    cases hx
    exact ⟨Evo.made st hT, st.made hT, newT st hT (.cons .int (.cons rv .nil))⟩
theorem tn_enumC {K : Fr} {m : Nm} {H : Hp} {a : Addr} {k : Nat} (ha : m.c[k]? = some a) : TnOk K (tnEC k) (Ite K a) m H := fun i m1 H1 S ev st => by
  have ha1 := ev.pre k a ha
  unfold tnEC
  split
  · rename_i ds hk
    obtain ⟨vs, h1, r1⟩ := st.cel k _ a hk ha1
    have hs : SqL K H1 a vs := SqL.of h1
    refine ⟨fun e => ?_, fun d e => ?_⟩
    · have e' : ds[i]? = none := Option.map_eq_none_iff.mp (Option.some.inj e)
      exact ⟨vs, hs, by rw [r1.len]; exact List.getElem?_eq_none_iff.mp e'⟩
    · obtain ⟨d0, e', rfl⟩ := Option.map_eq_some_iff.mp (Option.some.inj e)
      obtain ⟨v, hv, rv⟩ := r1.get e'
      refine ⟨⟨vs, v, hs, hv⟩, fun x H' hy => ?_⟩
      obtain ⟨T, y, rfl, hT, rfl, hy⟩ := hy
      have hx := (hy vs hs).symm.trans hv
      cases hx
      exact ⟨Evo.made st hT, st.made hT, newT st hT (.cons .int (.cons rv .nil))⟩
  · exact ⟨fun e => (nomatch e), fun d e => (nomatch e)⟩
def mEnumL (u : MA) : MI := fun ρ S => (u ρ S).bind fun a => match a.1 with
  | [.lst ds] => some (tnEL ds, ds.length, a.2)
  | [.fzl ds] => some (tnEL ds, ds.length, a.2)
  | [.obj k] => match a.2[k]? with | some (.lst ds) => some (tnEC k, ds.length, a.2) | _ => none
  | _ => none
theorem mi_enumL (hm : g.mg "enumerate" = none) (ha : Ma g [a] u) (hg : glB g.sc "enumerate" = true) (hs : ∀ env : PySem.Env, starEach [a] env = [(false, eval a env)] := by intro _; rfl) : Mi g (.Tuple elts kk tpos) (.Call (.Name "enumerate" p) [a] [] pos) (mEnumL u) := ⟨fun X hX => by
  obtain ⟨t, h1, h2⟩ := ha.ok X hX
  refine ⟨_, pi_enum (glB_ok hX hg).1 (by rw [hX.mg]; exact hm) h1 (hs _), fun ρ S t n S' e m H σ r Rr q => ?_⟩
  obtain ⟨⟨ds, S1⟩, e1, e⟩ := bind_some e
  have eK := hX.K
  refine h2 ρ S _ S1 e1 m H σ r _ fun vs m1 H1 ev rs st => ?_
  split at e
  · rename_i d hd
    have hd' : ds = [.lst d] := hd
    subst hd'
    cases e
    obtain ⟨v, rfl, rv⟩ := rs.one
    cases rv
    rename_i ad vs h3 h4 h5
    refine ⟨ad, vs, rfl, ?_, ?_⟩
    · rw [eK]
      exact SqL.of h3
    · rw [eK]
      exact q _ m1 H1 ev st (tn_enumL (fun m2 H2 e2 => SqL.of (e2.ext _ _ h4 h3)) h5)
  · rename_i d hd
    have hd' : ds = [.fzl d] := hd
    subst hd'
    cases e
    obtain ⟨v, rfl, rv⟩ := rs.one
    cases rv
    rename_i ad vs h3 h5
    refine ⟨ad, vs, rfl, ?_, ?_⟩
    · rw [eK]
      exact h3.sq
    · rw [eK]
      exact q _ m1 H1 ev st (tn_enumL (fun m2 H2 e2 => (h3.evo e2).sq) h5)
  · rename_i kk hd
    have hd' : ds = [.obj kk] := hd
    subst hd'
    split at e
    · rename_i d hk
      cases e
      obtain ⟨v, rfl, rv⟩ := rs.one
      cases rv
      rename_i ad hc
      obtain ⟨vs, h3, _⟩ := st.cel kk _ ad hk hc
      refine ⟨ad, vs, rfl, ?_, ?_⟩
      · rw [eK]
        exact SqL.of h3
      · rw [eK]
        exact q _ m1 H1 ev st (tn_enumC hc)
    · cases e
  · cases e⟩
/-! ### [elt for tg in iter if .. for tg1 in iter1 if ..] -/
theorem ml_lc2 {own : List (Str × Nat)} {vs1 : List Nat} (hi : Mi g tg iter fit) (hb : blkC g.N g.sc scope own = true) (hv : ∀ i ∈ vs1, i ∈ own.map (·.2)) (hg : Mgc (g.blk scope) (own.map (·.2)) tg gt) (ht : Mts (g.blk scope) ifs tt)
    (hi1 : Mi (g.blk scope) tg1 iter1 fit1) (hg1 : Mgc (g.blk scope) vs1 tg1 gt1) (ht1 : Mts (g.blk scope) ifs1 tt1) (he : Ms (g.blk scope) elt fe)
    (hs : ∀ (env : PySem.Env) x, foldedSetIterable iter env x = pure x := by intro _ _; rfl) (hs1 : ∀ (env : PySem.Env) x, foldedSetIterable iter1 env x = pure x := by intro _ _; rfl) :
    Ml g (.ListComp elt [⟨tg, iter, ifs, 0⟩, ⟨tg1, iter1, ifs1, 0⟩] scope pos) (mLc2 fit gt tt fit1 gt1 tt1 fe (own.map (·.2)) vs1) := ⟨fun X hX => by
  obtain ⟨wi, i1, i2⟩ := hi.ok X hX
  obtain ⟨t1, g1, g2, g3⟩ := hg.uni
  obtain ⟨t2, u1, u2⟩ := ht.uni
  obtain ⟨w3, j1, j2⟩ := hi1.uni
  obtain ⟨t4, g4, g5, g6⟩ := hg1.uni
  obtain ⟨t5, u4, u5⟩ := ht1.uni
  obtain ⟨t3, v1, v2⟩ := he.uni
  refine ⟨_, pe_lc2 hX.calm hX.nd i1 (blkOk_by (by rw [hX.N, hX.sc]; exact hb)) hv (fun s H C cl fp => g3 _ (On.blk hX scope s H C cl fp)) (fun s H C cl fp => u2 _ (On.blk hX scope s H C cl fp)) (fun s H C cl fp => j2 _ (On.blk hX scope s H C cl fp)) (fun s H C cl fp => g6 _ (On.blk hX scope s H C cl fp)) (fun s H C cl fp => u5 _ (On.blk hX scope s H C cl fp)) (fun s H C cl fp => v2 _ (On.blk hX scope s H C cl fp)) (hs _) hs1, good_lc2 i2 g1 g2 u1 j1 g4 g5 u4 v1⟩⟩
/-! ### three names at once -/
theorem mst_par3 {x y z : Str} {px py pz pt : Pos} {kt k2 pt2} (i j l : Nat) (hij : i ≠ j) (hil : i ≠ l) (hjl : j ≠ l) (hx : visB g.N g.sc i x = true) (hy : visB g.N g.sc j y = true) (hz : visB g.N g.sc l z = true) (lx : g.sc.names.lookup x = some .local) (ly : g.sc.names.lookup y = some .local) (lz : g.sc.names.lookup z = some .local) (ha : Ma g [a, b, c] u)
    (hw : ∀ env : PySem.Env, env.scope = g.sc → swappedStores [.Tuple [.Name x px, .Name y py, .Name z pz] kt pt] (.Tuple [a, b, c] k2 pt2) env = pure (some [x, y, z]))
    (hs : ∀ env : PySem.Env, swapsWithSole [.Tuple [.Name x px, .Name y py, .Name z pz] kt pt] (.Tuple [a, b, c] k2 pt2) pos.line env = pure false := by intro _; rfl) :
    Mst g (.Assign [.Tuple [.Name x px, .Name y py, .Name z pz] kt pt] (.Tuple [a, b, c] k2 pt2) pos) (mPar3 i j l u) := ⟨fun X hX => by
  obtain ⟨t, h1, h2⟩ := ha.ok X hX
  refine ⟨_, ps_par3 (i := i) (j := j) (l := l) hX.calm hX.nd (by rw [hX.N]; exact (visB_ok hx).1) (by rw [hX.N]; exact (visB_ok hy).1) (by rw [hX.N]; exact (visB_ok hz).1) hij hil hjl (by rw [hX.sc]; exact lx) (by rw [hX.sc]; exact ly) (by rw [hX.sc]; exact lz) h1 (hw _ hX.sc) (hs _), fun ρ S r S' e m H σ rl Dn q => ?_⟩
  obtain ⟨⟨ds, S1⟩, e1, e⟩ := bind_some e
  split at e
  · rename_i d1 d2 d3 hd
    have hd' : ds = [d1, d2, d3] := hd
    subst hd'
    cases e
    refine h2 ρ S _ S1 e1 m H σ rl _ fun vs m1 H1 ev rs st => ?_
    cases rs
    rename_i v vs r1 rs
    cases rs
    rename_i v2 vs2 r2 rs2
    cases rs2
    rename_i v3 vs3 r3 rs3
    cases rs3
    exact ⟨_, _, _, rfl, q _ m1 H1 ev ((((rl.evo ev st).set i r1).set j r2).set l r3)⟩
  · cases e⟩
/-! ### tuple(a list), whose object is known -/
def rTupF (K : Fr) : List V → Hp → VK → Prop := fun vs H Q => ∃ (a : Addr) (xs : List V), vs = [.ref a] ∧ SqL K H a xs ∧ ∀ p (o : Obj), H p = none → o.dict = none → Q (.ref p) (upd H p (.frz o (.tup xs)))
theorem call_tupF {X : Cx} : CallR X (.type "tuple") (rTupF X.K) := by
  intro pins s σ H vs us Q I r h
  obtain ⟨a, xs, rfl, hs, q⟩ := h
  cases r
  rename_i u us ru rr
  cases rr
  cases ru
  obtain ⟨its, rv, pl, hz⟩ := I.list hs
  refine call_tuple_list pl.isList (fun h' hk => ?_) (by rw [List.size_toArray, ← rv.length]; exact hz)
  have I1 : Inv X pins σ H { s with heap := h' } := I.kept (t' := s.toks) hk
  have hg : (h'.push { cls := .type "tuple", data := .seq its.toArray }).get? h'.objs.size = some ({ cls := .type "tuple", data := .seq its.toArray } : Obj) := Heap.get?_push_size _ rfl
  refine ⟨.ref h'.objs.size, _, I1.laid (t' := s.toks) (o := .frz { cls := .type "tuple", data := .seq its.toArray } (.tup xs)) (fun b ob q => Heap.get?_push_of_some _ q) (Nat.le_refl _) ?_, rfl, q _ _ (I1.hok.fresh (Nat.le_refl _)) rfl⟩
  exact ⟨hg, hz, _, rv, IsTup.new _ _⟩
def bTupleF : DF := fun S ds => match ds with
  | [d] => (rdL S d).bind fun xs => some (.ftp xs)
  | _ => none
theorem good_tupleF : ∀ X, g.On X → ∃ r, CallR X (.type "tuple") r ∧ GoodCall g.K r bTupleF := fun X hX => ⟨_, call_tupF, fun S ds z e m H vs r st Q q => by
  unfold bTupleF at e
  split at e
  · obtain ⟨v, rfl, rv⟩ := r.one
    obtain ⟨xs, hx, e⟩ := bind_some e
    cases e
    obtain ⟨a, vs, rfl, hs, rs⟩ := rdL_ok hx rv st
    exact ⟨a, vs, rfl, by rw [hX.K]; exact hs, fun p o hp ho => q _ _ (Evo.made st hp) (newF st hp ho rs) (st.made hp)⟩
  · cases e⟩
end
end Mi
namespace Mi
open PySem PySem.Spec PyProof.Rows L2
/-! ### a fresh container that is a cell from its making on -/
def mCell (fl : MEL) : ME := fun ρ S => (fl ρ S).bind fun a => some (.obj a.2.length, a.2 ++ [a.1])
theorem ms_cell {g : G} {e : Expr} {fl : MEL} (h : Ml g e fl) : Ms g e (mCell fl) := ⟨fun X hX => by
  obtain ⟨t, h1, h2⟩ := h.ok X hX
  refine ⟨t, h1, fun ρ S d S' e m H σ r Q q => ?_⟩
  obtain ⟨⟨c, S1⟩, e1, e⟩ := bind_some e
  cases e
  exact h2 ρ S c S1 e1 m H σ r _ fun p m1 H1 ev fr => q _ _ H1 (ev.add fr.new) (.obj fr.cellAt) fr.one⟩
end Mi
namespace Mi
open PySem PySem.Spec PyProof.Rows L2
/-! ### mirrors, a step at a time -/
section
variable {ρ ρ' ρ1 : Env} {S S' S1 S2 S3 : Sto} {k l : MS} {d a b z : D} {c : C} {f h : ME} {fl : MEL} {gt : MG} {t u v : MT} {w : MA} {as bs : List D} {j : Nat}
theorem seq_nx (h : k ρ S = some (.nx ρ', S')) : mSeq k l ρ S = l ρ' S' := by
  unfold mSeq
  rw [h]
  rfl
theorem seq_rt (h : k ρ S = some (.rt d, S')) : mSeq k l ρ S = some (.rt d, S') := by
  unfold mSeq
  rw [h]
  rfl
theorem ifs_t (h : t ρ S = some (true, S')) : mIfS t k l ρ S = k ρ S' := by
  unfold mIfS
  rw [h]
  rfl
theorem ifs_f (h : t ρ S = some (false, S')) : mIfS t k l ρ S = l ρ S' := by
  unfold mIfS
  rw [h]
  rfl
theorem asg_eq (h1 : f ρ S = some (d, S1)) (h2 : gt d ρ S1 = some (ρ', S2)) : mAsg f gt ρ S = some (.nx ρ', S2) := by
  unfold mAsg
  rw [h1, Option.bind_some, h2]
  rfl
theorem set_eq (h1 : f ρ S = some (d, S1)) : mAsg f (mName j) ρ S = some (.nx (ρ.set j (some d)), S1) := asg_eq h1 rfl
theorem new_eq (h1 : fl ρ S = some (c, S1)) : mNew fl j ρ S = some (.nx (ρ.set j (some (.obj S1.length))), S1 ++ [c]) := by
  unfold mNew
  rw [h1]
  rfl
theorem expr_eq (h1 : f ρ S = some (d, S1)) : mExpr f ρ S = some (.nx ρ, S1) := by
  unfold mExpr
  rw [h1]
  rfl
theorem ret_eq (h1 : f ρ S = some (d, S1)) : mRet f ρ S = some (.rt d, S1) := by
  unfold mRet
  rw [h1]
  rfl
theorem retL_eq (h1 : fl ρ S = some (c, S1)) : mRetL fl ρ S = some (.rl c, S1) := by
  unfold mRetL
  rw [h1]
  rfl
theorem var_eq (h : ρ[j]? = some (some d)) : mVar j ρ S = some (d, S) := by
  unfold mVar
  rw [h]
theorem mop_eq {r : DOp} (h1 : f ρ S = some (a, S1)) (h2 : h ρ S1 = some (b, S2)) (h3 : r S2 a b = some z) : mOp r f h ρ S = some (z, S2) := by
  unfold mOp
  rw [h1, Option.bind_some, h2, Option.bind_some, h3]
  rfl
theorem cons_eq (h1 : f ρ S = some (a, S1)) (h2 : w ρ S1 = some (as, S2)) : mCons f w ρ S = some (a :: as, S2) := by
  unfold mCons
  rw [h1, Option.bind_some, h2]
  rfl
theorem star_eq (h1 : f ρ S = some (a, S1)) (h3 : seqOf S1 a = some bs) (h2 : w ρ S1 = some (as, S2)) : mStar f w ρ S = some (bs ++ as, S2) := by
  unfold mStar
  rw [h1, Option.bind_some, h3, Option.bind_some, h2]
  rfl
theorem call_eq {F : MF} (h1 : w ρ S = some (as, S1)) : mCall F w ρ S = F as S1 := by
  unfold mCall
  rw [h1]
  rfl
theorem callL_eq {F : MFL} (h1 : w ρ S = some (as, S1)) : mCallL F w ρ S = F as S1 := by
  unfold mCallL
  rw [h1]
  rfl
theorem cb_eq {F : DF} (h1 : w ρ S = some (as, S1)) (h2 : F S1 as = some d) : mCB F w ρ S = some (d, S1) := by
  unfold mCB
  rw [h1, Option.bind_some, h2]
  rfl
theorem tup_eq (h1 : w ρ S = some (as, S1)) (h2 : as.length ≤ sizeLine) : mTup w ρ S = some (.tup as, S1) := by
  unfold mTup
  rw [h1]
  exact if_pos h2
theorem lst_eq (h1 : w ρ S = some (as, S1)) (h2 : as.length ≤ sizeLine) : mLst w ρ S = some (.lst as, S1) := by
  unfold mLst
  rw [h1]
  exact if_pos h2
theorem ofL_eq (h1 : fl ρ S = some (c, S1)) : mOfL fl ρ S = some (c.toD, S1) := by
  unfold mOfL
  rw [h1]
  rfl
theorem t_eq {b : Bool} (h1 : f ρ S = some (.bl b, S1)) : mT f ρ S = some (b, S1) := by
  unfold mT
  rw [h1]
  rfl
theorem not_eq {b : Bool} (h1 : t ρ S = some (b, S1)) : mNot t ρ S = some (!b, S1) := by
  unfold mNot
  rw [h1]
  rfl
theorem or_f (h1 : u ρ S = some (false, S1)) : mOr u v ρ S = v ρ S1 := by
  unfold mOr
  rw [h1]
  rfl
theorem or_t (h1 : u ρ S = some (true, S1)) : mOr u v ρ S = some (true, S1) := by
  unfold mOr
  rw [h1]
  rfl
theorem and_f (h1 : u ρ S = some (false, S1)) : mAnd u v ρ S = some (false, S1) := by
  unfold mAnd
  rw [h1]
  rfl
theorem and_t (h1 : u ρ S = some (true, S1)) : mAnd u v ρ S = v ρ S1 := by
  unfold mAnd
  rw [h1]
  rfl
theorem if_t (h1 : t ρ S = some (true, S1)) : mIf t f h ρ S = f ρ S1 := by
  unfold mIf
  rw [h1]
  rfl
theorem if_f (h1 : t ρ S = some (false, S1)) : mIf t f h ρ S = h ρ S1 := by
  unfold mIf
  rw [h1]
  rfl
theorem meth_eq {F : DM} {x : D} {kk : Nat} {ds0 ds ds' : List D} (h1 : f ρ S = some (x, S1)) (h0 : cellL S1 x = some (kk, ds0)) (h2 : w ρ S1 = some (as, S2)) (h3 : cellL S2 x = some (kk, ds)) (h4 : F S2 ds as = some (ds', z)) : mMeth F f w ρ S = some (z, S2.set kk (.lst ds')) := by
  unfold mMeth
  rw [h1, Option.bind_some, h0, Option.bind_some, h2, Option.bind_some, h3, Option.bind_some, h4]
  rfl
theorem meth0_eq {F : DM} {x : D} {kk : Nat} {ds ds' : List D} (h1 : f ρ S = some (x, S1)) (h3 : cellL S1 x = some (kk, ds)) (h4 : F S1 ds [] = some (ds', z)) : mMeth0 F f ρ S = some (z, S1.set kk (.lst ds')) := by
  unfold mMeth0
  rw [h1, Option.bind_some, h3, Option.bind_some, h4]
  rfl
theorem par2_eq {i j : Nat} {x y : D} (h1 : w ρ S = some ([x, y], S1)) : mPar2 i j w ρ S = some (.nx ((ρ.set i (some x)).set j (some y)), S1) := by
  unfold mPar2
  rw [h1]
  rfl
theorem par3_eq {i j k : Nat} {x y z : D} (h1 : w ρ S = some ([x, y, z], S1)) : mPar3 i j k w ρ S = some (.nx (((ρ.set i (some x)).set j (some y)).set k (some z)), S1) := by
  unfold mPar3
  rw [h1]
  rfl
theorem cellL_obj {kk : Nat} {ds : List D} (h : S[kk]? = some (.lst ds)) : cellL S (.obj kk) = some (kk, ds) := by
  show (match S[kk]? with | some (.lst ds) => some (kk, ds) | _ => none) = _
  rw [h]
theorem lstOf_obj {kk : Nat} {ds : List D} (h : S[kk]? = some (.lst ds)) : lstOf S (.obj kk) = some ds := by
  show (match S[kk]? with | some (.lst ds) => some ds | _ => none) = _
  rw [h]
/-! ### walks -/
theorem forI_inv {it : Tn} {body : MS} {n : Nat} (item : Nat → D) (P : Nat → Env → Sto → Prop) (hit : ∀ i ρ S, i ≤ n → P i ρ S → it S i = some (if i < n then some (item i) else none))
    (step : ∀ i ρ S, i < n → P i ρ S → ∃ ρ1 S1 ρ2 S2, gt (item i) ρ S = some (ρ1, S1) ∧ body ρ1 S1 = some (.nx ρ2, S2) ∧ P (i + 1) ρ2 S2) :
    ∀ m i ρ S, m + i = n → P i ρ S → ∃ ρ2 S2, forI it gt body m i ρ S = some (.nx ρ2, S2) ∧ P n ρ2 S2
  | 0, i, ρ, S, e, p => by
    have e1 : i = n := by omega
    subst e1
    refine ⟨ρ, S, ?_, p⟩
    unfold forI
    rw [hit i ρ S (Nat.le_refl _) p, if_neg (Nat.lt_irrefl _)]
  | m + 1, i, ρ, S, e, p => by
    have hi : i < n := by omega
    obtain ⟨ρ1, S1, ρ2, S2, h1, h2, p2⟩ := step i ρ S hi p
    obtain ⟨ρ3, S3, h3, p3⟩ := forI_inv item P hit step m (i + 1) ρ2 S2 (by omega) p2
    refine ⟨ρ3, S3, ?_, p3⟩
    unfold forI
    rw [hit i ρ S (Nat.le_of_lt hi) p, if_pos hi]
    show ((gt (item i) ρ S).bind _) = _
    rw [h1, Option.bind_some]
    show ((body ρ1 S1).bind _) = _
    rw [h2, Option.bind_some]
    exact h3
theorem lcI_inv {it : Tn} {tt : MT} {fe : ME} {ρw : Env} {n : Nat} (item : Nat → D) (P : Nat → Sto → List D → Prop) (hit : ∀ i S acc, i ≤ n → P i S acc → it S i = some (if i < n then some (item i) else none))
    (step : ∀ i S acc, i < n → P i S acc → ∃ ρ1 S1 b S2, gt (item i) ρw S = some (ρ1, S1) ∧ tt ρ1 S1 = some (b, S2) ∧ (b = true → ∃ y S3, fe ρ1 S2 = some (y, S3) ∧ acc.length < sizeLine ∧ P (i + 1) S3 (acc ++ [y])) ∧ (b = false → P (i + 1) S2 acc)) :
    ∀ m i S acc, m + i = n → P i S acc → ∃ acc2 S2, lcI it gt tt fe ρw m i S acc = some (acc2, S2) ∧ P n S2 acc2
  | 0, i, S, acc, e, p => by
    have e1 : i = n := by omega
    subst e1
    refine ⟨acc, S, ?_, p⟩
    unfold lcI
    rw [hit i S acc (Nat.le_refl _) p, if_neg (Nat.lt_irrefl _)]
  | m + 1, i, S, acc, e, p => by
    have hi : i < n := by omega
    obtain ⟨ρ1, S1, b, S2, h1, h2, hT, hF⟩ := step i S acc hi p
    cases b with
    | true =>
      obtain ⟨y, S3, h3, h4, p3⟩ := hT rfl
      obtain ⟨acc4, S4, h5, p4⟩ := lcI_inv item P hit step m (i + 1) S3 _ (by omega) p3
      refine ⟨acc4, S4, ?_, p4⟩
      unfold lcI
      rw [hit i S acc (Nat.le_of_lt hi) p, if_pos hi]
      show ((gt (item i) ρw S).bind _) = _
      rw [h1, Option.bind_some]
      show ((tt ρ1 S1).bind _) = _
      rw [h2, Option.bind_some, if_pos rfl]
      show ((fe ρ1 S2).bind _) = _
      rw [h3, Option.bind_some, if_pos h4]
      exact h5
    | false =>
      obtain ⟨acc4, S4, h5, p4⟩ := lcI_inv item P hit step m (i + 1) S2 _ (by omega) (hF rfl)
      refine ⟨acc4, S4, ?_, p4⟩
      unfold lcI
      rw [hit i S acc (Nat.le_of_lt hi) p, if_pos hi]
      show ((gt (item i) ρw S).bind _) = _
      rw [h1, Option.bind_some]
      show ((tt ρ1 S1).bind _) = _
      rw [h2, Option.bind_some, if_neg Bool.false_ne_true]
      exact h5
/-- a comprehension over a list that is read, its store as it was -/
theorem lcI_map {fe : ME} {ρw : Env} {g : D → D} : ∀ (m i : Nat) (xs acc : List D), m + i = xs.length → acc.length = i → xs.length ≤ sizeLine → (∀ x, x ∈ xs → fe (ρw.set j (some x)) S = some (g x, S)) →
    lcI (tnL xs) (mName j) mYes fe ρw m i S acc = some (acc ++ (xs.drop i).map g, S)
  | 0, i, xs, acc, e, ea, hz, hf => by
    unfold lcI
    have h1 : xs[i]? = none := List.getElem?_eq_none_iff.mpr (by omega)
    show (match some xs[i]? with | none => none | some none => some (acc, S) | some (some d) => _) = _
    rw [h1, List.drop_eq_nil_of_le (by omega), List.map_nil, List.append_nil]
  | m + 1, i, xs, acc, e, ea, hz, hf => by
    unfold lcI
    have hi : i < xs.length := by omega
    have h1 : xs[i]? = some xs[i] := List.getElem?_eq_getElem hi
    show (match some xs[i]? with | none => none | some none => some (acc, S) | some (some d) => _) = _
    rw [h1]
    show ((fe (ρw.set j (some xs[i])) S).bind _) = _
    rw [hf _ (List.getElem_mem hi), Option.bind_some, if_pos (by omega), lcI_map m (i + 1) xs _ (by omega) (by rw [List.length_append, ea]; rfl) hz hf, List.drop_eq_getElem_cons hi, List.map_cons, List.append_assoc]
    rfl
theorem lc_map {fit : MI} {fe : ME} {g : D → D} {vs : List Nat} {xs : List D} (h1 : fit ρ S = some (tnL xs, xs.length, S1)) (hz : xs.length ≤ sizeLine) (hf : ∀ x, x ∈ xs → fe ((mwipe ρ vs).set j (some x)) S1 = some (g x, S1)) :
    mLc fit (mName j) mYes fe vs ρ S = some (.lst (xs.map g), S1) := by
  unfold mLc
  rw [h1, Option.bind_some]
  show ((lcI (tnL xs) (mName j) mYes fe (mwipe ρ vs) xs.length 0 S1 []).bind _) = _
  rw [lcI_map xs.length 0 xs [] rfl rfl hz hf]
  rfl
def rngD (lo : Int) (n : Nat) : List D := (List.range n).map fun (i : Nat) => D.int (lo + i)
theorem tnR_eq (lo : Int) (n : Nat) : tnR lo n = tnL (rngD lo n) := by
  funext S i
  unfold tnR tnL rngD
  rw [List.getElem?_map]
  split
  · rename_i h
    rw [List.getElem?_range h]
    rfl
  · rename_i h
    rw [List.getElem?_eq_none_iff.mpr (by rw [List.length_range]; omega)]
    rfl
theorem rngD_len (lo : Int) (n : Nat) : (rngD lo n).length = n := by
  unfold rngD
  rw [List.length_map, List.length_range]
theorem mItR1_eq {n : Nat} (h1 : w ρ S = some ([.int (n : Int)], S1)) (hn : n < 2 ^ 62) : mItR1 w ρ S = some (tnL (rngD 0 n), (rngD 0 n).length, S1) := by
  unfold mItR1
  rw [h1, Option.bind_some]
  show (if -(2 ^ 62) ≤ (n : Int) ∧ (n : Int) < 2 ^ 62 then some (tnR 0 (n : Int).toNat, (n : Int).toNat, S1) else none) = _
  rw [if_pos ⟨by omega, by exact_mod_cast hn⟩, tnR_eq, rngD_len, Int.toNat_natCast]
theorem mItT_eq {xs : List D} (h1 : f ρ S = some (d, S1)) (h2 : tupOf d = some xs) : mItT f ρ S = some (tnL xs, xs.length, S1) := by
  unfold mItT
  rw [h1, Option.bind_some, h2]
  rfl
theorem for_eq {fit : MI} {body : MS} {it : Tn} {n : Nat} {r : Option (Fl × Sto)} (h1 : fit ρ S = some (it, n, S1)) (h2 : forI it gt body n 0 ρ S1 = r) : mFor fit gt body ρ S = r := by
  unfold mFor
  rw [h1, Option.bind_some]
  exact h2
/-! ### what is below -/
mutual
theorem below_mono {n : Nat} : ∀ {d : D}, below 0 d = true → below n d = true
  | .non, _ => by unfold below; rfl
  | .bl _, _ => by unfold below; rfl
  | .int _, _ => by unfold below; rfl
  | .str _, _ => by unfold below; rfl
  | .raw _, h => by unfold below at h ⊢; exact h
  | .obj k, h => by
    unfold below at h
    exact absurd (of_decide_eq_true h) (Nat.not_lt_zero k)
  | .tup xs, h => by unfold below at h ⊢; exact belows_mono h
  | .lst xs, h => by unfold below at h ⊢; exact belows_mono h
  | .fzl xs, h => by unfold below at h ⊢; exact belows_mono h
  | .ktp xs, h => by unfold below at h ⊢; exact belows_mono h
  | .ftp xs, h => by unfold below at h ⊢; exact belows_mono h
  | .dk xs, h => by unfold below at h ⊢; exact belowK_mono h
  | .dt xs, h => by unfold below at h ⊢; exact belowT_mono h
theorem belows_mono {n : Nat} : ∀ {d : List D}, belows 0 d = true → belows n d = true
  | [], _ => by unfold belows; rfl
  | x :: xs, h => by
    unfold belows at h ⊢
    rw [Bool.and_eq_true] at h ⊢
    exact ⟨below_mono h.1, belows_mono h.2⟩
theorem belowK_mono {n : Nat} : ∀ {d : List (Key × D)}, belowK 0 d = true → belowK n d = true
  | [], _ => by unfold belowK; rfl
  | (_, x) :: xs, h => by
    unfold belowK at h ⊢
    rw [Bool.and_eq_true] at h ⊢
    exact ⟨below_mono h.1, belowK_mono h.2⟩
theorem belowT_mono {n : Nat} : ∀ {d : List (List Key × D)}, belowT 0 d = true → belowT n d = true
  | [], _ => by unfold belowT; rfl
  | (_, x) :: xs, h => by
    unfold belowT at h ⊢
    rw [Bool.and_eq_true] at h ⊢
    exact ⟨below_mono h.1, belowT_mono h.2⟩
end
theorem C.below_mono {n : Nat} {c : C} (h : C.below 0 c = true) : C.below n c = true := by
  cases c
  · exact belows_mono h
  · exact belowK_mono h
  · exact belowT_mono h
/-- no cell knows of another one -/
def Gd (S : Sto) : Prop := ∀ c ∈ S, C.below 0 c = true
theorem Gd.all (g : Gd S) {n : Nat} : S.all (C.below n) = true := List.all_eq_true.mpr fun c h => C.below_mono (g c h)
theorem Gd.nil : Gd [] := fun c h => (nomatch h)
theorem Gd.add (g : Gd S) (h : C.below 0 c = true) : Gd (S ++ [c]) := fun x hx => by
  rcases List.mem_append.mp hx with q | q
  · exact g x q
  · rw [List.mem_singleton.mp q]
    exact h
theorem Gd.set (g : Gd S) {i : Nat} (h : C.below 0 c = true) : Gd (S.set i c) := fun x hx => by
  rcases List.mem_or_eq_of_mem_set hx with q | q
  · exact g x q
  · rw [q]
    exact h
theorem th_below {n m : Nat} (h : below n d = true) : th S n m d = some d := by
  cases m <;> (unfold th; rw [if_pos h])
theorem mapO_below {n m : Nat} : ∀ {ds : List D}, belows n ds = true → mapO (th S n m) ds = some ds
  | [], _ => rfl
  | x :: xs, h => by
    unfold belows at h
    rw [Bool.and_eq_true] at h
    show ((th S n m x).bind _) = _
    rw [th_below h.1, Option.bind_some, mapO_below h.2]
    rfl
/-- back from a def: its own cells are given up -/
theorem retD_pure {T : Sto} (g : Gd S) (h : below 0 d = true) : retD S.length (S ++ T) d = some (d, S) := by
  unfold retD
  split
  · rename_i hl
    rw [List.length_append] at hl
    have : T = [] := List.eq_nil_of_length_eq_zero (by omega)
    rw [this, List.append_nil]
  · rw [th_below (below_mono h), Option.bind_some, List.take_left' rfl, if_pos g.all]
theorem retD_cell {T : Sto} {kk : Nat} {ds : List D} (g : Gd S) (hk : S.length ≤ kk) (hg : (S ++ T)[kk]? = some (.lst ds)) (h : belows 0 ds = true) : retD S.length (S ++ T) (.obj kk) = some (.lst ds, S) := by
  have hlt := (List.getElem?_eq_some_iff.mp hg).1
  unfold retD
  rw [if_neg (by omega)]
  have hb : ¬ (below S.length (.obj kk) = true) := fun z => by
    unfold below at z
    have := of_decide_eq_true z
    omega
  have e : th (S ++ T) S.length 6 (.obj kk) = some (.lst ds) := by
    unfold th
    rw [if_neg hb]
    show (match (S ++ T)[kk]? with | some (.lst ds) => (mapO (th (S ++ T) S.length 5) ds).bind fun es => some (D.lst es) | some (.dk kvs) => if belowK S.length kvs then some (.dk kvs) else none | some (.dt kvs) => if belowT S.length kvs then some (.dt kvs) else none | none => none) = _
    rw [hg]
    show ((mapO (th (S ++ T) S.length 5) ds).bind _) = _
    rw [mapO_below (belows_mono h)]
    rfl
  rw [e, Option.bind_some, List.take_left' rfl, if_pos g.all]
theorem fun_eq {n N : Nat} {body : MS} {T : Sto} (hl : as.length = n) (h1 : body (as.map some ++ List.replicate (N - n) none) S = some (.rt d, S1)) (h2 : retD S.length S1 d = some (z, S2)) : mFun n N body as S = some (z, S2) := by
  unfold mFun
  rw [if_pos hl, h1]
  exact h2
theorem funL_eq {n N : Nat} {body : MS} (hl : as.length = n) (h1 : body (as.map some ++ List.replicate (N - n) none) S = some (.rl c, S1)) (h2 : S1.length ≤ S.length) : mFunL n N body as S = some (c, S1) := by
  unfold mFunL
  rw [if_pos hl, h1]
  exact if_pos h2
end
end Mi
namespace Mi
open PySem PySem.Spec PyProof.Rows L2
mutual
def tiny : PyData → Bool
  | .none => true
  | .bool _ => true
  | .int i => decide (-999999999999 ≤ i) && decide (i ≤ 999999999999)
  | .str x => PyData.strOk x
  | .list xs => tinys xs
  | .tuple xs => tinys xs
  | .dict _ => false
def tinys : List PyData → Bool
  | [] => true
  | x :: xs => tiny x && tinys xs
end
mutual
theorem tiny_lay : ∀ {p : PyData}, tiny p = true → p.canLay0 = true ∧ p.showable = true ∧ p.leavesShort 13 = true
  | .none, _ => by simp [PyData.canLay0, PyData.showable, PyData.leavesShort]
  | .bool _, _ => by simp [PyData.canLay0, PyData.showable, PyData.leavesShort]
  | .int i, h => by
    unfold tiny at h
    simp only [Bool.and_eq_true, decide_eq_true_eq] at h
    refine ⟨by simp [PyData.canLay0], ?_, ?_⟩
    · unfold PyData.showable
      refine decide_eq_true (Nat.lt_of_le_of_lt (m := 40) ?_ (by decide))
      have h2 : i.natAbs < 2 ^ 41 := by omega
      by_cases h0 : i.natAbs = 0
      · rw [h0]
        decide
      · have := (Nat.log2_lt h0).mpr h2
        omega
    · unfold PyData.leavesShort
      exact decide_eq_true (PyData.shown_int_le2 h.1 h.2)
  | .str x, h => by
    unfold tiny at h
    refine ⟨by unfold PyData.canLay0; exact h, by unfold PyData.showable; rfl, ?_⟩
    unfold PyData.leavesShort
    unfold PyData.strOk at h
    rw [Array.all_eq_true'] at h
    rw [List.all_eq_true]
    intro c hc
    have := of_decide_eq_true (h c (Array.mem_toList_iff.mp hc))
    exact decide_eq_true (Nat.lt_trans this (by decide))
  | .list xs, h => by
    unfold tiny at h
    unfold PyData.canLay0 PyData.showable PyData.leavesShort
    exact tinys_lay h
  | .tuple xs, h => by
    unfold tiny at h
    unfold PyData.canLay0 PyData.showable PyData.leavesShort
    exact tinys_lay h
  | .dict _, h => by
    unfold tiny at h
    exact absurd h Bool.false_ne_true
theorem tinys_lay : ∀ {xs : List PyData}, tinys xs = true → PyData.canLayAll0 xs = true ∧ PyData.showableAll xs = true ∧ PyData.leavesShortAll 13 xs = true
  | [], _ => by simp [PyData.canLayAll0, PyData.showableAll, PyData.leavesShortAll]
  | x :: xs, h => by
    unfold tinys at h
    rw [Bool.and_eq_true] at h
    have h1 := tiny_lay h.1
    have h2 := tinys_lay h.2
    unfold PyData.canLayAll0 PyData.showableAll PyData.leavesShortAll
    rw [Bool.and_eq_true, Bool.and_eq_true, Bool.and_eq_true]
    exact ⟨⟨h1.1, h2.1⟩, ⟨h1.2.1, h2.2.1⟩, h1.2.2, h2.2.2⟩
end
/-- data that == and repr take -/
structure Nice (p : PyData) : Prop where
  shaped : SeqAt.shaped p = true
  show_ : p.showable = true
  short : p.shown.length ≤ sizeLine
  deep : p.depth ≤ 64
  plain : p.hasDict = false
theorem nice_of {p : PyData} (h : tiny p = true) (hb : p.bulk ≤ 1000000) (hd : p.depth ≤ 64) : Nice p := by
  obtain ⟨h1, h2, h3⟩ := tiny_lay h
  refine ⟨?_, h2, ?_, hd, PyData.hasDict_of_canLay _ h1⟩
  · unfold SeqAt.shaped
    rw [h1]
    exact decide_eq_true hd
  · have := PyData.shown_le_bulk 13 (by decide) p h3
    have e : sizeLine = 16777216 := by decide
    omega
theorem dEq_same {S : Sto} {a b : D} {p : PyData} (h1 : py S a = some p) (h2 : py S b = some p) (hp : SeqAt.shaped p = true) : dEqB S a b = some true := by
  have hr : PyData.eqv p p = true := SeqAt.eqv_refl p (SeqAt.canLay_of_shaped hp)
  unfold dEqB
  split
  · cases h1
    cases h2
    exact congrArg some (decide_eq_true rfl)
  · rw [h1, Option.bind_some, h2, Option.bind_some, hp, hr]
    rfl
theorem bRepr_eq {S : Sto} {a : D} {p : PyData} (h1 : py S a = some p) (hp : Nice p) : bRepr S [a] = some (.str p.shown) := by
  unfold bRepr
  show ((py S a).bind _) = _
  rw [h1, Option.bind_some, if_pos ⟨hp.show_, hp.short, hp.deep, hp.plain⟩]
/-! ### lists of ints -/
abbrev ID (xs : List Int) : List D := xs.map D.int
theorem belows_ID {n : Nat} : ∀ xs : List Int, belows n (ID xs) = true
  | [] => by
    show belows n [] = true
    unfold belows
    rfl
  | x :: xs => by
    show belows n (.int x :: ID xs) = true
    unfold belows
    rw [belows_ID xs]
    unfold below
    rfl
theorem pyDs_ID : ∀ xs : List Int, pyDs (ID xs) = some (xs.map PyData.int)
  | [] => by
    show pyDs [] = _
    simp only [pyDs]
    rfl
  | x :: xs => by
    show pyDs (.int x :: ID xs) = _
    simp only [pyDs, pyD, pyDs_ID xs]
    rfl
theorem asInts_ID : ∀ xs : List Int, asInts (ID xs) = some xs
  | [] => rfl
  | x :: xs => by
    show ((asInts (ID xs)).bind _) = _
    rw [asInts_ID xs]
    rfl
theorem flat_ID (xs : List Int) : (ID xs).all flatD = true := by
  rw [List.all_eq_true]
  intro d hd
  obtain ⟨i, _, rfl⟩ := List.mem_map.mp hd
  rfl
theorem any_ID (xs : List Int) (x : Int) : ((ID xs).any fun z => eqF z (.int x)) = decide (x ∈ xs) := by
  rw [Bool.eq_iff_iff, List.any_eq_true, decide_eq_true_eq]
  constructor
  · rintro ⟨d, hd, he⟩
    obtain ⟨i, hi, rfl⟩ := List.mem_map.mp hd
    have : i = x := eq_of_beq he
    rw [← this]
    exact hi
  · intro h
    exact ⟨.int x, List.mem_map.mpr ⟨x, h, rfl⟩, beq_self_eq_true x⟩
theorem idxF_ID {x : Int} : ∀ {xs : List Int}, x ∈ xs → idxF (.int x) (ID xs) = some (xs.idxOf x)
  | [], h => nomatch h
  | y :: r, h => by
    show (if (y == x) = true then some 0 else (idxF (.int x) (ID r)).bind fun j => some (j + 1)) = _
    by_cases e : y = x
    · rw [if_pos (beq_iff_eq.mpr e), e, List.idxOf_cons_self]
    · rw [if_neg (fun z => e (eq_of_beq z))]
      have hr : x ∈ r := by
        rcases List.mem_cons.mp h with z | z
        · exact absurd z.symm e
        · exact z
      rw [idxF_ID hr, List.idxOf_cons, show (y == x) = false from beq_eq_false_iff_ne.mpr e]
      rfl
/-- a tuple of either kind -/
def TupV (z : D) (xs : List D) : Prop := z = .tup xs ∨ z = .ftp xs
theorem TupV.of {z : D} {xs : List D} (h : TupV z xs) : tupOf z = some xs := by
  rcases h with rfl | rfl <;> rfl
theorem TupV.seq {z : D} {xs : List D} {S : Sto} (h : TupV z xs) : seqOf S z = some xs := by
  rcases h with rfl | rfl <;> rfl
theorem TupV.add {x y : D} {xs ys : List D} {S : Sto} (h1 : TupV x xs) (h2 : TupV y ys) (hz : xs.length + ys.length ≤ sizeLine) : ∃ z, dAdd S x y = some z ∧ TupV z (xs ++ ys) := by
  rcases h1 with rfl | rfl <;> rcases h2 with rfl | rfl
  · exact ⟨_, if_pos hz, .inl rfl⟩
  · refine ⟨_, if_pos hz, ?_⟩
    cases xs
    · exact .inr rfl
    · cases ys
      · exact .inl (by rw [List.append_nil]; rfl)
      · exact .inl rfl
  · refine ⟨_, if_pos hz, ?_⟩
    cases xs
    · exact .inl rfl
    · cases ys
      · exact .inr (by rw [List.append_nil]; rfl)
      · exact .inl rfl
  · exact ⟨_, if_pos hz, .inr rfl⟩
end Mi
namespace Mi
open PySem PySem.Spec PyProof.Rows L2
section
variable {ρ : Env} {S S1 S2 : Sto} {gt : MG} {body : MS} {fo fi : ME} {x y d : D} {w : MA}
theorem forL_inv (xs : List D) (P : Nat → Env → Sto → Prop) (step : ∀ (i : Nat) (h : i < xs.length) ρ S, P i ρ S → ∃ ρ1 S1 ρ2 S2, gt xs[i] ρ S = some (ρ1, S1) ∧ body ρ1 S1 = some (.nx ρ2, S2) ∧ P (i + 1) ρ2 S2) (p : P 0 ρ S) :
    ∃ ρ2 S2, forI (tnL xs) gt body xs.length 0 ρ S = some (.nx ρ2, S2) ∧ P xs.length ρ2 S2 := by
  have hg : ∀ (i : Nat) (h : i < xs.length), xs.getD i .non = xs[i] := fun i h => by
    rw [List.getD_eq_getElem?_getD, List.getElem?_eq_getElem h]
    rfl
  refine forI_inv (fun i => xs.getD i .non) P (fun i ρ S hi _ => ?_) (fun i ρ S hi pi => ?_) xs.length 0 ρ S rfl p
  · show some xs[i]? = _
    split
    · rename_i h
      rw [List.getElem?_eq_getElem h, hg i h]
    · rw [List.getElem?_eq_none_iff.mpr (by omega)]
  · rw [hg i hi]
    exact step i hi ρ S pi
theorem dget_eq (h1 : fo ρ S = some (x, S1)) (h2 : fi ρ S1 = some (y, S2)) (h3 : dLook S2 x y = some (some d)) : mDGet fo fi ρ S = some (d, S2) := by
  unfold mDGet
  rw [h1, Option.bind_some, h2, Option.bind_some, h3]
  rfl
theorem din_eq {o : Option D} {neg : Bool} (h1 : fi ρ S = some (y, S1)) (h2 : fo ρ S1 = some (x, S2)) (h3 : dLook S2 x y = some o) : mDIn neg fi fo ρ S = some (.bl (if neg then !o.isSome else o.isSome), S2) := by
  unfold mDIn
  rw [h1, Option.bind_some, h2, Option.bind_some, h3]
  rfl
theorem dLook_int {kk : Nat} {kvs : List (Key × D)} {i : Int} (h : S[kk]? = some (.dk kvs)) : dLook S (.obj kk) (.int i) = some (valD kvs (.inl i : Key)) := by
  show ((match S[kk]? with | some (.dk ds) => some ds | _ => none : Option (List (Key × D))).bind _) = _
  rw [h]
  rfl
theorem at_last {c : C} : (S ++ [c])[S.length]? = some c := by
  rw [List.getElem?_append_right (Nat.le_refl _), Nat.sub_self]
  rfl
theorem set_last {c c' : C} : (S ++ [c]).set S.length c' = S ++ [c'] := by
  rw [List.set_append_right _ _ (Nat.le_refl _), Nat.sub_self]
  rfl
theorem dset_eq {fv : ME} {v : D} {S3 S4 : Sto} (h0 : fv ρ S = some (v, S1)) (h1 : fo ρ S1 = some (x, S2)) (h2 : fi ρ S2 = some (y, S3)) (h3 : dStore S3 x y v = some S4) : mDSet fv fo fi ρ S = some (.nx ρ, S4) := by
  unfold mDSet
  rw [h0, Option.bind_some, h1, Option.bind_some, h2, Option.bind_some, h3]
  rfl
theorem dStore_int {kk : Nat} {kvs : List (Key × D)} {i : Int} {v : D} (h : S[kk]? = some (.dk kvs)) (hz : kvs.length < sizeLine) : dStore S (.obj kk) (.int i) v = some (S.set kk (.dk (putD kvs (.inl i : Key) v))) := by
  unfold dStore
  show (match S[kk]? with | some (.dk kvs) => ((keyD (.int i)).bind fun ky => if kvs.length < sizeLine then some (S.set kk (.dk (putD kvs ky v))) else none) | some (.dt kvs) => _ | _ => none) = _
  rw [h]
  exact if_pos hz
theorem len_dk {kk : Nat} {kvs : List (Key × D)} (h : S[kk]? = some (.dk kvs)) : bLen S [.obj kk] = some (.int kvs.length) := by
  have e : seqOf S (.obj kk) = none := by
    show (match S[kk]? with | some (.lst ds) => some ds | _ => none) = _
    rw [h]
  unfold bLen
  show (((seqOf S (.obj kk)).bind fun xs => some (D.int xs.length)).or (match S[kk]? with | some (.dk kvs) => some (D.int kvs.length) | _ => none)) = _
  rw [e, h]
  rfl
theorem len_seq {xs : List D} (h : seqOf S d = some xs) (hs : ∀ z, d ≠ .str z) : bLen S [d] = some (.int xs.length) := by
  unfold bLen
  split
  · rename_i z hz
    exact absurd (List.cons.inj hz).1 (hs z)
  · rename_i d0 _ e
    have e1 : d = d0 := (List.cons.inj e).1
    subst e1
    rw [h]
    rfl
  · rename_i h1 h2
    exact absurd rfl (h2 d)
/-! ### numbers of the first places -/
def kvF : Nat → List Int → List (Key × D)
  | _, [] => []
  | k, x :: r => (.inl x, .int (k : Nat)) :: kvF (k + 1) r
theorem kvF_len : ∀ (u : List Int) (k : Nat), (kvF k u).length = u.length
  | [], _ => rfl
  | _ :: r, k => congrArg (· + 1) (kvF_len r (k + 1))
theorem kvF_app : ∀ (u v : List Int) (k : Nat), kvF k (u ++ v) = kvF k u ++ kvF (k + u.length) v
  | [], v, k => rfl
  | x :: r, v, k => by
    show _ :: kvF (k + 1) (r ++ v) = _ :: (kvF (k + 1) r ++ kvF (k + (r.length + 1)) v)
    rw [kvF_app r v (k + 1), show k + 1 + r.length = k + (r.length + 1) by omega]
theorem valD_kvF {x : Int} : ∀ (u : List Int) (k : Nat), valD (kvF k u) (.inl x : Key) = if x ∈ u then some (.int ((k + u.idxOf x : Nat) : Int)) else none
  | [], _ => by
    rw [if_neg (by simp)]
    rfl
  | y :: r, k => by
    show valD ((.inl y, .int (k : Nat)) :: kvF (k + 1) r) _ = _
    rw [valD_cons, List.idxOf_cons]
    by_cases e : y = x
    · subst e
      rw [if_pos rfl, if_pos List.mem_cons_self, beq_self_eq_true]
      rfl
    · rw [if_neg (fun z => e (Sum.inl.inj z)), valD_kvF r (k + 1), beq_eq_false_iff_ne.mpr e]
      by_cases h : x ∈ r
      · rw [if_pos h, if_pos (List.mem_cons_of_mem _ h)]
        show some (D.int ((k + 1 + r.idxOf x : Nat) : Int)) = some (D.int ((k + (r.idxOf x + 1) : Nat) : Int))
        rw [show k + 1 + r.idxOf x = k + (r.idxOf x + 1) by omega]
      · rw [if_neg h, if_neg fun z => by
          rcases List.mem_cons.mp z with q | q
          · exact e q.symm
          · exact h q]
theorem any_kvF {x : Int} : ∀ (u : List Int) (k : Nat), x ∉ u → ((kvF k u).any fun kv => decide (kv.1 = (.inl x : Key))) = false
  | [], _, _ => rfl
  | y :: r, k, h => by
    show (decide ((.inl y : Key) = .inl x) || _) = false
    rw [any_kvF r (k + 1) fun z => h (List.mem_cons_of_mem _ z), decide_eq_false fun z => h (by rw [Sum.inl.inj z]; exact List.mem_cons_self)]
    rfl
theorem putD_kvF {x : Int} {u : List Int} (h : x ∉ u) : putD (kvF 0 u) (.inl x : Key) (.int (u.length : Nat)) = kvF 0 (u ++ [x]) := by
  unfold putD
  rw [any_kvF u 0 h, if_neg Bool.false_ne_true, kvF_app, Nat.zero_add]
  rfl
theorem below_kvF {n : Nat} : ∀ (u : List Int) (k : Nat), belowK n (kvF k u) = true
  | [], _ => by
    show belowK n [] = true
    unfold belowK
    rfl
  | x :: r, k => by
    show belowK n ((.inl x, .int (k : Nat)) :: kvF (k + 1) r) = true
    unfold belowK
    rw [below_kvF r (k + 1)]
    unfold below
    rfl
def gI (f : Int → Int) : D → D
  | .int i => .int (f i)
  | d => d
theorem map_gI {f : Int → Int} (xs : List Int) : (ID xs).map (gI f) = ID (xs.map f) := by
  rw [List.map_map]
  show xs.map (fun i => D.int (f i)) = (xs.map f).map D.int
  rw [List.map_map]
  rfl
end
end Mi
namespace K65
open PySem PySem.Spec PyProof.Rows L2 Mi
def topS (i : Nat) : Stmt := PySem.Challenge.pw_saidearly_k65_patterns_of_letters_that_c.main.body.getD i (.Pass ⟨0, 0, 0, 0⟩)
/-! ### pattern_of -/
abbrev s_pattern_of : Stmt := topS 1
theorem sc_pattern_of : FnScope ["left", "right", "numbers", "letter"] ["left", "right"] (defScope s_pattern_of) := ⟨rfl, rfl, rfl, by decide +kernel, rfl, by decide +kernel, by decide +kernel⟩
def B_pattern_of : MS := (mSeq (mNew mDictK 2)
  (mSeq (mFor (mItL (mOfL (mLst (mStar (mVar 0) (mStar (mVar 1) mNil))))) (mName 3) (mIfS (mT (mDIn true (mVar 3) (mVar 2))) (mDSet (mCB bLen (mCons (mVar 2) mNil)) (mVar 2) (mVar 3)) mSkip))
  (mRet (mTup (mCons (mCB bTupleF (mCons (mOfL (mLc (mItT (mVar 0)) (mName 3) mYes (mDGet (mVar 2) (mVar 3)) [3])) mNil)) (mCons (mCB bTupleF (mCons (mOfL (mLc (mItT (mVar 1)) (mName 3) mYes (mDGet (mVar 2) (mVar 3)) [3])) mNil)) mNil))))))
def F_pattern_of : MF := mFun 2 4 B_pattern_of
theorem d_pattern_of {W : Wd} (b_len : W.mg "len" = none) (b_tuple : W.mg "tuple" = none) : Mss (gOf W ["left", "right", "numbers", "letter"] (defScope s_pattern_of) 0) (defBody s_pattern_of) B_pattern_of :=
  (mss_cons (mst_new 2 ml_dictK (by dsimp only [gOf, G.blk]; decide +kernel))
    (mss_cons (mst_for (mi_list (ms_ofL (ml_lst (ma_star (ms_var 0 (by dsimp only [gOf, G.blk]; decide +kernel)) (ma_star (ms_var 1 (by dsimp only [gOf, G.blk]; decide +kernel)) ma_nil))))) (mg_name 3 (by dsimp only [gOf, G.blk]; decide +kernel)) (mss_one (mst_if (mt_dnotin (ms_var 3 (by dsimp only [gOf, G.blk]; decide +kernel)) (ms_var 2 (by dsimp only [gOf, G.blk]; decide +kernel))) (mss_one (mst_dset (ms_callB good_len b_len rfl (ma_cons (ms_var 2 (by dsimp only [gOf, G.blk]; decide +kernel)) ma_nil) (by dsimp only [gOf, G.blk]; decide +kernel)) (ms_var 2 (by dsimp only [gOf, G.blk]; decide +kernel)) (ms_var 3 (by dsimp only [gOf, G.blk]; decide +kernel)))) mss_nil)))
    (mss_one (mst_ret (ms_tup (ma_cons (ms_callT good_tupleF b_tuple rfl (ma_cons (ms_ofL (ml_lc (own := [("letter", 3)]) (mi_tup (ms_var 0 (by dsimp only [gOf, G.blk]; decide +kernel))) (by dsimp only [gOf, G.blk]; decide +kernel) (mgc_name 3 (by dsimp only [gOf, G.blk]; decide +kernel) (by decide)) mts_nil (ms_dget (ms_var 2 (by dsimp only [gOf, G.blk]; decide +kernel)) (ms_var 3 (by dsimp only [gOf, G.blk]; decide +kernel))))) ma_nil) (by dsimp only [gOf, G.blk]; decide +kernel)) (ma_cons (ms_callT good_tupleF b_tuple rfl (ma_cons (ms_ofL (ml_lc (own := [("letter", 3)]) (mi_tup (ms_var 1 (by dsimp only [gOf, G.blk]; decide +kernel))) (by dsimp only [gOf, G.blk]; decide +kernel) (mgc_name 3 (by dsimp only [gOf, G.blk]; decide +kernel) (by decide)) mts_nil (ms_dget (ms_var 2 (by dsimp only [gOf, G.blk]; decide +kernel)) (ms_var 3 (by dsimp only [gOf, G.blk]; decide +kernel))))) ma_nil) (by dsimp only [gOf, G.blk]; decide +kernel)) ma_nil)))))))
theorem k_pattern_of {W : Wd} {f : Addr} {fd : FuncData} (b_len : W.mg "len" = none) (b_tuple : W.mg "tuple" = none) (F : L2.Fun W.K "pattern_of" "pattern_of" s_pattern_of f fd) (hm : W.mg "pattern_of" = some (.ref f)) (hb : Binds W.K fd ["left", "right"] []) : Kn W "pattern_of" 1 2 F_pattern_of :=
  kn_of F sc_pattern_of hm hb (d_pattern_of b_len b_tuple)
/-! ### size_of -/
abbrev s_size_of : Stmt := topS 2
theorem sc_size_of : FnScope ["pattern"] ["pattern"] (defScope s_size_of) := ⟨rfl, rfl, rfl, by decide +kernel, rfl, by decide +kernel, by decide +kernel⟩
def B_size_of : MS := (mRet (mOp dAdd (mC (.int 1)) (mCB bMax (mCons (mOfL (mLst (mCons (mNeg (mC (.int 1))) (mStar (mOp dIx (mVar 0) (mC (.int 0))) (mStar (mOp dIx (mVar 0) (mC (.int 1))) mNil))))) mNil))))
def F_size_of : MF := mFun 1 1 B_size_of
theorem d_size_of {W : Wd} (b_max : W.mg "max" = none) : Mss (gOf W ["pattern"] (defScope s_size_of) 0) (defBody s_size_of) B_size_of :=
  (mss_one (mst_ret (ms_op good_add ms_int (ms_callB good_max b_max rfl (ma_cons (ms_ofL (ml_lst (ma_cons (ms_neg ms_int) (ma_star (ms_ix (ms_var 0 (by dsimp only [gOf, G.blk]; decide +kernel)) ms_int) (ma_star (ms_ix (ms_var 0 (by dsimp only [gOf, G.blk]; decide +kernel)) ms_int) ma_nil))))) ma_nil) (by dsimp only [gOf, G.blk]; decide +kernel)))))
theorem k_size_of {W : Wd} {f : Addr} {fd : FuncData} (b_max : W.mg "max" = none) (F : L2.Fun W.K "size_of" "size_of" s_size_of f fd) (hm : W.mg "size_of" = some (.ref f)) (hb : Binds W.K fd ["pattern"] []) : Kn W "size_of" 1 1 F_size_of :=
  kn_of F sc_size_of hm hb (d_size_of b_max)
/-! ### ticks -/
abbrev s_ticks : Stmt := topS 3
theorem sc_ticks : FnScope ["pattern", "size", "x", "y"] ["pattern"] (defScope s_ticks) := ⟨rfl, rfl, rfl, by decide +kernel, rfl, by decide +kernel, by decide +kernel⟩
def B_ticks : MS := (mSeq (mAsg (mCall F_size_of (mCons (mVar 0) mNil)) (mName 1))
  (mRetL (mLc2 (mItR1 (mCons (mOp dAdd (mVar 1) (mC (.int 1))) mNil)) (mName 2) mYes (mItR1 (mCons (mOp dAdd (mOp dAdd (mVar 1) (mC (.int 1))) (mCB bInt (mCons (mOp dEq (mVar 2) (mVar 1)) mNil))) mNil)) (mName 3) mYes (mTup (mCons (mVar 2) (mCons (mVar 3) mNil))) [2, 3] [3])))
def F_ticks : MFL := mFunL 1 4 B_ticks
theorem d_ticks {W : Wd} (b_int : W.mg "int" = none) (b_range : W.mg "range" = none) (K_size_of : Kn W "size_of" 1 1 F_size_of) : Mss (gOf W ["pattern", "size", "x", "y"] (defScope s_ticks) 1) (defBody s_ticks) B_ticks :=
  (mss_cons (mst_set 1 (ms_call (hj := (by decide : 1 ≤ 1)) K_size_of (ma_cons (ms_var 0 (by dsimp only [gOf, G.blk]; decide +kernel)) ma_nil) (hg := (by dsimp only [gOf, G.blk]; decide +kernel))) (by dsimp only [gOf, G.blk]; decide +kernel))
    (mss_one (mst_retL (ml_lc2 (own := [("x", 2), ("y", 3)]) (vs1 := [3]) (mi_range1 b_range (ma_cons (ms_op good_add (ms_var 1 (by dsimp only [gOf, G.blk]; decide +kernel)) ms_int) ma_nil) (by dsimp only [gOf, G.blk]; decide +kernel)) (by dsimp only [gOf, G.blk]; decide +kernel) (by decide) (mgc_name 2 (by dsimp only [gOf, G.blk]; decide +kernel) (by decide)) mts_nil (mi_range1 b_range (ma_cons (ms_op good_add (ms_op good_add (ms_var 1 (by dsimp only [gOf, G.blk]; decide +kernel)) ms_int) (ms_callT good_int b_int rfl (ma_cons (ms_cmp good_eq (ms_var 2 (by dsimp only [gOf, G.blk]; decide +kernel)) (ms_var 1 (by dsimp only [gOf, G.blk]; decide +kernel))) ma_nil) (by dsimp only [gOf, G.blk]; decide +kernel))) ma_nil) (by dsimp only [gOf, G.blk]; decide +kernel)) (mgc_name 3 (by dsimp only [gOf, G.blk]; decide +kernel) (by decide)) mts_nil (ms_tup (ma_cons (ms_var 2 (by dsimp only [gOf, G.blk]; decide +kernel)) (ma_cons (ms_var 3 (by dsimp only [gOf, G.blk]; decide +kernel)) ma_nil)))))))
theorem k_ticks {W : Wd} {f : Addr} {fd : FuncData} (b_int : W.mg "int" = none) (b_range : W.mg "range" = none) (K_size_of : Kn W "size_of" 1 1 F_size_of) (F : L2.Fun W.K "ticks" "ticks" s_ticks f fd) (hm : W.mg "ticks" = some (.ref f)) (hb : Binds W.K fd ["pattern"] []) : KnL W "ticks" 2 1 F_ticks :=
  knL_of F sc_ticks hm hb (d_ticks b_int b_range K_size_of)
/-! ### tick_of -/
abbrev s_tick_of : Stmt := topS 4
theorem sc_tick_of : FnScope ["left", "right", "x", "y", "numbers", "letter"] ["left", "right", "x", "y"] (defScope s_tick_of) := ⟨rfl, rfl, rfl, by decide +kernel, rfl, by decide +kernel, by decide +kernel⟩
def B_tick_of : MS := (mSeq (mNew mDictK 4)
  (mSeq (mFor (mItL (mOfL (mLst (mStar (mVar 0) (mStar (mVar 1) (mCons (mVar 2) (mCons (mVar 3) mNil))))))) (mName 5) (mIfS (mT (mDIn true (mVar 5) (mVar 4))) (mDSet (mCB bLen (mCons (mVar 4) mNil)) (mVar 4) (mVar 5)) mSkip))
  (mRet (mTup (mCons (mDGet (mVar 4) (mVar 2)) (mCons (mDGet (mVar 4) (mVar 3)) mNil))))))
def F_tick_of : MF := mFun 4 6 B_tick_of
theorem d_tick_of {W : Wd} (b_len : W.mg "len" = none) : Mss (gOf W ["left", "right", "x", "y", "numbers", "letter"] (defScope s_tick_of) 0) (defBody s_tick_of) B_tick_of :=
  (mss_cons (mst_new 4 ml_dictK (by dsimp only [gOf, G.blk]; decide +kernel))
    (mss_cons (mst_for (mi_list (ms_ofL (ml_lst (ma_star (ms_var 0 (by dsimp only [gOf, G.blk]; decide +kernel)) (ma_star (ms_var 1 (by dsimp only [gOf, G.blk]; decide +kernel)) (ma_cons (ms_var 2 (by dsimp only [gOf, G.blk]; decide +kernel)) (ma_cons (ms_var 3 (by dsimp only [gOf, G.blk]; decide +kernel)) ma_nil))))))) (mg_name 5 (by dsimp only [gOf, G.blk]; decide +kernel)) (mss_one (mst_if (mt_dnotin (ms_var 5 (by dsimp only [gOf, G.blk]; decide +kernel)) (ms_var 4 (by dsimp only [gOf, G.blk]; decide +kernel))) (mss_one (mst_dset (ms_callB good_len b_len rfl (ma_cons (ms_var 4 (by dsimp only [gOf, G.blk]; decide +kernel)) ma_nil) (by dsimp only [gOf, G.blk]; decide +kernel)) (ms_var 4 (by dsimp only [gOf, G.blk]; decide +kernel)) (ms_var 5 (by dsimp only [gOf, G.blk]; decide +kernel)))) mss_nil)))
    (mss_one (mst_ret (ms_tup (ma_cons (ms_dget (ms_var 4 (by dsimp only [gOf, G.blk]; decide +kernel)) (ms_var 2 (by dsimp only [gOf, G.blk]; decide +kernel))) (ma_cons (ms_dget (ms_var 4 (by dsimp only [gOf, G.blk]; decide +kernel)) (ms_var 3 (by dsimp only [gOf, G.blk]; decide +kernel))) ma_nil)))))))
theorem k_tick_of {W : Wd} {f : Addr} {fd : FuncData} (b_len : W.mg "len" = none) (F : L2.Fun W.K "tick_of" "tick_of" s_tick_of f fd) (hm : W.mg "tick_of" = some (.ref f)) (hb : Binds W.K fd ["left", "right", "x", "y"] []) : Kn W "tick_of" 1 4 F_tick_of :=
  kn_of F sc_tick_of hm hb (d_tick_of b_len)
/-! ### grown -/
abbrev s_grown : Stmt := topS 5
theorem sc_grown : FnScope ["pattern", "tick", "left", "right"] ["pattern", "tick"] (defScope s_grown) := ⟨rfl, rfl, rfl, by decide +kernel, rfl, by decide +kernel, by decide +kernel⟩
def B_grown : MS := (mSeq (mAsg (mVar 0) (mTg 2 (mgCons (mName 2) (mgCons (mName 3) mgNil))))
  (mRet (mCall F_pattern_of (mCons (mTup (mStar (mVar 2) (mCons (mOp dIx (mVar 1) (mC (.int 0))) mNil))) (mCons (mTup (mStar (mVar 3) (mCons (mOp dIx (mVar 1) (mC (.int 1))) mNil))) mNil)))))
def F_grown : MF := mFun 2 4 B_grown
theorem d_grown {W : Wd} (K_pattern_of : Kn W "pattern_of" 1 2 F_pattern_of) : Mss (gOf W ["pattern", "tick", "left", "right"] (defScope s_grown) 1) (defBody s_grown) B_grown :=
  (mss_cons (mst_asg (ms_var 0 (by dsimp only [gOf, G.blk]; decide +kernel)) (mg_tup (n := 2) (mgs_cons (mg_name 2 (by dsimp only [gOf, G.blk]; decide +kernel)) (mgs_cons (mg_name 3 (by dsimp only [gOf, G.blk]; decide +kernel)) mgs_nil))) (hw := fun _ _ => rfl))
    (mss_one (mst_ret (ms_call (hj := (by decide : 1 ≤ 1)) K_pattern_of (ma_cons (ms_tup (ma_star (ms_var 2 (by dsimp only [gOf, G.blk]; decide +kernel)) (ma_cons (ms_ix (ms_var 1 (by dsimp only [gOf, G.blk]; decide +kernel)) ms_int) ma_nil))) (ma_cons (ms_tup (ma_star (ms_var 3 (by dsimp only [gOf, G.blk]; decide +kernel)) (ma_cons (ms_ix (ms_var 1 (by dsimp only [gOf, G.blk]; decide +kernel)) ms_int) ma_nil))) ma_nil)) (hg := (by dsimp only [gOf, G.blk]; decide +kernel))))))
theorem k_grown {W : Wd} {f : Addr} {fd : FuncData} (K_pattern_of : Kn W "pattern_of" 1 2 F_pattern_of) (F : L2.Fun W.K "grown" "grown" s_grown f fd) (hm : W.mg "grown" = some (.ref f)) (hb : Binds W.K fd ["pattern", "tick"] []) : Kn W "grown" 2 2 F_grown :=
  kn_of F sc_grown hm hb (d_grown K_pattern_of)
/-! ### cut -/
abbrev s_cut : Stmt := topS 6
theorem sc_cut : FnScope ["pattern", "left", "right"] ["pattern", "left", "right"] (defScope s_cut) := ⟨rfl, rfl, rfl, by decide +kernel, rfl, by decide +kernel, by decide +kernel⟩
def B_cut : MS := (mRet (mCall F_pattern_of (mCons (mSlT (mOp dIx (mVar 0) (mC (.int 0))) (mOS (mVar 1)) mON) (mCons (mSlT (mOp dIx (mVar 0) (mC (.int 1))) (mOS (mVar 2)) mON) mNil))))
def F_cut : MF := mFun 3 3 B_cut
theorem d_cut {W : Wd} (K_pattern_of : Kn W "pattern_of" 1 2 F_pattern_of) : Mss (gOf W ["pattern", "left", "right"] (defScope s_cut) 1) (defBody s_cut) B_cut :=
  (mss_one (mst_ret (ms_call (hj := (by decide : 1 ≤ 1)) K_pattern_of (ma_cons (ms_slT (ms_ix (ms_var 0 (by dsimp only [gOf, G.blk]; decide +kernel)) ms_int) (mo_some (ms_var 1 (by dsimp only [gOf, G.blk]; decide +kernel))) mo_none) (ma_cons (ms_slT (ms_ix (ms_var 0 (by dsimp only [gOf, G.blk]; decide +kernel)) ms_int) (mo_some (ms_var 2 (by dsimp only [gOf, G.blk]; decide +kernel))) mo_none) ma_nil)) (hg := (by dsimp only [gOf, G.blk]; decide +kernel)))))
theorem k_cut {W : Wd} {f : Addr} {fd : FuncData} (K_pattern_of : Kn W "pattern_of" 1 2 F_pattern_of) (F : L2.Fun W.K "cut" "cut" s_cut f fd) (hm : W.mg "cut" = some (.ref f)) (hb : Binds W.K fd ["pattern", "left", "right"] []) : Kn W "cut" 2 3 F_cut :=
  kn_of F sc_cut hm hb (d_cut K_pattern_of)
/-! ### _law_bag -/
abbrev s_L_bag : Stmt := topS 8
theorem sc_L_bag : FnScope ["_law_script", "_law_cell"] ["_law_script"] (defScope s_L_bag) := ⟨rfl, rfl, rfl, by decide +kernel, rfl, by decide +kernel, by decide +kernel⟩
def B_L_bag : MS := (mRetL (mLst (mCons (mC (.int 0)) (mCons (mC (.int 1234567891)) (mCons (mC (.int 0)) (mCons (mOfL (mLc (mItL (mOfL (mSlL (mVar 0) mON (mOS (mC (.int 63)))))) (mName 1) mYes (mCB bAbs (mCons (mVar 1) mNil)) [1])) mNil))))))
def F_L_bag : MFL := mFunL 1 2 B_L_bag
theorem d_L_bag {W : Wd} (b_abs : W.mg "abs" = none) : Mss (gOf W ["_law_script", "_law_cell"] (defScope s_L_bag) 0) (defBody s_L_bag) B_L_bag :=
  (mss_one (mst_retL (ml_lst (ma_cons ms_int (ma_cons ms_int (ma_cons ms_int (ma_cons (ms_ofL (ml_lc (own := [("_law_cell", 1)]) (mi_list (ms_ofL (ml_sl (ms_var 0 (by dsimp only [gOf, G.blk]; decide +kernel)) mo_none (mo_some ms_int)))) (by dsimp only [gOf, G.blk]; decide +kernel) (mgc_name 1 (by dsimp only [gOf, G.blk]; decide +kernel) (by decide)) mts_nil (ms_callB good_abs b_abs rfl (ma_cons (ms_var 1 (by dsimp only [gOf, G.blk]; decide +kernel)) ma_nil) (by dsimp only [gOf, G.blk]; decide +kernel)))) ma_nil)))))))
theorem k_L_bag {W : Wd} {f : Addr} {fd : FuncData} (b_abs : W.mg "abs" = none) (F : L2.Fun W.K "_law_bag" "_law_bag" s_L_bag f fd) (hm : W.mg "_law_bag" = some (.ref f)) (hb : Binds W.K fd ["_law_script"] []) : KnL W "_law_bag" 1 1 F_L_bag :=
  knL_of F sc_L_bag hm hb (d_L_bag b_abs)
/-! ### _law_take -/
abbrev s_L_take : Stmt := topS 9
theorem sc_L_take : FnScope ["_law_bag_here", "_law_many", "_law_cell", "_law_mixed_here", "_law_drawn", "_law_early", "_law_second"] ["_law_bag_here", "_law_many"] (defScope s_L_take) := ⟨rfl, rfl, rfl, by decide +kernel, rfl, by decide +kernel, by decide +kernel⟩
def B_L_take : MS := (mSeq (mIfS (mT (mOp dEq (mOp dIx (mVar 0) (mC (.int 0))) (mC (.int 0)))) (mSeq (mAsg (mOp dIx (mOp dAdd (mOfL (mSlL (mOp dIx (mVar 0) (mC (.int 3))) (mOS (mOp dIx (mVar 0) (mC (.int 2)))) mON)) (mOfL (mLst (mCons (mC (.int 0)) mNil)))) (mC (.int 0))) (mName 2))
  (mSeq (mAugL (· + ·) (mVar 0) (mC (.int 2)) (mC (.int 1)))
  (mSeq (mAsg (mOp dMul (mVar 2) (mCB bInt (mCons (mOp dGe (mVar 2) (mOp dPow (mC (.int 10)) (mC (.int 18)))) mNil))) (mSetL (mVar 0) (mC (.int 0))))
  (mSeq (mAsg (mOp dAdd (mOp dAdd (mOp dMul (mOp dIx (mVar 0) (mC (.int 1))) (mC (.int 48271))) (mOp dMod (mCB bInt (mCons (mVar 2) mNil)) (mC (.int 2147483647)))) (mOp dMul (mC (.int 7919)) (mOp dIx (mVar 0) (mC (.int 2))))) (mName 3))
  (mAsg (mOp dMod (mCB bInt (mCons (mVar 3) mNil)) (mC (.int 2147483647))) (mSetL (mVar 0) (mC (.int 1)))))))) mSkip)
  (mSeq (mIfS (mT (mOp dGt (mOp dIx (mVar 0) (mC (.int 0))) (mC (.int 0)))) (mSeq (mAsg (mOp dMod (mCB bInt (mCons (mOp dIx (mVar 0) (mC (.int 0))) mNil)) (mVar 1)) (mName 4))
  (mSeq (mAsg (mOp dFdiv (mCB bInt (mCons (mOp dIx (mVar 0) (mC (.int 0))) mNil)) (mVar 1)) (mSetL (mVar 0) (mC (.int 0))))
  (mRet (mVar 4)))) mSkip)
  (mSeq (mAsg (mOp dMod (mCB bInt (mCons (mOp dMul (mOp dAdd (mOp dIx (mVar 0) (mC (.int 1))) (mC (.int 1))) (mC (.int 39373))) mNil)) (mC (.int 1000000007))) (mName 5))
  (mSeq (mAsg (mOp dMod (mCB bInt (mCons (mOp dMul (mOp dMod (mCB bInt (mCons (mOp dMul (mVar 5) (mVar 5)) mNil)) (mC (.int 998244353))) (mC (.int 30011))) mNil)) (mC (.int 998244353))) (mName 6))
  (mRet (mOp dMod (mCB bInt (mCons (mOp dFdiv (mVar 6) (mC (.int 7))) mNil)) (mVar 1)))))))
def F_L_take : MF := mFun 2 7 B_L_take
theorem d_L_take {W : Wd} (b_int : W.mg "int" = none) : Mss (gOf W ["_law_bag_here", "_law_many", "_law_cell", "_law_mixed_here", "_law_drawn", "_law_early", "_law_second"] (defScope s_L_take) 0) (defBody s_L_take) B_L_take :=
  (mss_cons (mst_if (mt_cmp good_eq (ms_ix (ms_var 0 (by dsimp only [gOf, G.blk]; decide +kernel)) ms_int) ms_int) (mss_cons (mst_set 2 (ms_ix (ms_op good_add (ms_ofL (ml_sl (ms_ix (ms_var 0 (by dsimp only [gOf, G.blk]; decide +kernel)) ms_int) (mo_some (ms_ix (ms_var 0 (by dsimp only [gOf, G.blk]; decide +kernel)) ms_int)) mo_none)) (ms_ofL (ml_lst (ma_cons ms_int ma_nil)))) ms_int) (by dsimp only [gOf, G.blk]; decide +kernel))
    (mss_cons (mst_augL (ms_var 0 (by dsimp only [gOf, G.blk]; decide +kernel)) ms_int ms_int fun _ => ip_add)
    (mss_cons (mst_asg (ms_op good_mul (ms_var 2 (by dsimp only [gOf, G.blk]; decide +kernel)) (ms_callT good_int b_int rfl (ma_cons (ms_cmp good_ge (ms_var 2 (by dsimp only [gOf, G.blk]; decide +kernel)) (ms_op good_pow ms_int ms_int)) ma_nil) (by dsimp only [gOf, G.blk]; decide +kernel))) (mg_subL (ms_var 0 (by dsimp only [gOf, G.blk]; decide +kernel)) ms_int) (hw := fun _ _ => rfl))
    (mss_cons (mst_set 3 (ms_op good_add (ms_op good_add (ms_op good_mul (ms_ix (ms_var 0 (by dsimp only [gOf, G.blk]; decide +kernel)) ms_int) ms_int) (ms_op good_mod (ms_callT good_int b_int rfl (ma_cons (ms_var 2 (by dsimp only [gOf, G.blk]; decide +kernel)) ma_nil) (by dsimp only [gOf, G.blk]; decide +kernel)) ms_int)) (ms_op good_mul ms_int (ms_ix (ms_var 0 (by dsimp only [gOf, G.blk]; decide +kernel)) ms_int))) (by dsimp only [gOf, G.blk]; decide +kernel))
    (mss_one (mst_asg (ms_op good_mod (ms_callT good_int b_int rfl (ma_cons (ms_var 3 (by dsimp only [gOf, G.blk]; decide +kernel)) ma_nil) (by dsimp only [gOf, G.blk]; decide +kernel)) ms_int) (mg_subL (ms_var 0 (by dsimp only [gOf, G.blk]; decide +kernel)) ms_int) (hw := fun _ _ => rfl))))))) mss_nil)
    (mss_cons (mst_if (mt_cmp good_gt (ms_ix (ms_var 0 (by dsimp only [gOf, G.blk]; decide +kernel)) ms_int) ms_int) (mss_cons (mst_set 4 (ms_op good_mod (ms_callT good_int b_int rfl (ma_cons (ms_ix (ms_var 0 (by dsimp only [gOf, G.blk]; decide +kernel)) ms_int) ma_nil) (by dsimp only [gOf, G.blk]; decide +kernel)) (ms_var 1 (by dsimp only [gOf, G.blk]; decide +kernel))) (by dsimp only [gOf, G.blk]; decide +kernel))
    (mss_cons (mst_asg (ms_op good_fdiv (ms_callT good_int b_int rfl (ma_cons (ms_ix (ms_var 0 (by dsimp only [gOf, G.blk]; decide +kernel)) ms_int) ma_nil) (by dsimp only [gOf, G.blk]; decide +kernel)) (ms_var 1 (by dsimp only [gOf, G.blk]; decide +kernel))) (mg_subL (ms_var 0 (by dsimp only [gOf, G.blk]; decide +kernel)) ms_int) (hw := fun _ _ => rfl))
    (mss_one (mst_ret (ms_var 4 (by dsimp only [gOf, G.blk]; decide +kernel)))))) mss_nil)
    (mss_cons (mst_set 5 (ms_op good_mod (ms_callT good_int b_int rfl (ma_cons (ms_op good_mul (ms_op good_add (ms_ix (ms_var 0 (by dsimp only [gOf, G.blk]; decide +kernel)) ms_int) ms_int) ms_int) ma_nil) (by dsimp only [gOf, G.blk]; decide +kernel)) ms_int) (by dsimp only [gOf, G.blk]; decide +kernel))
    (mss_cons (mst_set 6 (ms_op good_mod (ms_callT good_int b_int rfl (ma_cons (ms_op good_mul (ms_op good_mod (ms_callT good_int b_int rfl (ma_cons (ms_op good_mul (ms_var 5 (by dsimp only [gOf, G.blk]; decide +kernel)) (ms_var 5 (by dsimp only [gOf, G.blk]; decide +kernel))) ma_nil) (by dsimp only [gOf, G.blk]; decide +kernel)) ms_int) ms_int) ma_nil) (by dsimp only [gOf, G.blk]; decide +kernel)) ms_int) (by dsimp only [gOf, G.blk]; decide +kernel))
    (mss_one (mst_ret (ms_op good_mod (ms_callT good_int b_int rfl (ma_cons (ms_op good_fdiv (ms_var 6 (by dsimp only [gOf, G.blk]; decide +kernel)) ms_int) ma_nil) (by dsimp only [gOf, G.blk]; decide +kernel)) (ms_var 1 (by dsimp only [gOf, G.blk]; decide +kernel)))))))))
theorem k_L_take {W : Wd} {f : Addr} {fd : FuncData} (b_int : W.mg "int" = none) (F : L2.Fun W.K "_law_take" "_law_take" s_L_take f fd) (hm : W.mg "_law_take" = some (.ref f)) (hb : Binds W.K fd ["_law_bag_here", "_law_many"] []) : Kn W "_law_take" 1 2 F_L_take :=
  kn_of F sc_L_take hm hb (d_L_take b_int)
/-! ### _law_one -/
abbrev s_L_one : Stmt := topS 10
theorem sc_L_one : FnScope ["_law_bag_here", "_law_some"] ["_law_bag_here", "_law_some"] (defScope s_L_one) := ⟨rfl, rfl, rfl, by decide +kernel, rfl, by decide +kernel, by decide +kernel⟩
def B_L_one : MS := (mRet (mOp dIx (mVar 1) (mCall F_L_take (mCons (mVar 0) (mCons (mCB bLen (mCons (mVar 1) mNil)) mNil)))))
def F_L_one : MF := mFun 2 2 B_L_one
theorem d_L_one {W : Wd} (b_len : W.mg "len" = none) (K_L_take : Kn W "_law_take" 1 2 F_L_take) : Mss (gOf W ["_law_bag_here", "_law_some"] (defScope s_L_one) 1) (defBody s_L_one) B_L_one :=
  (mss_one (mst_ret (ms_ix (ms_var 1 (by dsimp only [gOf, G.blk]; decide +kernel)) (ms_call (hj := (by decide : 1 ≤ 1)) K_L_take (ma_cons (ms_var 0 (by dsimp only [gOf, G.blk]; decide +kernel)) (ma_cons (ms_callB good_len b_len rfl (ma_cons (ms_var 1 (by dsimp only [gOf, G.blk]; decide +kernel)) ma_nil) (by dsimp only [gOf, G.blk]; decide +kernel)) ma_nil)) (hg := (by dsimp only [gOf, G.blk]; decide +kernel))))))
theorem k_L_one {W : Wd} {f : Addr} {fd : FuncData} (b_len : W.mg "len" = none) (K_L_take : Kn W "_law_take" 1 2 F_L_take) (F : L2.Fun W.K "_law_one" "_law_one" s_L_one f fd) (hm : W.mg "_law_one" = some (.ref f)) (hb : Binds W.K fd ["_law_bag_here", "_law_some"] []) : Kn W "_law_one" 2 2 F_L_one :=
  kn_of F sc_L_one hm hb (d_L_one b_len K_L_take)
/-! ### _law_mixed -/
abbrev s_L_mixed : Stmt := topS 11
theorem sc_L_mixed : FnScope ["_law_bag_here", "_law_things", "_law_found", "_law_thing"] ["_law_bag_here", "_law_things"] (defScope s_L_mixed) := ⟨rfl, rfl, rfl, by decide +kernel, rfl, by decide +kernel, by decide +kernel⟩
def B_L_mixed : MS := (mSeq (mNew (mLst mNil) 2)
  (mSeq (mFor (mItL (mVar 1)) (mName 3) (mExpr (mMeth lInsert (mVar 2) (mCons (mCall F_L_take (mCons (mVar 0) (mCons (mOp dAdd (mCB bLen (mCons (mVar 2) mNil)) (mC (.int 1))) mNil))) (mCons (mVar 3) mNil)))))
  (mRet (mVar 2))))
def F_L_mixed : MF := mFun 2 4 B_L_mixed
theorem d_L_mixed {W : Wd} (b_len : W.mg "len" = none) (K_L_take : Kn W "_law_take" 1 2 F_L_take) : Mss (gOf W ["_law_bag_here", "_law_things", "_law_found", "_law_thing"] (defScope s_L_mixed) 1) (defBody s_L_mixed) B_L_mixed :=
  (mss_cons (mst_new 2 (ml_lst ma_nil) (by dsimp only [gOf, G.blk]; decide +kernel))
    (mss_cons (mst_for (mi_list (ms_var 1 (by dsimp only [gOf, G.blk]; decide +kernel))) (mg_name 3 (by dsimp only [gOf, G.blk]; decide +kernel)) (mss_one (mst_expr (ms_meth PySem.F.slot_list_insert PySem.F.type_list_insert good_insert (ms_var 2 (by dsimp only [gOf, G.blk]; decide +kernel)) (ma_cons (ms_call (hj := (by decide : 1 ≤ 1)) K_L_take (ma_cons (ms_var 0 (by dsimp only [gOf, G.blk]; decide +kernel)) (ma_cons (ms_op good_add (ms_callB good_len b_len rfl (ma_cons (ms_var 2 (by dsimp only [gOf, G.blk]; decide +kernel)) ma_nil) (by dsimp only [gOf, G.blk]; decide +kernel)) ms_int) ma_nil)) (hg := (by dsimp only [gOf, G.blk]; decide +kernel))) (ma_cons (ms_var 3 (by dsimp only [gOf, G.blk]; decide +kernel)) ma_nil))))))
    (mss_one (mst_ret (ms_var 2 (by dsimp only [gOf, G.blk]; decide +kernel))))))
theorem k_L_mixed {W : Wd} {f : Addr} {fd : FuncData} (b_len : W.mg "len" = none) (K_L_take : Kn W "_law_take" 1 2 F_L_take) (F : L2.Fun W.K "_law_mixed" "_law_mixed" s_L_mixed f fd) (hm : W.mg "_law_mixed" = some (.ref f)) (hb : Binds W.K fd ["_law_bag_here", "_law_things"] []) : Kn W "_law_mixed" 2 2 F_L_mixed :=
  kn_of F sc_L_mixed hm hb (d_L_mixed b_len K_L_take)
/-! ### _law_alphabet -/
abbrev s_L_alphabet : Stmt := topS 12
theorem sc_L_alphabet : FnScope ["_law_bag_here"] ["_law_bag_here"] (defScope s_L_alphabet) := ⟨rfl, rfl, rfl, by decide +kernel, rfl, by decide +kernel, by decide +kernel⟩
def B_L_alphabet : MS := (mRet (mOfL (mSlL (mCall F_L_mixed (mCons (mVar 0) (mCons (mOfL (mLst (mCons (mC (.int 0)) (mCons (mC (.int 1)) (mCons (mC (.int 2)) (mCons (mC (.int 3)) (mCons (mC (.int 48)) (mCons (mC (.int 999999999)) (mCons (mOp dPow (mC (.int 10)) (mC (.int 9))) mNil))))))))) mNil))) mON (mOS (mCall F_L_one (mCons (mVar 0) (mCons (mOfL (mLst (mCons (mC (.int 2)) (mCons (mC (.int 3)) (mCons (mC (.int 2)) (mCons (mC (.int 1)) (mCons (mC (.int 4)) mNil))))))) mNil)))))))
def F_L_alphabet : MF := mFun 1 1 B_L_alphabet
theorem d_L_alphabet {W : Wd} (K_L_one : Kn W "_law_one" 2 2 F_L_one) (K_L_mixed : Kn W "_law_mixed" 2 2 F_L_mixed) : Mss (gOf W ["_law_bag_here"] (defScope s_L_alphabet) 2) (defBody s_L_alphabet) B_L_alphabet :=
  (mss_one (mst_ret (ms_ofL (ml_sl (ms_call (hj := (by decide : 2 ≤ 2)) K_L_mixed (ma_cons (ms_var 0 (by dsimp only [gOf, G.blk]; decide +kernel)) (ma_cons (ms_ofL (ml_lst (ma_cons ms_int (ma_cons ms_int (ma_cons ms_int (ma_cons ms_int (ma_cons ms_int (ma_cons ms_int (ma_cons (ms_op good_pow ms_int ms_int) ma_nil))))))))) ma_nil)) (hg := (by dsimp only [gOf, G.blk]; decide +kernel))) mo_none (mo_some (ms_call (hj := (by decide : 2 ≤ 2)) K_L_one (ma_cons (ms_var 0 (by dsimp only [gOf, G.blk]; decide +kernel)) (ma_cons (ms_ofL (ml_lst (ma_cons ms_int (ma_cons ms_int (ma_cons ms_int (ma_cons ms_int (ma_cons ms_int ma_nil))))))) ma_nil)) (hg := (by dsimp only [gOf, G.blk]; decide +kernel))))))))
theorem k_L_alphabet {W : Wd} {f : Addr} {fd : FuncData} (K_L_one : Kn W "_law_one" 2 2 F_L_one) (K_L_mixed : Kn W "_law_mixed" 2 2 F_L_mixed) (F : L2.Fun W.K "_law_alphabet" "_law_alphabet" s_L_alphabet f fd) (hm : W.mg "_law_alphabet" = some (.ref f)) (hb : Binds W.K fd ["_law_bag_here"] []) : Kn W "_law_alphabet" 3 1 F_L_alphabet :=
  kn_of F sc_L_alphabet hm hb (d_L_alphabet K_L_one K_L_mixed)
/-! ### _law_text -/
abbrev s_L_text : Stmt := topS 13
theorem sc_L_text : FnScope ["_law_bag_here", "_law_letters", "_law_most", "_law_k"] ["_law_bag_here", "_law_letters", "_law_most"] (defScope s_L_text) := ⟨rfl, rfl, rfl, by decide +kernel, rfl, by decide +kernel, by decide +kernel⟩
def B_L_text : MS := (mRet (mCB bTupleF (mCons (mOfL (mLc (mItR1 (mCons (mCall F_L_take (mCons (mVar 0) (mCons (mOp dAdd (mVar 2) (mC (.int 1))) mNil))) mNil)) (mName 3) mYes (mCall F_L_one (mCons (mVar 0) (mCons (mVar 1) mNil))) [3])) mNil)))
def F_L_text : MF := mFun 3 4 B_L_text
theorem d_L_text {W : Wd} (b_range : W.mg "range" = none) (b_tuple : W.mg "tuple" = none) (K_L_take : Kn W "_law_take" 1 2 F_L_take) (K_L_one : Kn W "_law_one" 2 2 F_L_one) : Mss (gOf W ["_law_bag_here", "_law_letters", "_law_most", "_law_k"] (defScope s_L_text) 2) (defBody s_L_text) B_L_text :=
  (mss_one (mst_ret (ms_callT good_tupleF b_tuple rfl (ma_cons (ms_ofL (ml_lc (own := [("_law_k", 3)]) (mi_range1 b_range (ma_cons (ms_call (hj := (by decide : 1 ≤ 2)) K_L_take (ma_cons (ms_var 0 (by dsimp only [gOf, G.blk]; decide +kernel)) (ma_cons (ms_op good_add (ms_var 2 (by dsimp only [gOf, G.blk]; decide +kernel)) ms_int) ma_nil)) (hg := (by dsimp only [gOf, G.blk]; decide +kernel))) ma_nil) (by dsimp only [gOf, G.blk]; decide +kernel)) (by dsimp only [gOf, G.blk]; decide +kernel) (mgc_name 3 (by dsimp only [gOf, G.blk]; decide +kernel) (by decide)) mts_nil (ms_call (hj := (by decide : 2 ≤ 2)) K_L_one (ma_cons (ms_var 0 (by dsimp only [gOf, G.blk]; decide +kernel)) (ma_cons (ms_var 1 (by dsimp only [gOf, G.blk]; decide +kernel)) ma_nil)) (hg := (by dsimp only [gOf, G.blk]; decide +kernel))))) ma_nil) (by dsimp only [gOf, G.blk]; decide +kernel))))
theorem k_L_text {W : Wd} {f : Addr} {fd : FuncData} (b_range : W.mg "range" = none) (b_tuple : W.mg "tuple" = none) (K_L_take : Kn W "_law_take" 1 2 F_L_take) (K_L_one : Kn W "_law_one" 2 2 F_L_one) (F : L2.Fun W.K "_law_text" "_law_text" s_L_text f fd) (hm : W.mg "_law_text" = some (.ref f)) (hb : Binds W.K fd ["_law_bag_here", "_law_letters", "_law_most"] []) : Kn W "_law_text" 3 3 F_L_text :=
  kn_of F sc_L_text hm hb (d_L_text b_range b_tuple K_L_take K_L_one)
/-! ### _law_alike -/
abbrev s_L_alike : Stmt := topS 14
theorem sc_L_alike : FnScope ["_law_found", "_law_due"] ["_law_found", "_law_due"] (defScope s_L_alike) := ⟨rfl, rfl, rfl, by decide +kernel, rfl, by decide +kernel, by decide +kernel⟩
def B_L_alike : MS := (mRet (mAndV (mOp dEq (mVar 0) (mVar 1)) (mOp dEq (mCB bRepr (mCons (mVar 0) mNil)) (mCB bRepr (mCons (mVar 1) mNil)))))
def F_L_alike : MF := mFun 2 2 B_L_alike
theorem d_L_alike {W : Wd} (b_repr : W.mg "repr" = none) : Mss (gOf W ["_law_found", "_law_due"] (defScope s_L_alike) 0) (defBody s_L_alike) B_L_alike :=
  (mss_one (mst_ret (ms_and (ms_cmp good_eq (ms_var 0 (by dsimp only [gOf, G.blk]; decide +kernel)) (ms_var 1 (by dsimp only [gOf, G.blk]; decide +kernel))) (ms_one (ms_cmp good_eq (ms_callB good_repr b_repr rfl (ma_cons (ms_var 0 (by dsimp only [gOf, G.blk]; decide +kernel)) ma_nil) (by dsimp only [gOf, G.blk]; decide +kernel)) (ms_callB good_repr b_repr rfl (ma_cons (ms_var 1 (by dsimp only [gOf, G.blk]; decide +kernel)) ma_nil) (by dsimp only [gOf, G.blk]; decide +kernel)))))))
theorem k_L_alike {W : Wd} {f : Addr} {fd : FuncData} (b_repr : W.mg "repr" = none) (F : L2.Fun W.K "_law_alike" "_law_alike" s_L_alike f fd) (hm : W.mg "_law_alike" = some (.ref f)) (hb : Binds W.K fd ["_law_found", "_law_due"] []) : Kn W "_law_alike" 1 2 F_L_alike :=
  kn_of F sc_L_alike hm hb (d_L_alike b_repr)
/-! ### _law_pattern -/
abbrev s_L_pattern : Stmt := topS 15
theorem sc_L_pattern : FnScope ["_law_left", "_law_right", "_law_some", "_law_letter"] ["_law_left", "_law_right"] (defScope s_L_pattern) := ⟨rfl, rfl, rfl, by decide +kernel, rfl, by decide +kernel, by decide +kernel⟩
def B_L_pattern : MS := (mSeq (mNew (mLst mNil) 2)
  (mSeq (mFor (mItT (mOp dAdd (mVar 0) (mVar 1))) (mName 3) (mIfS (mT (mOp dNotIn (mVar 3) (mVar 2))) (mExpr (mMeth lAppend (mVar 2) (mCons (mVar 3) mNil))) mSkip))
  (mRet (mTup (mCons (mCB bTupleF (mCons (mOfL (mLc (mItT (mVar 0)) (mName 3) mYes (mIdx rdL (mVar 2) (mVar 3)) [3])) mNil)) (mCons (mCB bTupleF (mCons (mOfL (mLc (mItT (mVar 1)) (mName 3) mYes (mIdx rdL (mVar 2) (mVar 3)) [3])) mNil)) mNil))))))
def F_L_pattern : MF := mFun 2 4 B_L_pattern
theorem d_L_pattern {W : Wd} (b_tuple : W.mg "tuple" = none) : Mss (gOf W ["_law_left", "_law_right", "_law_some", "_law_letter"] (defScope s_L_pattern) 0) (defBody s_L_pattern) B_L_pattern :=
  (mss_cons (mst_new 2 (ml_lst ma_nil) (by dsimp only [gOf, G.blk]; decide +kernel))
    (mss_cons (mst_for (mi_tup (ms_op good_add (ms_var 0 (by dsimp only [gOf, G.blk]; decide +kernel)) (ms_var 1 (by dsimp only [gOf, G.blk]; decide +kernel)))) (mg_name 3 (by dsimp only [gOf, G.blk]; decide +kernel)) (mss_one (mst_if (mt_cmp good_notIn (ms_var 3 (by dsimp only [gOf, G.blk]; decide +kernel)) (ms_var 2 (by dsimp only [gOf, G.blk]; decide +kernel))) (mss_one (mst_expr (ms_meth PySem.F.slot_list_append PySem.F.type_list_append good_append (ms_var 2 (by dsimp only [gOf, G.blk]; decide +kernel)) (ma_cons (ms_var 3 (by dsimp only [gOf, G.blk]; decide +kernel)) ma_nil)))) mss_nil)))
    (mss_one (mst_ret (ms_tup (ma_cons (ms_callT good_tupleF b_tuple rfl (ma_cons (ms_ofL (ml_lc (own := [("_law_letter", 3)]) (mi_tup (ms_var 0 (by dsimp only [gOf, G.blk]; decide +kernel))) (by dsimp only [gOf, G.blk]; decide +kernel) (mgc_name 3 (by dsimp only [gOf, G.blk]; decide +kernel) (by decide)) mts_nil (ms_indexL (ms_var 2 (by dsimp only [gOf, G.blk]; decide +kernel)) (ms_var 3 (by dsimp only [gOf, G.blk]; decide +kernel))))) ma_nil) (by dsimp only [gOf, G.blk]; decide +kernel)) (ma_cons (ms_callT good_tupleF b_tuple rfl (ma_cons (ms_ofL (ml_lc (own := [("_law_letter", 3)]) (mi_tup (ms_var 1 (by dsimp only [gOf, G.blk]; decide +kernel))) (by dsimp only [gOf, G.blk]; decide +kernel) (mgc_name 3 (by dsimp only [gOf, G.blk]; decide +kernel) (by decide)) mts_nil (ms_indexL (ms_var 2 (by dsimp only [gOf, G.blk]; decide +kernel)) (ms_var 3 (by dsimp only [gOf, G.blk]; decide +kernel))))) ma_nil) (by dsimp only [gOf, G.blk]; decide +kernel)) ma_nil)))))))
theorem k_L_pattern {W : Wd} {f : Addr} {fd : FuncData} (b_tuple : W.mg "tuple" = none) (F : L2.Fun W.K "_law_pattern" "_law_pattern" s_L_pattern f fd) (hm : W.mg "_law_pattern" = some (.ref f)) (hb : Binds W.K fd ["_law_left", "_law_right"] []) : Kn W "_law_pattern" 1 2 F_L_pattern :=
  kn_of F sc_L_pattern hm hb (d_L_pattern b_tuple)
/-! ### _law_ticks -/
abbrev s_L_ticks : Stmt := topS 16
theorem sc_L_ticks : FnScope ["_law_pattern_here", "_law_many", "_law_found", "_law_x", "_law_y"] ["_law_pattern_here"] (defScope s_L_ticks) := ⟨rfl, rfl, rfl, by decide +kernel, rfl, by decide +kernel, by decide +kernel⟩
def B_L_ticks : MS := (mSeq (mPar2 1 2 (mCons (mLenSet (mOp dAdd (mOp dIx (mVar 0) (mC (.int 0))) (mOp dIx (mVar 0) (mC (.int 1))))) (mCons (mCell (mLst mNil)) mNil)))
  (mSeq (mFor (mItR1 (mCons (mOp dAdd (mVar 1) (mC (.int 1))) mNil)) (mName 3) (mExpr (mMeth lExtend (mVar 2) (mCons (mOfL (mLc (mItR1 (mCons (mOp dAdd (mOp dAdd (mVar 1) (mC (.int 1))) (mCB bInt (mCons (mOp dEq (mVar 3) (mVar 1)) mNil))) mNil)) (mName 4) mYes (mTup (mCons (mVar 3) (mCons (mVar 4) mNil))) [4])) mNil))))
  (mRet (mVar 2))))
def F_L_ticks : MF := mFun 1 5 B_L_ticks
theorem d_L_ticks {W : Wd} (b_int : W.mg "int" = none) (b_len : W.mg "len" = none) (b_range : W.mg "range" = none) (b_set : W.mg "set" = none) : Mss (gOf W ["_law_pattern_here", "_law_many", "_law_found", "_law_x", "_law_y"] (defScope s_L_ticks) 0) (defBody s_L_ticks) B_L_ticks :=
  (mss_cons (mst_par 1 2 (by decide) (by dsimp only [gOf, G.blk]; decide +kernel) (by dsimp only [gOf, G.blk]; decide +kernel) (by dsimp only [gOf, G.blk]; decide +kernel) (by dsimp only [gOf, G.blk]; decide +kernel) (ma_cons (ms_lenSet b_len b_set (ms_op good_add (ms_ix (ms_var 0 (by dsimp only [gOf, G.blk]; decide +kernel)) ms_int) (ms_ix (ms_var 0 (by dsimp only [gOf, G.blk]; decide +kernel)) ms_int)) (by dsimp only [gOf, G.blk]; decide +kernel) (by dsimp only [gOf, G.blk]; decide +kernel)) (ma_cons (ms_cell (ml_lst ma_nil)) ma_nil)) (by intro env he; cases env; cases he; rfl))
    (mss_cons (mst_for (mi_range1 b_range (ma_cons (ms_op good_add (ms_var 1 (by dsimp only [gOf, G.blk]; decide +kernel)) ms_int) ma_nil) (by dsimp only [gOf, G.blk]; decide +kernel)) (mg_name 3 (by dsimp only [gOf, G.blk]; decide +kernel)) (mss_one (mst_expr (ms_meth PySem.F.slot_list_extend PySem.F.type_list_extend good_extend (ms_var 2 (by dsimp only [gOf, G.blk]; decide +kernel)) (ma_cons (ms_ofL (ml_lc (own := [("_law_y", 4)]) (mi_range1 b_range (ma_cons (ms_op good_add (ms_op good_add (ms_var 1 (by dsimp only [gOf, G.blk]; decide +kernel)) ms_int) (ms_callT good_int b_int rfl (ma_cons (ms_cmp good_eq (ms_var 3 (by dsimp only [gOf, G.blk]; decide +kernel)) (ms_var 1 (by dsimp only [gOf, G.blk]; decide +kernel))) ma_nil) (by dsimp only [gOf, G.blk]; decide +kernel))) ma_nil) (by dsimp only [gOf, G.blk]; decide +kernel)) (by dsimp only [gOf, G.blk]; decide +kernel) (mgc_name 4 (by dsimp only [gOf, G.blk]; decide +kernel) (by decide)) mts_nil (ms_tup (ma_cons (ms_var 3 (by dsimp only [gOf, G.blk]; decide +kernel)) (ma_cons (ms_var 4 (by dsimp only [gOf, G.blk]; decide +kernel)) ma_nil))))) ma_nil)))))
    (mss_one (mst_ret (ms_var 2 (by dsimp only [gOf, G.blk]; decide +kernel))))))
theorem k_L_ticks {W : Wd} {f : Addr} {fd : FuncData} (b_int : W.mg "int" = none) (b_len : W.mg "len" = none) (b_range : W.mg "range" = none) (b_set : W.mg "set" = none) (F : L2.Fun W.K "_law_ticks" "_law_ticks" s_L_ticks f fd) (hm : W.mg "_law_ticks" = some (.ref f)) (hb : Binds W.K fd ["_law_pattern_here"] []) : Kn W "_law_ticks" 1 1 F_L_ticks :=
  kn_of F sc_L_ticks hm hb (d_L_ticks b_int b_len b_range b_set)
/-! ### _law_tick -/
abbrev s_L_tick : Stmt := topS 17
theorem sc_L_tick : FnScope ["_law_left", "_law_right", "_law_x", "_law_y", "_law_row", "_law_its", "_law_many", "_law_first"] ["_law_left", "_law_right", "_law_x", "_law_y"] (defScope s_L_tick) := ⟨rfl, rfl, rfl, by decide +kernel, rfl, by decide +kernel, by decide +kernel⟩
def B_L_tick : MS := (mSeq (mPar3 4 5 6 (mCons (mOp dAdd (mVar 0) (mVar 1)) (mCons (mCall F_L_pattern (mCons (mVar 0) (mCons (mVar 1) mNil))) (mCons (mLenSet (mOp dAdd (mVar 0) (mVar 1))) mNil))))
  (mSeq (mAsg (mIf (mT (mOp dIn (mVar 2) (mVar 4))) (mOp dIx (mOp dAdd (mOp dIx (mVar 5) (mC (.int 0))) (mOp dIx (mVar 5) (mC (.int 1)))) (mIdx (fun _ d => ftpOf d) (mVar 4) (mVar 2))) (mVar 6)) (mName 7))
  (mSeq (mIfS (mT (mOp dIn (mVar 3) (mVar 4))) (mRet (mTup (mCons (mVar 7) (mCons (mOp dIx (mOp dAdd (mOp dIx (mVar 5) (mC (.int 0))) (mOp dIx (mVar 5) (mC (.int 1)))) (mIdx (fun _ d => ftpOf d) (mVar 4) (mVar 3))) mNil)))) mSkip)
  (mRet (mTup (mCons (mVar 7) (mCons (mIf (mOr (mT (mOp dIn (mVar 2) (mVar 4))) (mT (mOp dEq (mVar 3) (mVar 2)))) (mVar 6) (mOp dAdd (mVar 6) (mC (.int 1)))) mNil)))))))
def F_L_tick : MF := mFun 4 8 B_L_tick
theorem d_L_tick {W : Wd} (b_len : W.mg "len" = none) (b_set : W.mg "set" = none) (K_L_pattern : Kn W "_law_pattern" 1 2 F_L_pattern) : Mss (gOf W ["_law_left", "_law_right", "_law_x", "_law_y", "_law_row", "_law_its", "_law_many", "_law_first"] (defScope s_L_tick) 1) (defBody s_L_tick) B_L_tick :=
  (mss_cons (mst_par3 4 5 6 (by decide) (by decide) (by decide) (by dsimp only [gOf, G.blk]; decide +kernel) (by dsimp only [gOf, G.blk]; decide +kernel) (by dsimp only [gOf, G.blk]; decide +kernel) (by dsimp only [gOf, G.blk]; decide +kernel) (by dsimp only [gOf, G.blk]; decide +kernel) (by dsimp only [gOf, G.blk]; decide +kernel) (ma_cons (ms_op good_add (ms_var 0 (by dsimp only [gOf, G.blk]; decide +kernel)) (ms_var 1 (by dsimp only [gOf, G.blk]; decide +kernel))) (ma_cons (ms_call (hj := (by decide : 1 ≤ 1)) K_L_pattern (ma_cons (ms_var 0 (by dsimp only [gOf, G.blk]; decide +kernel)) (ma_cons (ms_var 1 (by dsimp only [gOf, G.blk]; decide +kernel)) ma_nil)) (hg := (by dsimp only [gOf, G.blk]; decide +kernel))) (ma_cons (ms_lenSet b_len b_set (ms_op good_add (ms_var 0 (by dsimp only [gOf, G.blk]; decide +kernel)) (ms_var 1 (by dsimp only [gOf, G.blk]; decide +kernel))) (by dsimp only [gOf, G.blk]; decide +kernel) (by dsimp only [gOf, G.blk]; decide +kernel)) ma_nil))) (by intro env he; cases env; cases he; rfl))
    (mss_cons (mst_set 7 (ms_if (mt_cmp good_in (ms_var 2 (by dsimp only [gOf, G.blk]; decide +kernel)) (ms_var 4 (by dsimp only [gOf, G.blk]; decide +kernel))) (ms_ix (ms_op good_add (ms_ix (ms_var 5 (by dsimp only [gOf, G.blk]; decide +kernel)) ms_int) (ms_ix (ms_var 5 (by dsimp only [gOf, G.blk]; decide +kernel)) ms_int)) (ms_indexT (ms_var 4 (by dsimp only [gOf, G.blk]; decide +kernel)) (ms_var 2 (by dsimp only [gOf, G.blk]; decide +kernel)))) (ms_var 6 (by dsimp only [gOf, G.blk]; decide +kernel))) (by dsimp only [gOf, G.blk]; decide +kernel))
    (mss_cons (mst_if (mt_cmp good_in (ms_var 3 (by dsimp only [gOf, G.blk]; decide +kernel)) (ms_var 4 (by dsimp only [gOf, G.blk]; decide +kernel))) (mss_one (mst_ret (ms_tup (ma_cons (ms_var 7 (by dsimp only [gOf, G.blk]; decide +kernel)) (ma_cons (ms_ix (ms_op good_add (ms_ix (ms_var 5 (by dsimp only [gOf, G.blk]; decide +kernel)) ms_int) (ms_ix (ms_var 5 (by dsimp only [gOf, G.blk]; decide +kernel)) ms_int)) (ms_indexT (ms_var 4 (by dsimp only [gOf, G.blk]; decide +kernel)) (ms_var 3 (by dsimp only [gOf, G.blk]; decide +kernel)))) ma_nil))))) mss_nil)
    (mss_one (mst_ret (ms_tup (ma_cons (ms_var 7 (by dsimp only [gOf, G.blk]; decide +kernel)) (ma_cons (ms_if (mt_w (mw_or (mt_cmp good_in (ms_var 2 (by dsimp only [gOf, G.blk]; decide +kernel)) (ms_var 4 (by dsimp only [gOf, G.blk]; decide +kernel))) (mw_or1 (mt_cmp good_eq (ms_var 3 (by dsimp only [gOf, G.blk]; decide +kernel)) (ms_var 2 (by dsimp only [gOf, G.blk]; decide +kernel)))))) (ms_var 6 (by dsimp only [gOf, G.blk]; decide +kernel)) (ms_op good_add (ms_var 6 (by dsimp only [gOf, G.blk]; decide +kernel)) ms_int)) ma_nil))))))))
theorem k_L_tick {W : Wd} {f : Addr} {fd : FuncData} (b_len : W.mg "len" = none) (b_set : W.mg "set" = none) (K_L_pattern : Kn W "_law_pattern" 1 2 F_L_pattern) (F : L2.Fun W.K "_law_tick" "_law_tick" s_L_tick f fd) (hm : W.mg "_law_tick" = some (.ref f)) (hb : Binds W.K fd ["_law_left", "_law_right", "_law_x", "_law_y"] []) : Kn W "_law_tick" 2 4 F_L_tick :=
  kn_of F sc_L_tick hm hb (d_L_tick b_len b_set K_L_pattern)
/-! ### law -/
abbrev s_law : Stmt := topS 18
theorem sc_law : FnScope ["_law_script", "_law_bag_here", "_law_turn", "_law_k", "_law_letters", "_law_left", "_law_right", "_law_pattern_here", "_law_due", "_law_told", "_law_letter", "_law_new", "_law_names", "_law_at", "_law_met", "_law_x", "_law_y", "_law_longer", "_law_later", "_law_tick_here", "_law_a", "_law_b"] ["_law_script"] (defScope s_law) := ⟨rfl, rfl, rfl, by decide +kernel, rfl, by decide +kernel, by decide +kernel⟩
def B_law : MS := (mSeq (mNew (mCallL F_L_bag (mCons (mVar 0) mNil)) 1)
  (mSeq (mFor (mItR1 (mCons (mC (.int 3)) mNil)) (mName 2) (mSeq (mAsg (mOp dAdd (mCall F_L_alphabet (mCons (mVar 1) mNil)) (mOfL (mLc (mItR1 (mCons (mCall F_L_one (mCons (mVar 1) (mCons (mOfL (mLst (mCons (mC (.int 0)) (mCons (mC (.int 0)) (mCons (mC (.int 3)) (mCons (mC (.int 8)) mNil)))))) mNil))) mNil)) (mName 3) mYes (mOp dAdd (mC (.int 10)) (mVar 3)) [3]))) (mName 4))
  (mSeq (mAsg (mTup (mCons (mCall F_L_text (mCons (mVar 1) (mCons (mVar 4) (mCons (mC (.int 5)) mNil)))) (mCons (mCall F_L_text (mCons (mVar 1) (mCons (mVar 4) (mCons (mC (.int 5)) mNil)))) mNil))) (mTg 2 (mgCons (mName 5) (mgCons (mName 6) mgNil))))
  (mSeq (mPar2 7 8 (mCons (mCall F_pattern_of (mCons (mVar 5) (mCons (mVar 6) mNil))) (mCons (mCall F_L_pattern (mCons (mVar 5) (mCons (mVar 6) mNil))) mNil)))
  (mSeq (mIfS (mOr (mNot (mT (mCall F_L_alike (mCons (mVar 7) (mCons (mVar 8) mNil))))) (mNot (mT (mCall F_L_alike (mCons (mCall F_pattern_of (mCons (mOp dIx (mVar 8) (mC (.int 0))) (mCons (mOp dIx (mVar 8) (mC (.int 1))) mNil))) (mCons (mVar 8) mNil)))))) (mRet (mC (.bl false))) mSkip)
  (mSeq (mNew (mCallL F_ticks (mCons (mVar 7) mNil)) 9)
  (mSeq (mIfS (mNot (mT (mCall F_L_alike (mCons (mVar 9) (mCons (mCall F_L_ticks (mCons (mVar 8) mNil)) mNil))))) (mRet (mC (.bl false))) mSkip)
  (mSeq (mAsg (mOfL (mLc (mItR1 (mCons (mC (.int 30)) mNil)) (mName 10) (mT (mOp dNotIn (mVar 10) (mOp dAdd (mVar 5) (mVar 6)))) (mVar 10) [10])) (mName 11))
  (mSeq (mNew (mOpL dCatL (mOp dMul (mOfL (mLst (mCons (mC .non) mNil))) (mLenSet (mOp dAdd (mVar 5) (mVar 6)))) (mOfL (mSlL (mVar 11) mON (mOS (mC (.int 2)))))) 12)
  (mSeq (mFor (mEnumT (mCons (mOp dAdd (mOp dIx (mVar 8) (mC (.int 0))) (mOp dIx (mVar 8) (mC (.int 1)))) mNil)) (mTg 2 (mgCons (mName 13) (mgCons (mName 10) mgNil))) (mAsg (mOp dIx (mOp dAdd (mVar 5) (mVar 6)) (mVar 13)) (mSetL (mVar 12) (mVar 10))))
  (mSeq (mNew (mLst mNil) 14)
  (mSeq (mFor (mItL (mVar 9)) (mTg 2 (mgCons (mName 15) (mgCons (mName 16) mgNil))) (mSeq (mAsg (mTup (mCons (mOp dAdd (mVar 5) (mTup (mCons (mOp dIx (mVar 12) (mVar 15)) mNil))) (mCons (mOp dAdd (mVar 6) (mTup (mCons (mOp dIx (mVar 12) (mVar 16)) mNil))) mNil))) (mName 17))
  (mSeq (mIfS (mNot (mT (mCall F_L_alike (mCons (mCall F_tick_of (mCons (mVar 5) (mCons (mVar 6) (mCons (mOp dIx (mVar 12) (mVar 15)) (mCons (mOp dIx (mVar 12) (mVar 16)) mNil))))) (mCons (mTup (mCons (mVar 15) (mCons (mVar 16) mNil))) mNil))))) (mRet (mC (.bl false))) mSkip)
  (mSeq (mAsg (mCall F_grown (mCons (mVar 8) (mCons (mTup (mCons (mVar 15) (mCons (mVar 16) mNil))) mNil))) (mName 18))
  (mSeq (mIfS (mOr (mNot (mT (mCall F_L_alike (mCons (mVar 18) (mCons (mCall F_L_pattern (mCons (mOp dIx (mVar 17) (mC (.int 0))) (mCons (mOp dIx (mVar 17) (mC (.int 1))) mNil))) mNil))))) (mT (mOp dIn (mVar 18) (mVar 14)))) (mRet (mC (.bl false))) mSkip)
  (mExpr (mMeth lAppend (mVar 14) (mCons (mVar 18) mNil))))))))
  (mSeq (mFor (mItR1 (mCons (mC (.int 4)) mNil)) (mName 3) (mSeq (mPar2 15 16 (mCons (mCall F_L_one (mCons (mVar 1) (mCons (mOp dAdd (mVar 4) (mVar 11)) mNil))) (mCons (mCall F_L_one (mCons (mVar 1) (mCons (mOp dAdd (mVar 4) (mVar 11)) mNil))) mNil)))
  (mSeq (mAsg (mCall F_tick_of (mCons (mVar 5) (mCons (mVar 6) (mCons (mVar 15) (mCons (mVar 16) mNil))))) (mName 19))
  (mSeq (mIfS (mOr (mNot (mT (mCall F_L_alike (mCons (mVar 19) (mCons (mCall F_L_tick (mCons (mVar 5) (mCons (mVar 6) (mCons (mVar 15) (mCons (mVar 16) mNil))))) mNil))))) (mT (mOp dNotIn (mVar 19) (mVar 9)))) (mRet (mC (.bl false))) mSkip)
  (mIfS (mNot (mT (mCall F_L_alike (mCons (mCall F_grown (mCons (mVar 7) (mCons (mVar 19) mNil))) (mCons (mCall F_L_pattern (mCons (mOp dAdd (mVar 5) (mTup (mCons (mVar 15) mNil))) (mCons (mOp dAdd (mVar 6) (mTup (mCons (mVar 16) mNil))) mNil))) mNil))))) (mRet (mC (.bl false))) mSkip)))))
  (mSeq (mFor (mItR1 (mCons (mC (.int 3)) mNil)) (mName 3) (mSeq (mPar2 20 21 (mCons (mCall F_L_take (mCons (mVar 1) (mCons (mOp dAdd (mCB bLen (mCons (mVar 5) mNil)) (mC (.int 1))) mNil))) (mCons (mCall F_L_take (mCons (mVar 1) (mCons (mOp dAdd (mCB bLen (mCons (mVar 6) mNil)) (mC (.int 1))) mNil))) mNil)))
  (mIfS (mNot (mT (mCall F_L_alike (mCons (mCall F_cut (mCons (mVar 7) (mCons (mVar 20) (mCons (mVar 21) mNil)))) (mCons (mCall F_L_pattern (mCons (mSlT (mVar 5) (mOS (mVar 20)) mON) (mCons (mSlT (mVar 6) (mOS (mVar 21)) mON) mNil))) mNil))))) (mRet (mC (.bl false))) mSkip)))
  (mSeq (mExpr (mMeth0 lClear (mVar 9)))
  (mSeq (mExpr (mMeth lAppend (mVar 9) (mCons (mTup (mCons (mC (.int 0)) (mCons (mC (.int 0)) mNil))) mNil)))
  (mIfS (mOr (mNot (mT (mCall F_L_alike (mCons (mOfL (mCallL F_ticks (mCons (mVar 7) mNil))) (mCons (mCall F_L_ticks (mCons (mVar 8) mNil)) mNil))))) (mNot (mT (mCall F_L_alike (mCons (mVar 7) (mCons (mVar 8) mNil)))))) (mRet (mC (.bl false))) mSkip)))))))))))))))))
  (mRet (mC (.bl true)))))
def F_law : MF := mFun 1 22 B_law
theorem d_law {W : Wd} (b_enumerate : W.mg "enumerate" = none) (b_len : W.mg "len" = none) (b_range : W.mg "range" = none) (b_set : W.mg "set" = none) (K_pattern_of : Kn W "pattern_of" 1 2 F_pattern_of) (K_ticks : KnL W "ticks" 2 1 F_ticks) (K_tick_of : Kn W "tick_of" 1 4 F_tick_of) (K_grown : Kn W "grown" 2 2 F_grown) (K_cut : Kn W "cut" 2 3 F_cut) (K_L_bag : KnL W "_law_bag" 1 1 F_L_bag) (K_L_take : Kn W "_law_take" 1 2 F_L_take) (K_L_one : Kn W "_law_one" 2 2 F_L_one) (K_L_alphabet : Kn W "_law_alphabet" 3 1 F_L_alphabet) (K_L_text : Kn W "_law_text" 3 3 F_L_text) (K_L_alike : Kn W "_law_alike" 1 2 F_L_alike) (K_L_pattern : Kn W "_law_pattern" 1 2 F_L_pattern) (K_L_ticks : Kn W "_law_ticks" 1 1 F_L_ticks) (K_L_tick : Kn W "_law_tick" 2 4 F_L_tick) : Mss (gOf W ["_law_script", "_law_bag_here", "_law_turn", "_law_k", "_law_letters", "_law_left", "_law_right", "_law_pattern_here", "_law_due", "_law_told", "_law_letter", "_law_new", "_law_names", "_law_at", "_law_met", "_law_x", "_law_y", "_law_longer", "_law_later", "_law_tick_here", "_law_a", "_law_b"] (defScope s_law) 3) (defBody s_law) B_law :=
  (mss_cons (mst_new 1 (ml_call (hj := (by decide : 1 ≤ 3)) K_L_bag (ma_cons (ms_var 0 (by dsimp only [gOf, G.blk]; decide +kernel)) ma_nil) (hg := (by dsimp only [gOf, G.blk]; decide +kernel))) (by dsimp only [gOf, G.blk]; decide +kernel))
    (mss_cons (mst_for (mi_range1 b_range (ma_cons ms_int ma_nil) (by dsimp only [gOf, G.blk]; decide +kernel)) (mg_name 2 (by dsimp only [gOf, G.blk]; decide +kernel)) (mss_cons (mst_set 4 (ms_op good_add (ms_call (hj := (by decide : 3 ≤ 3)) K_L_alphabet (ma_cons (ms_var 1 (by dsimp only [gOf, G.blk]; decide +kernel)) ma_nil) (hg := (by dsimp only [gOf, G.blk]; decide +kernel))) (ms_ofL (ml_lc (own := [("_law_k", 3)]) (mi_range1 b_range (ma_cons (ms_call (hj := (by decide : 2 ≤ 3)) K_L_one (ma_cons (ms_var 1 (by dsimp only [gOf, G.blk]; decide +kernel)) (ma_cons (ms_ofL (ml_lst (ma_cons ms_int (ma_cons ms_int (ma_cons ms_int (ma_cons ms_int ma_nil)))))) ma_nil)) (hg := (by dsimp only [gOf, G.blk]; decide +kernel))) ma_nil) (by dsimp only [gOf, G.blk]; decide +kernel)) (by dsimp only [gOf, G.blk]; decide +kernel) (mgc_name 3 (by dsimp only [gOf, G.blk]; decide +kernel) (by decide)) mts_nil (ms_op good_add ms_int (ms_var 3 (by dsimp only [gOf, G.blk]; decide +kernel)))))) (by dsimp only [gOf, G.blk]; decide +kernel))
    (mss_cons (mst_asg (ms_tup (ma_cons (ms_call (hj := (by decide : 3 ≤ 3)) K_L_text (ma_cons (ms_var 1 (by dsimp only [gOf, G.blk]; decide +kernel)) (ma_cons (ms_var 4 (by dsimp only [gOf, G.blk]; decide +kernel)) (ma_cons ms_int ma_nil))) (hg := (by dsimp only [gOf, G.blk]; decide +kernel))) (ma_cons (ms_call (hj := (by decide : 3 ≤ 3)) K_L_text (ma_cons (ms_var 1 (by dsimp only [gOf, G.blk]; decide +kernel)) (ma_cons (ms_var 4 (by dsimp only [gOf, G.blk]; decide +kernel)) (ma_cons ms_int ma_nil))) (hg := (by dsimp only [gOf, G.blk]; decide +kernel))) ma_nil))) (mg_tup (n := 2) (mgs_cons (mg_name 5 (by dsimp only [gOf, G.blk]; decide +kernel)) (mgs_cons (mg_name 6 (by dsimp only [gOf, G.blk]; decide +kernel)) mgs_nil))) (hw := (by intro env he; cases env; cases he; rfl)))
    (mss_cons (mst_par 7 8 (by decide) (by dsimp only [gOf, G.blk]; decide +kernel) (by dsimp only [gOf, G.blk]; decide +kernel) (by dsimp only [gOf, G.blk]; decide +kernel) (by dsimp only [gOf, G.blk]; decide +kernel) (ma_cons (ms_call (hj := (by decide : 1 ≤ 3)) K_pattern_of (ma_cons (ms_var 5 (by dsimp only [gOf, G.blk]; decide +kernel)) (ma_cons (ms_var 6 (by dsimp only [gOf, G.blk]; decide +kernel)) ma_nil)) (hg := (by dsimp only [gOf, G.blk]; decide +kernel))) (ma_cons (ms_call (hj := (by decide : 1 ≤ 3)) K_L_pattern (ma_cons (ms_var 5 (by dsimp only [gOf, G.blk]; decide +kernel)) (ma_cons (ms_var 6 (by dsimp only [gOf, G.blk]; decide +kernel)) ma_nil)) (hg := (by dsimp only [gOf, G.blk]; decide +kernel))) ma_nil)) (by intro env he; cases env; cases he; rfl))
    (mss_cons (mst_if (mt_w (mw_or (mt_not (mt_val (ms_call (hj := (by decide : 1 ≤ 3)) K_L_alike (ma_cons (ms_var 7 (by dsimp only [gOf, G.blk]; decide +kernel)) (ma_cons (ms_var 8 (by dsimp only [gOf, G.blk]; decide +kernel)) ma_nil)) (hg := (by dsimp only [gOf, G.blk]; decide +kernel))))) (mw_or1 (mt_not (mt_val (ms_call (hj := (by decide : 1 ≤ 3)) K_L_alike (ma_cons (ms_call (hj := (by decide : 1 ≤ 3)) K_pattern_of (ma_cons (ms_ix (ms_var 8 (by dsimp only [gOf, G.blk]; decide +kernel)) ms_int) (ma_cons (ms_ix (ms_var 8 (by dsimp only [gOf, G.blk]; decide +kernel)) ms_int) ma_nil)) (hg := (by dsimp only [gOf, G.blk]; decide +kernel))) (ma_cons (ms_var 8 (by dsimp only [gOf, G.blk]; decide +kernel)) ma_nil)) (hg := (by dsimp only [gOf, G.blk]; decide +kernel)))))))) (mss_one (mst_ret ms_bl)) mss_nil)
    (mss_cons (mst_new 9 (ml_call (hj := (by decide : 2 ≤ 3)) K_ticks (ma_cons (ms_var 7 (by dsimp only [gOf, G.blk]; decide +kernel)) ma_nil) (hg := (by dsimp only [gOf, G.blk]; decide +kernel))) (by dsimp only [gOf, G.blk]; decide +kernel))
    (mss_cons (mst_if (mt_not (mt_val (ms_call (hj := (by decide : 1 ≤ 3)) K_L_alike (ma_cons (ms_var 9 (by dsimp only [gOf, G.blk]; decide +kernel)) (ma_cons (ms_call (hj := (by decide : 1 ≤ 3)) K_L_ticks (ma_cons (ms_var 8 (by dsimp only [gOf, G.blk]; decide +kernel)) ma_nil) (hg := (by dsimp only [gOf, G.blk]; decide +kernel))) ma_nil)) (hg := (by dsimp only [gOf, G.blk]; decide +kernel))))) (mss_one (mst_ret ms_bl)) mss_nil)
    (mss_cons (mst_lcSet (lc_set (own := [("_law_letter", 10)]) 11 (mi_range1 b_range (ma_cons ms_int ma_nil) (by dsimp only [gOf, G.blk]; decide +kernel)) (by dsimp only [gOf, G.blk]; decide +kernel) (mgc_name 10 (by dsimp only [gOf, G.blk]; decide +kernel) (by decide)) (mts_one (mt_cmp good_notIn (ms_var 10 (by dsimp only [gOf, G.blk]; decide +kernel)) (ms_op good_add (ms_var 5 (by dsimp only [gOf, G.blk]; decide +kernel)) (ms_var 6 (by dsimp only [gOf, G.blk]; decide +kernel))))) (ms_var 10 (by dsimp only [gOf, G.blk]; decide +kernel)) (by dsimp only [gOf, G.blk]; decide +kernel) (by dsimp only [gOf, G.blk]; decide +kernel) rfl (by dsimp only [gOf, G.blk]; decide +kernel)))
    (mss_cons (mst_new 12 (ml_cat (ms_op good_mul (ms_ofL (ml_lst (ma_cons ms_non ma_nil))) (ms_lenSet b_len b_set (ms_op good_add (ms_var 5 (by dsimp only [gOf, G.blk]; decide +kernel)) (ms_var 6 (by dsimp only [gOf, G.blk]; decide +kernel))) (by dsimp only [gOf, G.blk]; decide +kernel) (by dsimp only [gOf, G.blk]; decide +kernel))) (ms_ofL (ml_sl (ms_var 11 (by dsimp only [gOf, G.blk]; decide +kernel)) mo_none (mo_some ms_int)))) (by dsimp only [gOf, G.blk]; decide +kernel))
    (mss_cons (mst_for (mi_enumT b_enumerate (ma_cons (ms_op good_add (ms_ix (ms_var 8 (by dsimp only [gOf, G.blk]; decide +kernel)) ms_int) (ms_ix (ms_var 8 (by dsimp only [gOf, G.blk]; decide +kernel)) ms_int)) ma_nil) (by dsimp only [gOf, G.blk]; decide +kernel)) (mg_tup (n := 2) (mgs_cons (mg_name 13 (by dsimp only [gOf, G.blk]; decide +kernel)) (mgs_cons (mg_name 10 (by dsimp only [gOf, G.blk]; decide +kernel)) mgs_nil))) (mss_one (mst_asg (ms_ix (ms_op good_add (ms_var 5 (by dsimp only [gOf, G.blk]; decide +kernel)) (ms_var 6 (by dsimp only [gOf, G.blk]; decide +kernel))) (ms_var 13 (by dsimp only [gOf, G.blk]; decide +kernel))) (mg_subL (ms_var 12 (by dsimp only [gOf, G.blk]; decide +kernel)) (ms_var 10 (by dsimp only [gOf, G.blk]; decide +kernel))) (hw := fun _ _ => rfl))))
    (mss_cons (mst_new 14 (ml_lst ma_nil) (by dsimp only [gOf, G.blk]; decide +kernel))
    (mss_cons (mst_for (mi_list (ms_var 9 (by dsimp only [gOf, G.blk]; decide +kernel))) (mg_tup (n := 2) (mgs_cons (mg_name 15 (by dsimp only [gOf, G.blk]; decide +kernel)) (mgs_cons (mg_name 16 (by dsimp only [gOf, G.blk]; decide +kernel)) mgs_nil))) (mss_cons (mst_set 17 (ms_tup (ma_cons (ms_op good_add (ms_var 5 (by dsimp only [gOf, G.blk]; decide +kernel)) (ms_tup (ma_cons (ms_ix (ms_var 12 (by dsimp only [gOf, G.blk]; decide +kernel)) (ms_var 15 (by dsimp only [gOf, G.blk]; decide +kernel))) ma_nil))) (ma_cons (ms_op good_add (ms_var 6 (by dsimp only [gOf, G.blk]; decide +kernel)) (ms_tup (ma_cons (ms_ix (ms_var 12 (by dsimp only [gOf, G.blk]; decide +kernel)) (ms_var 16 (by dsimp only [gOf, G.blk]; decide +kernel))) ma_nil))) ma_nil))) (by dsimp only [gOf, G.blk]; decide +kernel))
    (mss_cons (mst_if (mt_not (mt_val (ms_call (hj := (by decide : 1 ≤ 3)) K_L_alike (ma_cons (ms_call (hj := (by decide : 1 ≤ 3)) K_tick_of (ma_cons (ms_var 5 (by dsimp only [gOf, G.blk]; decide +kernel)) (ma_cons (ms_var 6 (by dsimp only [gOf, G.blk]; decide +kernel)) (ma_cons (ms_ix (ms_var 12 (by dsimp only [gOf, G.blk]; decide +kernel)) (ms_var 15 (by dsimp only [gOf, G.blk]; decide +kernel))) (ma_cons (ms_ix (ms_var 12 (by dsimp only [gOf, G.blk]; decide +kernel)) (ms_var 16 (by dsimp only [gOf, G.blk]; decide +kernel))) ma_nil)))) (hg := (by dsimp only [gOf, G.blk]; decide +kernel))) (ma_cons (ms_tup (ma_cons (ms_var 15 (by dsimp only [gOf, G.blk]; decide +kernel)) (ma_cons (ms_var 16 (by dsimp only [gOf, G.blk]; decide +kernel)) ma_nil))) ma_nil)) (hg := (by dsimp only [gOf, G.blk]; decide +kernel))))) (mss_one (mst_ret ms_bl)) mss_nil)
    (mss_cons (mst_set 18 (ms_call (hj := (by decide : 2 ≤ 3)) K_grown (ma_cons (ms_var 8 (by dsimp only [gOf, G.blk]; decide +kernel)) (ma_cons (ms_tup (ma_cons (ms_var 15 (by dsimp only [gOf, G.blk]; decide +kernel)) (ma_cons (ms_var 16 (by dsimp only [gOf, G.blk]; decide +kernel)) ma_nil))) ma_nil)) (hg := (by dsimp only [gOf, G.blk]; decide +kernel))) (by dsimp only [gOf, G.blk]; decide +kernel))
    (mss_cons (mst_if (mt_w (mw_or (mt_not (mt_val (ms_call (hj := (by decide : 1 ≤ 3)) K_L_alike (ma_cons (ms_var 18 (by dsimp only [gOf, G.blk]; decide +kernel)) (ma_cons (ms_call (hj := (by decide : 1 ≤ 3)) K_L_pattern (ma_cons (ms_ix (ms_var 17 (by dsimp only [gOf, G.blk]; decide +kernel)) ms_int) (ma_cons (ms_ix (ms_var 17 (by dsimp only [gOf, G.blk]; decide +kernel)) ms_int) ma_nil)) (hg := (by dsimp only [gOf, G.blk]; decide +kernel))) ma_nil)) (hg := (by dsimp only [gOf, G.blk]; decide +kernel))))) (mw_or1 (mt_cmp good_in (ms_var 18 (by dsimp only [gOf, G.blk]; decide +kernel)) (ms_var 14 (by dsimp only [gOf, G.blk]; decide +kernel)))))) (mss_one (mst_ret ms_bl)) mss_nil)
    (mss_one (mst_expr (ms_meth PySem.F.slot_list_append PySem.F.type_list_append good_append (ms_var 14 (by dsimp only [gOf, G.blk]; decide +kernel)) (ma_cons (ms_var 18 (by dsimp only [gOf, G.blk]; decide +kernel)) ma_nil)))))))))
    (mss_cons (mst_for (mi_range1 b_range (ma_cons ms_int ma_nil) (by dsimp only [gOf, G.blk]; decide +kernel)) (mg_name 3 (by dsimp only [gOf, G.blk]; decide +kernel)) (mss_cons (mst_par 15 16 (by decide) (by dsimp only [gOf, G.blk]; decide +kernel) (by dsimp only [gOf, G.blk]; decide +kernel) (by dsimp only [gOf, G.blk]; decide +kernel) (by dsimp only [gOf, G.blk]; decide +kernel) (ma_cons (ms_call (hj := (by decide : 2 ≤ 3)) K_L_one (ma_cons (ms_var 1 (by dsimp only [gOf, G.blk]; decide +kernel)) (ma_cons (ms_op good_add (ms_var 4 (by dsimp only [gOf, G.blk]; decide +kernel)) (ms_var 11 (by dsimp only [gOf, G.blk]; decide +kernel))) ma_nil)) (hg := (by dsimp only [gOf, G.blk]; decide +kernel))) (ma_cons (ms_call (hj := (by decide : 2 ≤ 3)) K_L_one (ma_cons (ms_var 1 (by dsimp only [gOf, G.blk]; decide +kernel)) (ma_cons (ms_op good_add (ms_var 4 (by dsimp only [gOf, G.blk]; decide +kernel)) (ms_var 11 (by dsimp only [gOf, G.blk]; decide +kernel))) ma_nil)) (hg := (by dsimp only [gOf, G.blk]; decide +kernel))) ma_nil)) (by intro env he; cases env; cases he; rfl))
    (mss_cons (mst_set 19 (ms_call (hj := (by decide : 1 ≤ 3)) K_tick_of (ma_cons (ms_var 5 (by dsimp only [gOf, G.blk]; decide +kernel)) (ma_cons (ms_var 6 (by dsimp only [gOf, G.blk]; decide +kernel)) (ma_cons (ms_var 15 (by dsimp only [gOf, G.blk]; decide +kernel)) (ma_cons (ms_var 16 (by dsimp only [gOf, G.blk]; decide +kernel)) ma_nil)))) (hg := (by dsimp only [gOf, G.blk]; decide +kernel))) (by dsimp only [gOf, G.blk]; decide +kernel))
    (mss_cons (mst_if (mt_w (mw_or (mt_not (mt_val (ms_call (hj := (by decide : 1 ≤ 3)) K_L_alike (ma_cons (ms_var 19 (by dsimp only [gOf, G.blk]; decide +kernel)) (ma_cons (ms_call (hj := (by decide : 2 ≤ 3)) K_L_tick (ma_cons (ms_var 5 (by dsimp only [gOf, G.blk]; decide +kernel)) (ma_cons (ms_var 6 (by dsimp only [gOf, G.blk]; decide +kernel)) (ma_cons (ms_var 15 (by dsimp only [gOf, G.blk]; decide +kernel)) (ma_cons (ms_var 16 (by dsimp only [gOf, G.blk]; decide +kernel)) ma_nil)))) (hg := (by dsimp only [gOf, G.blk]; decide +kernel))) ma_nil)) (hg := (by dsimp only [gOf, G.blk]; decide +kernel))))) (mw_or1 (mt_cmp good_notIn (ms_var 19 (by dsimp only [gOf, G.blk]; decide +kernel)) (ms_var 9 (by dsimp only [gOf, G.blk]; decide +kernel)))))) (mss_one (mst_ret ms_bl)) mss_nil)
    (mss_one (mst_if (mt_not (mt_val (ms_call (hj := (by decide : 1 ≤ 3)) K_L_alike (ma_cons (ms_call (hj := (by decide : 2 ≤ 3)) K_grown (ma_cons (ms_var 7 (by dsimp only [gOf, G.blk]; decide +kernel)) (ma_cons (ms_var 19 (by dsimp only [gOf, G.blk]; decide +kernel)) ma_nil)) (hg := (by dsimp only [gOf, G.blk]; decide +kernel))) (ma_cons (ms_call (hj := (by decide : 1 ≤ 3)) K_L_pattern (ma_cons (ms_op good_add (ms_var 5 (by dsimp only [gOf, G.blk]; decide +kernel)) (ms_tup (ma_cons (ms_var 15 (by dsimp only [gOf, G.blk]; decide +kernel)) ma_nil))) (ma_cons (ms_op good_add (ms_var 6 (by dsimp only [gOf, G.blk]; decide +kernel)) (ms_tup (ma_cons (ms_var 16 (by dsimp only [gOf, G.blk]; decide +kernel)) ma_nil))) ma_nil)) (hg := (by dsimp only [gOf, G.blk]; decide +kernel))) ma_nil)) (hg := (by dsimp only [gOf, G.blk]; decide +kernel))))) (mss_one (mst_ret ms_bl)) mss_nil))))))
    (mss_cons (mst_for (mi_range1 b_range (ma_cons ms_int ma_nil) (by dsimp only [gOf, G.blk]; decide +kernel)) (mg_name 3 (by dsimp only [gOf, G.blk]; decide +kernel)) (mss_cons (mst_par 20 21 (by decide) (by dsimp only [gOf, G.blk]; decide +kernel) (by dsimp only [gOf, G.blk]; decide +kernel) (by dsimp only [gOf, G.blk]; decide +kernel) (by dsimp only [gOf, G.blk]; decide +kernel) (ma_cons (ms_call (hj := (by decide : 1 ≤ 3)) K_L_take (ma_cons (ms_var 1 (by dsimp only [gOf, G.blk]; decide +kernel)) (ma_cons (ms_op good_add (ms_callB good_len b_len rfl (ma_cons (ms_var 5 (by dsimp only [gOf, G.blk]; decide +kernel)) ma_nil) (by dsimp only [gOf, G.blk]; decide +kernel)) ms_int) ma_nil)) (hg := (by dsimp only [gOf, G.blk]; decide +kernel))) (ma_cons (ms_call (hj := (by decide : 1 ≤ 3)) K_L_take (ma_cons (ms_var 1 (by dsimp only [gOf, G.blk]; decide +kernel)) (ma_cons (ms_op good_add (ms_callB good_len b_len rfl (ma_cons (ms_var 6 (by dsimp only [gOf, G.blk]; decide +kernel)) ma_nil) (by dsimp only [gOf, G.blk]; decide +kernel)) ms_int) ma_nil)) (hg := (by dsimp only [gOf, G.blk]; decide +kernel))) ma_nil)) (by intro env he; cases env; cases he; rfl))
    (mss_one (mst_if (mt_not (mt_val (ms_call (hj := (by decide : 1 ≤ 3)) K_L_alike (ma_cons (ms_call (hj := (by decide : 2 ≤ 3)) K_cut (ma_cons (ms_var 7 (by dsimp only [gOf, G.blk]; decide +kernel)) (ma_cons (ms_var 20 (by dsimp only [gOf, G.blk]; decide +kernel)) (ma_cons (ms_var 21 (by dsimp only [gOf, G.blk]; decide +kernel)) ma_nil))) (hg := (by dsimp only [gOf, G.blk]; decide +kernel))) (ma_cons (ms_call (hj := (by decide : 1 ≤ 3)) K_L_pattern (ma_cons (ms_slT (ms_var 5 (by dsimp only [gOf, G.blk]; decide +kernel)) (mo_some (ms_var 20 (by dsimp only [gOf, G.blk]; decide +kernel))) mo_none) (ma_cons (ms_slT (ms_var 6 (by dsimp only [gOf, G.blk]; decide +kernel)) (mo_some (ms_var 21 (by dsimp only [gOf, G.blk]; decide +kernel))) mo_none) ma_nil)) (hg := (by dsimp only [gOf, G.blk]; decide +kernel))) ma_nil)) (hg := (by dsimp only [gOf, G.blk]; decide +kernel))))) (mss_one (mst_ret ms_bl)) mss_nil))))
    (mss_cons (mst_expr (ms_meth0 PySem.F.slot_list_clear PySem.F.type_list_clear good_clear (ms_var 9 (by dsimp only [gOf, G.blk]; decide +kernel))))
    (mss_cons (mst_expr (ms_meth PySem.F.slot_list_append PySem.F.type_list_append good_append (ms_var 9 (by dsimp only [gOf, G.blk]; decide +kernel)) (ma_cons (ms_tup (ma_cons ms_int (ma_cons ms_int ma_nil))) ma_nil)))
    (mss_one (mst_if (mt_w (mw_or (mt_not (mt_val (ms_call (hj := (by decide : 1 ≤ 3)) K_L_alike (ma_cons (ms_ofL (ml_call (hj := (by decide : 2 ≤ 3)) K_ticks (ma_cons (ms_var 7 (by dsimp only [gOf, G.blk]; decide +kernel)) ma_nil) (hg := (by dsimp only [gOf, G.blk]; decide +kernel)))) (ma_cons (ms_call (hj := (by decide : 1 ≤ 3)) K_L_ticks (ma_cons (ms_var 8 (by dsimp only [gOf, G.blk]; decide +kernel)) ma_nil) (hg := (by dsimp only [gOf, G.blk]; decide +kernel))) ma_nil)) (hg := (by dsimp only [gOf, G.blk]; decide +kernel))))) (mw_or1 (mt_not (mt_val (ms_call (hj := (by decide : 1 ≤ 3)) K_L_alike (ma_cons (ms_var 7 (by dsimp only [gOf, G.blk]; decide +kernel)) (ma_cons (ms_var 8 (by dsimp only [gOf, G.blk]; decide +kernel)) ma_nil)) (hg := (by dsimp only [gOf, G.blk]; decide +kernel)))))))) (mss_one (mst_ret ms_bl)) mss_nil))))))))))))))))))
    (mss_one (mst_ret ms_bl))))
theorem k_law {W : Wd} {f : Addr} {fd : FuncData} (b_enumerate : W.mg "enumerate" = none) (b_len : W.mg "len" = none) (b_range : W.mg "range" = none) (b_set : W.mg "set" = none) (K_pattern_of : Kn W "pattern_of" 1 2 F_pattern_of) (K_ticks : KnL W "ticks" 2 1 F_ticks) (K_tick_of : Kn W "tick_of" 1 4 F_tick_of) (K_grown : Kn W "grown" 2 2 F_grown) (K_cut : Kn W "cut" 2 3 F_cut) (K_L_bag : KnL W "_law_bag" 1 1 F_L_bag) (K_L_take : Kn W "_law_take" 1 2 F_L_take) (K_L_one : Kn W "_law_one" 2 2 F_L_one) (K_L_alphabet : Kn W "_law_alphabet" 3 1 F_L_alphabet) (K_L_text : Kn W "_law_text" 3 3 F_L_text) (K_L_alike : Kn W "_law_alike" 1 2 F_L_alike) (K_L_pattern : Kn W "_law_pattern" 1 2 F_L_pattern) (K_L_ticks : Kn W "_law_ticks" 1 1 F_L_ticks) (K_L_tick : Kn W "_law_tick" 2 4 F_L_tick) (F : L2.Fun W.K "law" "law" s_law f fd) (hm : W.mg "law" = some (.ref f)) (hb : Binds W.K fd ["_law_script"] []) : Kn W "law" 4 1 F_law :=
  kn_of F sc_law hm hb (d_law b_enumerate b_len b_range b_set K_pattern_of K_ticks K_tick_of K_grown K_cut K_L_bag K_L_take K_L_one K_L_alphabet K_L_text K_L_alike K_L_pattern K_L_ticks K_L_tick)
end K65
/-! patterns of letters, in plain Lean -/
namespace K65
def uq : List Int → List Int → List Int
  | acc, [] => acc
  | acc, x :: r => uq (if x ∈ acc then acc else acc ++ [x]) r
theorem uq_app : ∀ (xs acc ys : List Int), uq acc (xs ++ ys) = uq (uq acc xs) ys
  | [], _, _ => rfl
  | x :: r, acc, ys => uq_app r _ ys
theorem uq_pre : ∀ (xs acc : List Int), ∃ t, uq acc xs = acc ++ t ∧ t.length ≤ xs.length
  | [], acc => ⟨[], by rw [List.append_nil]; rfl, Nat.le_refl _⟩
  | x :: r, acc => by
    obtain ⟨t, e, hl⟩ := uq_pre r (if x ∈ acc then acc else acc ++ [x])
    show ∃ t, uq (if x ∈ acc then acc else acc ++ [x]) r = acc ++ t ∧ _
    by_cases h : x ∈ acc
    · rw [if_pos h] at e ⊢
      exact ⟨t, e, Nat.le_succ_of_le hl⟩
    · rw [if_neg h] at e ⊢
      exact ⟨x :: t, by rw [e, List.append_assoc]; rfl, Nat.succ_le_succ hl⟩
theorem mem_uq {k : Int} : ∀ (xs acc : List Int), k ∈ uq acc xs ↔ k ∈ acc ∨ k ∈ xs
  | [], acc => by
    show k ∈ acc ↔ _
    simp
  | x :: r, acc => by
    show k ∈ uq (if x ∈ acc then acc else acc ++ [x]) r ↔ _
    rw [mem_uq r]
    by_cases h : x ∈ acc
    · rw [if_pos h, List.mem_cons]
      constructor
      · rintro (q | q)
        · exact .inl q
        · exact .inr (.inr q)
      · rintro (q | q | q)
        · exact .inl q
        · rw [q]
          exact .inl h
        · exact .inr q
    · rw [if_neg h, List.mem_append, List.mem_singleton, List.mem_cons, or_assoc]
theorem nodup_uq : ∀ (xs acc : List Int), acc.Nodup → (uq acc xs).Nodup
  | [], acc, h => h
  | x :: r, acc, h => by
    refine nodup_uq r _ ?_
    by_cases q : x ∈ acc
    · rw [if_pos q]
      exact h
    · rw [if_neg q]
      refine List.nodup_append.mpr ⟨h, List.nodup_cons.mpr ⟨by simp, List.nodup_nil⟩, fun a ha b hb e => ?_⟩
      rw [List.mem_singleton] at hb
      exact q (by rw [← hb, ← e]; exact ha)
/-- f keeps unlike members unlike -/
def Inj (f : Int → Int) (L : List Int) : Prop := ∀ x, x ∈ L → ∀ y, y ∈ L → f x = f y → x = y
theorem Inj.sub {f : Int → Int} {L M : List Int} (h : Inj f L) (s : ∀ x, x ∈ M → x ∈ L) : Inj f M := fun x hx y hy => h x (s x hx) y (s y hy)
theorem mem_map_inj {f : Int → Int} {L : List Int} {x : Int} (h : Inj f (x :: L)) : f x ∈ L.map f ↔ x ∈ L := by
  constructor
  · intro q
    obtain ⟨y, hy, e⟩ := List.mem_map.mp q
    rw [h x List.mem_cons_self y (List.mem_cons_of_mem _ hy) e.symm]
    exact hy
  · exact fun q => List.mem_map.mpr ⟨x, q, rfl⟩
theorem uq_map {f : Int → Int} : ∀ (xs acc : List Int), Inj f (acc ++ xs) → uq (acc.map f) (xs.map f) = (uq acc xs).map f
  | [], acc, _ => rfl
  | x :: r, acc, h => by
    show uq (if f x ∈ acc.map f then acc.map f else acc.map f ++ [f x]) (r.map f) = (uq (if x ∈ acc then acc else acc ++ [x]) r).map f
    have hm : f x ∈ acc.map f ↔ x ∈ acc := mem_map_inj (h.sub fun y hy => by
      rcases List.mem_cons.mp hy with q | q
      · rw [q]
        exact List.mem_append_right _ List.mem_cons_self
      · exact List.mem_append_left _ q)
    by_cases q : x ∈ acc
    · rw [if_pos q, if_pos (hm.mpr q)]
      exact uq_map r acc (h.sub fun y hy => by
        rcases List.mem_append.mp hy with z | z
        · exact List.mem_append_left _ z
        · exact List.mem_append_right _ (List.mem_cons_of_mem _ z))
    · rw [if_neg q, if_neg fun z => q (hm.mp z)]
      rw [show acc.map f ++ [f x] = (acc ++ [x]).map f by rw [List.map_append]; rfl]
      exact uq_map r (acc ++ [x]) (h.sub fun y hy => by
        rw [List.append_assoc] at hy
        exact hy)
theorem idx_map {f : Int → Int} {x : Int} : ∀ (u : List Int), Inj f (x :: u) → (u.map f).idxOf (f x) = u.idxOf x
  | [], _ => rfl
  | y :: r, h => by
    rw [List.map_cons, List.idxOf_cons, List.idxOf_cons]
    have hb : (f y == f x) = (y == x) := by
      rw [Bool.eq_iff_iff, beq_iff_eq, beq_iff_eq]
      exact ⟨fun e => h y (List.mem_cons_of_mem _ List.mem_cons_self) x List.mem_cons_self e, fun e => by rw [e]⟩
    rw [hb, idx_map r (h.sub fun z hz => by
      rcases List.mem_cons.mp hz with q | q
      · rw [q]
        exact List.mem_cons_self
      · exact List.mem_cons_of_mem _ (List.mem_cons_of_mem _ q))]
/-- the number of x among u -/
def nu (u : List Int) (x : Int) : Int := (u.idxOf x : Nat)
def pt (u l : List Int) : List Int := l.map (nu u)
abbrev PT := List Int × List Int
def un (l r : List Int) : List Int := uq [] (l ++ r)
def pat (l r : List Int) : PT := (pt (un l r) l, pt (un l r) r)
theorem nu_inj {u L : List Int} (h : ∀ x, x ∈ L → x ∈ u) : Inj (nu u) L := fun x hx y hy e => by
  have e1 : u.idxOf x = u.idxOf y := Int.ofNat.inj e
  have hx1 := List.getElem_idxOf (List.idxOf_lt_length_of_mem (h x hx))
  have hy1 := List.getElem_idxOf (List.idxOf_lt_length_of_mem (h y hy))
  rw [← hx1, ← hy1]
  congr 1
theorem pat_map {f : Int → Int} {l r : List Int} (h : Inj f (l ++ r)) : pat (l.map f) (r.map f) = pat l r := by
  have e : un (l.map f) (r.map f) = (un l r).map f := by
    unfold un
    rw [← List.map_append]
    exact uq_map (l ++ r) [] h
  have key : ∀ x, x ∈ l ++ r → nu ((un l r).map f) (f x) = nu (un l r) x := fun x hx => by
    unfold nu
    rw [idx_map (un l r) (h.sub fun y hy => by
      rcases List.mem_cons.mp hy with q | q
      · rw [q]
        exact hx
      · rcases (mem_uq (l ++ r) []).mp q with z | z
        · cases z
        · exact z)]
  unfold pat
  rw [e]
  unfold pt
  rw [List.map_map, List.map_map]
  refine Prod.ext (List.map_congr_left fun x hx => key x (List.mem_append_left _ hx)) (List.map_congr_left fun x hx => key x (List.mem_append_right _ hx))
theorem mem_un {l r : List Int} {x : Int} : x ∈ un l r ↔ x ∈ l ++ r := by
  unfold un
  rw [mem_uq]
  simp
/-- the tick that x and y are behind l and r -/
def tk (l r : List Int) (x y : Int) : Int × Int := (nu (uq (un l r) [x, y]) x, nu (uq (un l r) [x, y]) y)
theorem tk_map {f : Int → Int} {l r : List Int} {x y : Int} (h : Inj f (l ++ r ++ [x, y])) : tk (l.map f) (r.map f) (f x) (f y) = tk l r x y := by
  have e : un (l.map f) (r.map f) = (un l r).map f := by
    unfold un
    rw [← List.map_append]
    exact uq_map (l ++ r) [] (h.sub fun z hz => List.mem_append_left _ hz)
  have sub : ∀ z, z ∈ uq (un l r) [x, y] → z ∈ l ++ r ++ [x, y] := fun z hz => by
    rcases (mem_uq _ _).mp hz with q | q
    · exact List.mem_append_left _ (mem_un.mp q)
    · exact List.mem_append_right _ q
  have e2 : uq ((un l r).map f) [f x, f y] = (uq (un l r) [x, y]).map f := uq_map [x, y] (un l r) (h.sub fun z hz => by
    rcases List.mem_append.mp hz with q | q
    · exact List.mem_append_left _ (mem_un.mp q)
    · exact List.mem_append_right _ q)
  have key : ∀ z, z ∈ [x, y] → nu ((uq (un l r) [x, y]).map f) (f z) = nu (uq (un l r) [x, y]) z := fun z hz => by
    unfold nu
    rw [idx_map _ (h.sub fun w hw => by
      rcases List.mem_cons.mp hw with q | q
      · rw [q]
        exact List.mem_append_right _ hz
      · exact sub w q)]
  unfold tk
  rw [e, e2, key x (by simp), key y (by simp)]
theorem nu_pre {u t : List Int} {x : Int} (h : x ∈ u) : nu (u ++ t) x = nu u x := by
  unfold nu
  rw [List.idxOf_append, if_pos h]
theorem nu_out {u t : List Int} {x : Int} (h : x ∉ u) : nu (u ++ t) x = u.length + nu t x := by
  unfold nu
  rw [List.idxOf_append, if_neg h]
  omega
theorem nu_len {u : List Int} {x : Int} (h : x ∈ u) : 0 ≤ nu u x ∧ nu u x < u.length := by
  unfold nu
  have := List.idxOf_lt_length_of_mem h
  omega
/-- grown: the tick of two letters put behind the pattern is the pattern of the longer texts -/
theorem pat_grown (l r : List Int) (x y : Int) : pat ((pat l r).1 ++ [(tk l r x y).1]) ((pat l r).2 ++ [(tk l r x y).2]) = pat (l ++ [x]) (r ++ [y]) := by
  obtain ⟨t, e, _⟩ := uq_pre [x, y] (un l r)
  have h1 : ∀ m, (∀ z, z ∈ m → z ∈ l ++ r) → pt (un l r) m = m.map (nu (uq (un l r) [x, y])) := fun m hm => by
    unfold pt
    refine List.map_congr_left fun z hz => ?_
    rw [e, nu_pre (mem_un.mpr (hm z hz))]
  show pat (pt (un l r) l ++ [nu (uq (un l r) [x, y]) x]) (pt (un l r) r ++ [nu (uq (un l r) [x, y]) y]) = _
  rw [h1 l (fun z hz => List.mem_append_left _ hz), h1 r (fun z hz => List.mem_append_right _ hz)]
  have e3 : ∀ (m : List Int) (z : Int), m.map (nu (uq (un l r) [x, y])) ++ [nu (uq (un l r) [x, y]) z] = (m ++ [z]).map (nu (uq (un l r) [x, y])) := fun m z => by
    rw [List.map_append]
    rfl
  rw [e3, e3]
  refine pat_map (nu_inj fun z hz => (mem_uq _ _).mpr ?_)
  rw [mem_un]
  simp only [List.mem_append, List.mem_cons, List.not_mem_nil, or_false] at hz ⊢
  rcases hz with (q | q) | (q | q)
  · exact .inl (.inl q)
  · exact .inr (.inl q)
  · exact .inl (.inr q)
  · exact .inr (.inr q)
theorem pat_cut (l r : List Int) (a b : Nat) : pat ((pat l r).1.drop a) ((pat l r).2.drop b) = pat (l.drop a) (r.drop b) := by
  show pat ((l.map (nu (un l r))).drop a) ((r.map (nu (un l r))).drop b) = _
  rw [← List.map_drop, ← List.map_drop]
  refine pat_map (nu_inj fun z hz => ?_)
  rw [mem_un]
  rcases List.mem_append.mp hz with q | q
  · exact List.mem_append_left _ (List.mem_of_mem_drop q)
  · exact List.mem_append_right _ (List.mem_of_mem_drop q)
theorem pat_same (l r : List Int) : pat (pat l r).1 (pat l r).2 = pat l r := by
  have := pat_cut l r 0 0
  simpa using this
/-- the pattern of the longer texts tells the tick -/
def tkOf (p : PT) : Int × Int := tk p.1.dropLast p.2.dropLast (p.1.getLastD 0) (p.2.getLastD 0)
theorem tkOf_pat (l r : List Int) (x y : Int) : tkOf (pat (l ++ [x]) (r ++ [y])) = tk l r x y := by
  have h : ∀ u m (z : Int), pt u (m ++ [z]) = pt u m ++ [nu u z] := fun u m z => by
    unfold pt
    rw [List.map_append]
    rfl
  unfold tkOf pat
  rw [h, h, List.dropLast_concat, List.dropLast_concat, List.getLastD_concat, List.getLastD_concat]
  refine tk_map (nu_inj fun z hz => ?_)
  rw [mem_un]
  simp only [List.mem_append, List.mem_cons, List.not_mem_nil, or_false] at hz ⊢
  rcases hz with (q | q) | (q | q)
  · exact .inl (.inl q)
  · exact .inr (.inl q)
  · exact .inl (.inr q)
  · exact .inr (.inr q)
/-- the numbers, by hand -/
theorem tk_eq (l r : List Int) (x y : Int) : tk l r x y =
    ((if x ∈ l ++ r then nu (un l r) x else ((un l r).length : Nat)),
     (if y ∈ l ++ r then nu (un l r) y else if x ∈ l ++ r ∨ y = x then ((un l r).length : Nat) else ((un l r).length : Nat) + 1)) := by
  have e : uq (un l r) [x, y] = (if y ∈ (if x ∈ un l r then un l r else un l r ++ [x]) then (if x ∈ un l r then un l r else un l r ++ [x]) else (if x ∈ un l r then un l r else un l r ++ [x]) ++ [y]) := rfl
  unfold tk
  rw [e]
  by_cases hx : x ∈ l ++ r
  · have hx1 := mem_un.mpr hx
    rw [if_pos hx1, if_pos hx]
    by_cases hy : y ∈ l ++ r
    · rw [if_pos (mem_un.mpr hy), if_pos hy]
    · have hy1 : y ∉ un l r := fun z => hy (mem_un.mp z)
      rw [if_neg hy1, if_neg hy, if_pos (.inl hx), nu_pre hx1, nu_out hy1]
      unfold nu
      rw [List.idxOf_cons_self]
      rfl
  · have hx1 : x ∉ un l r := fun z => hx (mem_un.mp z)
    rw [if_neg hx1, if_neg hx]
    have hl : nu (un l r ++ [x]) x = (un l r).length := by
      rw [nu_out hx1]
      unfold nu
      rw [List.idxOf_cons_self]
      rfl
    by_cases hy : y ∈ l ++ r
    · have hy1 := mem_un.mpr hy
      rw [if_pos (List.mem_append_left _ hy1), if_pos hy, hl, nu_pre hy1]
    · have hy1 : y ∉ un l r := fun z => hy (mem_un.mp z)
      rw [if_neg hy]
      by_cases hxy : y = x
      · rw [hxy, if_pos (List.mem_append_right _ (List.mem_singleton.mpr rfl)), hl, if_pos (.inr rfl)]
      · have hy2 : y ∉ un l r ++ [x] := fun z => by
          rcases List.mem_append.mp z with q | q
          · exact hy1 q
          · exact hxy (List.mem_singleton.mp q)
        rw [if_neg hy2, nu_pre (List.mem_append_right _ (List.mem_singleton.mpr rfl)), hl, nu_out hy2, if_neg (fun z => z.elim hx hxy)]
        unfold nu
        rw [List.idxOf_cons_self, List.length_append]
        rfl
/-- the ticks of a pattern of n numbers -/
def tks (n : Nat) : List (Int × Int) := (List.range (n + 1)).flatMap fun (x : Nat) => (List.range (n + 1 + if x = n then 1 else 0)).map fun (y : Nat) => ((x : Int), (y : Int))
theorem mem_tks {n : Nat} {a b : Int} : (a, b) ∈ tks n ↔ 0 ≤ a ∧ a ≤ n ∧ 0 ≤ b ∧ (b ≤ n ∨ (a = n ∧ b = n + 1)) := by
  unfold tks
  rw [List.mem_flatMap]
  constructor
  · rintro ⟨x, hx, h⟩
    obtain ⟨y, hy, e⟩ := List.mem_map.mp h
    cases e
    rw [List.mem_range] at hx hy
    split at hy <;> omega
  · rintro ⟨h1, h2, h3, h4⟩
    refine ⟨a.toNat, List.mem_range.mpr (by omega), List.mem_map.mpr ⟨b.toNat, List.mem_range.mpr ?_, ?_⟩⟩
    · split <;> omega
    · rw [Int.toNat_of_nonneg h1, Int.toNat_of_nonneg h3]
theorem tk_mem (l r : List Int) (x y : Int) : tk l r x y ∈ tks (un l r).length := by
  rw [tk_eq, mem_tks]
  have hx : x ∈ l ++ r → 0 ≤ nu (un l r) x ∧ nu (un l r) x < (un l r).length := fun h => nu_len (mem_un.mpr h)
  have hy : y ∈ l ++ r → 0 ≤ nu (un l r) y ∧ nu (un l r) y < (un l r).length := fun h => nu_len (mem_un.mpr h)
  by_cases h1 : x ∈ l ++ r
  · rw [if_pos h1]
    have := hx h1
    by_cases h2 : y ∈ l ++ r
    · rw [if_pos h2]
      have := hy h2
      omega
    · rw [if_neg h2, if_pos (.inl h1)]
      omega
  · rw [if_neg h1]
    by_cases h2 : y ∈ l ++ r
    · rw [if_pos h2]
      have := hy h2
      omega
    · rw [if_neg h2]
      split <;> omega
theorem nodup_tks (n : Nat) : (tks n).Nodup := by
  unfold tks
  refine List.pairwise_flatMap.mpr ⟨fun x _ => ?_, ?_⟩
  · exact List.Pairwise.map _ (fun a b h e => h (Int.ofNat.inj (congrArg Prod.snd e))) List.nodup_range
  · refine List.nodup_range.imp fun {a b} h p hp q hq e => ?_
    obtain ⟨y, _, e1⟩ := List.mem_map.mp hp
    obtain ⟨z, _, e2⟩ := List.mem_map.mp hq
    exact h (Int.ofNat.inj (congrArg Prod.fst (e1.trans (e.trans e2.symm))))
/-- the letters by their numbers, two new ones behind them -/
def nam (l r : List Int) (a b : Int) : List Int := un l r ++ [a, b]
theorem tk_nam {l r : List Int} {a b : Int} (ha : a ∉ l ++ r) (hb : b ∉ l ++ r) (hab : b ≠ a) {x y : Nat} (h : ((x : Int), (y : Int)) ∈ tks (un l r).length) (u v : Int) (hu : (nam l r a b)[x]? = some u) (hv : (nam l r a b)[y]? = some v) : tk l r u v = ((x : Int), (y : Int)) := by
  have nd : (un l r).Nodup := nodup_uq _ _ List.nodup_nil
  have at1 : ∀ (j : Nat) (w : Int), j < (un l r).length → (nam l r a b)[j]? = some w → w ∈ l ++ r ∧ nu (un l r) w = j := fun j w hj e => by
    unfold nam at e
    rw [List.getElem?_append_left hj, List.getElem?_eq_getElem hj] at e
    cases e
    refine ⟨mem_un.mp (List.getElem_mem hj), ?_⟩
    unfold nu
    rw [nd.idxOf_getElem j hj]
  have at2 : ∀ w : Int, (nam l r a b)[(un l r).length]? = some w → w = a := fun w e => by
    unfold nam at e
    rw [List.getElem?_append_right (Nat.le_refl _), Nat.sub_self] at e
    exact (Option.some.inj e).symm
  have at3 : ∀ w : Int, (nam l r a b)[(un l r).length + 1]? = some w → w = b := fun w e => by
    unfold nam at e
    rw [List.getElem?_append_right (Nat.le_succ _), show (un l r).length + 1 - (un l r).length = 1 by omega] at e
    exact (Option.some.inj e).symm
  obtain ⟨_, h2, _, h4⟩ := mem_tks.mp h
  rw [tk_eq]
  have h2' : x ≤ (un l r).length := by omega
  rcases Nat.lt_or_eq_of_le h2' with hx | hx
  · obtain ⟨m1, n1⟩ := at1 x u hx hu
    rw [if_pos m1, n1]
    have h4' : y ≤ (un l r).length := by omega
    rcases Nat.lt_or_eq_of_le h4' with hy | hy
    · obtain ⟨m2, n2⟩ := at1 y v hy hv
      rw [if_pos m2, n2]
    · subst hy
      rw [at2 v hv, if_neg ha, if_pos (.inl m1)]
  · subst hx
    rw [at2 u hu, if_neg ha]
    rcases Nat.lt_trichotomy y (un l r).length with hy | hy | hy
    · obtain ⟨m2, n2⟩ := at1 y v hy hv
      rw [if_pos m2, n2]
    · subst hy
      rw [at2 v hv, if_neg ha, if_pos (.inr rfl)]
    · have e : y = (un l r).length + 1 := by omega
      subst e
      rw [at3 v hv, if_neg hb, if_neg (fun z => z.elim ha hab)]
      rfl
end K65
namespace K65
open PySem PySem.Spec PyProof.Rows L2 Mi
def pD (p : PT) : D := .tup [.ftp (ID p.1), .ftp (ID p.2)]
def tD (t : Int × Int) : D := .tup [.int t.1, .int t.2]
theorem below_pD {n : Nat} (p : PT) : below n (pD p) = true := by
  simp only [pD, below, belows, belows_ID]
  rfl
theorem below_tD {n : Nat} (t : Int × Int) : below n (tD t) = true := by
  simp only [tD, below, belows]
  rfl
section
variable {S : Sto}
theorem uq_len (xs acc : List Int) : (uq acc xs).length ≤ acc.length + xs.length := by
  obtain ⟨t, e, h⟩ := uq_pre xs acc
  rw [e, List.length_append]
  omega
theorem uq_snoc (xs acc : List Int) (x : Int) : uq acc (xs ++ [x]) = if x ∈ uq acc xs then uq acc xs else uq acc xs ++ [x] := uq_app xs acc [x]
theorem sz_ok {n : Nat} (h : n ≤ 16000000) : n ≤ sizeLine := by
  have : sizeLine = 16777216 := by decide
  omega
theorem sz2 : 2 ≤ sizeLine := sz_ok (by decide)
/-- the numbering of letters in a dict -/
theorem dict_loop {ρ0 : Mi.Env} {a b : Nat} {xs : List Int} (hb : b < ρ0.length) (hab : a ≠ b) (ha : ρ0[a]? = some (some (.obj S.length))) (hz : xs.length ≤ 1000) :
    ∃ y, forI (tnL (ID xs)) (mName b) (mIfS (mT (mDIn true (mVar b) (mVar a))) (mDSet (mCB bLen (mCons (mVar a) mNil)) (mVar a) (mVar b)) mSkip) (ID xs).length 0 ρ0 (S ++ [.dk []]) = some (.nx (ρ0.set b y), S ++ [.dk (kvF 0 (uq [] xs))]) := by
  have step : ∀ (i : Nat) (hi : i < (ID xs).length) (ρ : Mi.Env) (S' : Sto), ((∃ y, ρ = ρ0.set b y) ∧ S' = S ++ [.dk (kvF 0 (uq [] (xs.take i)))]) → ∃ ρ1 S1 ρ2 S2, mName b (ID xs)[i] ρ S' = some (ρ1, S1) ∧
      mIfS (mT (mDIn true (mVar b) (mVar a))) (mDSet (mCB bLen (mCons (mVar a) mNil)) (mVar a) (mVar b)) mSkip ρ1 S1 = some (.nx ρ2, S2) ∧ ((∃ y, ρ2 = ρ0.set b y) ∧ S2 = S ++ [.dk (kvF 0 (uq [] (xs.take (i + 1))))]) := by
    intro i hi ρ S' p
    obtain ⟨⟨y, rfl⟩, rfl⟩ := p
    have hi' : i < xs.length := by simpa using hi
    have hx : (ID xs)[i] = .int xs[i] := by simp
    have ht : xs.take (i + 1) = xs.take i ++ [xs[i]] := by rw [List.take_add_one, List.getElem?_eq_getElem hi']; rfl
    have hS : (S ++ [C.dk (kvF 0 (uq [] (xs.take i)))])[S.length]? = some (.dk (kvF 0 (uq [] (xs.take i)))) := at_last
    have va : ∀ T : Sto, mVar a (ρ0.set b (some (.int xs[i]))) T = some (.obj S.length, T) := fun T => var_eq (by rw [List.getElem?_set_ne (Ne.symm hab), ha])
    have vb : ∀ T : Sto, mVar b (ρ0.set b (some (.int xs[i]))) T = some (.int xs[i], T) := fun T => var_eq (by rw [List.getElem?_set_self hb])
    refine ⟨ρ0.set b (some (.int xs[i])), S ++ [.dk (kvF 0 (uq [] (xs.take i)))], _, _, ?_, ?_, ⟨some (.int xs[i]), rfl⟩, rfl⟩
    · rw [hx]
      show some ((ρ0.set b y).set b _, _) = _
      rw [List.set_set]
    · have hin := din_eq (neg := true) (vb _) (va _) (dLook_int (i := xs[i]) hS)
      rw [valD_kvF] at hin
      rw [ht, uq_snoc]
      by_cases h : xs[i] ∈ uq [] (xs.take i)
      · rw [if_pos h] at hin ⊢
        exact ifs_f (t_eq hin)
      · rw [if_neg h] at hin ⊢
        rw [ifs_t (t_eq hin)]
        have hl : (uq [] (xs.take i)).length ≤ xs.length := by
          have := uq_len (xs.take i) []
          rw [List.length_take] at this
          simp only [List.length_nil] at this
          omega
        have hd := dset_eq (cb_eq (cons_eq (w := mNil) (va _) rfl) (len_dk hS)) (va _) (vb _) (dStore_int (i := xs[i]) (v := .int ((kvF 0 (uq [] (xs.take i))).length : Nat)) hS (by rw [kvF_len]; exact Nat.lt_of_le_of_lt hl (Nat.lt_of_le_of_lt hz (by decide))))
        rw [hd, kvF_len, putD_kvF h, set_last]
  obtain ⟨ρ2, S2, e, ⟨y, hy⟩, hS⟩ := forL_inv (ID xs) (fun i ρ S' => (∃ y, ρ = ρ0.set b y) ∧ S' = S ++ [.dk (kvF 0 (uq [] (xs.take i)))]) step ⟨⟨ρ0[b], (List.set_getElem_self hb).symm⟩, rfl⟩
  refine ⟨y, ?_⟩
  refine Eq.trans e ?_
  rw [hy, hS, List.length_map, List.take_length]
theorem pt_len (u l : List Int) : (pt u l).length = l.length := List.length_map _
/-- the numbers of a text by the dict -/
theorem dict_read {ρ : Mi.Env} {u l : List Int} {d : D} {a b v : Nat} (hd : TupV d (ID l)) (hv : ρ[v]? = some (some d)) (hb : b < ρ.length) (hab : a ≠ b) (ha : ρ[a]? = some (some (.obj S.length))) (hm : ∀ x, x ∈ l → x ∈ u) (hz : l.length ≤ 1000) :
    mCB bTupleF (mCons (mOfL (mLc (mItT (mVar v)) (mName b) mYes (mDGet (mVar a) (mVar b)) [b])) mNil) ρ (S ++ [.dk (kvF 0 u)]) = some (.ftp (ID (pt u l)), S ++ [.dk (kvF 0 u)]) := by
  have h1 := lc_map (S := S ++ [.dk (kvF 0 u)]) (fe := mDGet (mVar a) (mVar b)) (g := gI (nu u)) (vs := [b]) (mItT_eq (var_eq hv) hd.of) (by rw [List.length_map]; exact sz_ok (by omega)) fun x hx => by
    obtain ⟨i, hi, rfl⟩ := List.mem_map.mp hx
    have e : (mwipe ρ [b]).set b (some (.int i)) = ρ.set b (some (.int i)) := by
      show (ρ.set b none).set b _ = _
      rw [List.set_set]
    rw [e]
    refine dget_eq (var_eq (by rw [List.getElem?_set_ne (Ne.symm hab), ha])) (var_eq (by rw [List.getElem?_set_self hb])) ?_
    rw [dLook_int at_last, valD_kvF, if_pos (hm i hi), Nat.zero_add]
    rfl
  rw [map_gI] at h1
  exact cb_eq (cons_eq (ofL_eq h1) rfl) rfl
theorem pattern_of_eq {a b : D} {l r : List Int} (ha : TupV a (ID l)) (hb : TupV b (ID r)) (g : Gd S) (hn : l.length + r.length ≤ 1000) : F_pattern_of [a, b] S = some (pD (pat l r), S) := by
  refine fun_eq (T := []) (S1 := S ++ [.dk (kvF 0 (un l r))]) (d := pD (pat l r)) rfl ?_ (retD_pure g (below_pD _))
  show B_pattern_of [some a, some b, none, none] S = _
  unfold B_pattern_of
  rw [seq_nx (new_eq rfl)]
  obtain ⟨y, e⟩ := dict_loop (S := S) (ρ0 := [some a, some b, some (.obj S.length), none]) (a := 2) (b := 3) (xs := l ++ r) (show 3 < 4 by decide) (by decide) rfl (by rw [List.length_append]; exact hn)
  have hl : mOfL (mLst (mStar (mVar 0) (mStar (mVar 1) mNil))) [some a, some b, some (.obj S.length), none] (S ++ [.dk []]) = some (.lst (ID (l ++ r)), S ++ [.dk []]) := by
    refine ofL_eq (c := .lst (ID (l ++ r))) (lst_eq ?_ ?_)
    · have := star_eq (S := S ++ [C.dk []]) (ρ := [some a, some b, some (.obj S.length), none]) (f := mVar 0) (var_eq rfl) ha.seq (star_eq (f := mVar 1) (var_eq rfl) hb.seq (w := mNil) rfl)
      rw [List.append_nil, ← List.map_append] at this
      exact this
    · rw [List.length_map, List.length_append]
      exact sz_ok (by omega)
  have hi : mItL (mOfL (mLst (mStar (mVar 0) (mStar (mVar 1) mNil)))) [some a, some b, some (.obj S.length), none] (S ++ [.dk []]) = some (tnL (ID (l ++ r)), (ID (l ++ r)).length, S ++ [.dk []]) := by
    unfold mItL
    rw [hl]
    rfl
  show mSeq _ _ [some a, some b, some (.obj S.length), none] _ = _
  rw [seq_nx ((for_eq (ρ := [some a, some b, some (.obj S.length), none]) hi rfl).trans e)]
  have hm : ∀ x, x ∈ l ++ r → x ∈ un l r := fun x h => mem_un.mpr h
  refine ret_eq (tup_eq (cons_eq (dict_read (l := l) (u := un l r) ha rfl (show 3 < 4 by decide) (by decide) rfl (fun x h => hm x (List.mem_append_left _ h)) (by omega)) (cons_eq (dict_read (l := r) (u := un l r) hb rfl (show 3 < 4 by decide) (by decide) rfl (fun x h => hm x (List.mem_append_right _ h)) (by omega)) rfl)) sz2)
theorem tick_of_eq {a b : D} {l r : List Int} {x y : Int} (ha : TupV a (ID l)) (hb : TupV b (ID r)) (g : Gd S) (hn : l.length + r.length ≤ 900) : F_tick_of [a, b, .int x, .int y] S = some (tD (tk l r x y), S) := by
  refine fun_eq (T := []) (S1 := S ++ [.dk (kvF 0 (uq (un l r) [x, y]))]) (d := tD (tk l r x y)) rfl ?_ (retD_pure g (below_tD _))
  show B_tick_of [some a, some b, some (.int x), some (.int y), none, none] S = _
  unfold B_tick_of
  rw [seq_nx (new_eq rfl)]
  obtain ⟨z, e⟩ := dict_loop (S := S) (ρ0 := [some a, some b, some (.int x), some (.int y), some (.obj S.length), none]) (a := 4) (b := 5) (xs := l ++ r ++ [x, y]) (show 5 < 6 by decide) (by decide) rfl (by rw [List.length_append, List.length_append]; show _ + 2 ≤ _; omega)
  have hi : mItL (mOfL (mLst (mStar (mVar 0) (mStar (mVar 1) (mCons (mVar 2) (mCons (mVar 3) mNil)))))) [some a, some b, some (.int x), some (.int y), some (.obj S.length), none] (S ++ [.dk []]) = some (tnL (ID (l ++ r ++ [x, y])), (ID (l ++ r ++ [x, y])).length, S ++ [.dk []]) := by
    have hl : mOfL (mLst (mStar (mVar 0) (mStar (mVar 1) (mCons (mVar 2) (mCons (mVar 3) mNil))))) [some a, some b, some (.int x), some (.int y), some (.obj S.length), none] (S ++ [.dk []]) = some (.lst (ID (l ++ r ++ [x, y])), S ++ [.dk []]) := by
      refine ofL_eq (c := .lst (ID (l ++ r ++ [x, y]))) (lst_eq ?_ ?_)
      · refine (star_eq (S := S ++ [C.dk []]) (ρ := [some a, some b, some (.int x), some (.int y), some (.obj S.length), none]) (f := mVar 0) (var_eq rfl) ha.seq (star_eq (f := mVar 1) (var_eq rfl) hb.seq (w := mCons (mVar 2) (mCons (mVar 3) mNil)) rfl)).trans ?_
        show some (ID l ++ (ID r ++ [D.int x, D.int y]), _) = _
        simp only [List.map_append, List.map_cons, List.map_nil, List.append_assoc]
      · rw [List.length_map, List.length_append, List.length_append]
        exact sz_ok (by show _ + 2 ≤ _; omega)
    unfold mItL
    rw [hl]
    rfl
  show mSeq _ _ [some a, some b, some (.int x), some (.int y), some (.obj S.length), none] _ = _
  rw [seq_nx ((for_eq (ρ := [some a, some b, some (.int x), some (.int y), some (.obj S.length), none]) hi rfl).trans e)]
  have eu : uq [] (l ++ r ++ [x, y]) = uq (un l r) [x, y] := uq_app _ _ _
  rw [eu]
  have rd : ∀ w, w ∈ [x, y] → dLook (S ++ [.dk (kvF 0 (uq (un l r) [x, y]))]) (.obj S.length) (.int w) = some (some (.int (nu (uq (un l r) [x, y]) w))) := fun w hw => by
    rw [dLook_int at_last, valD_kvF, if_pos ((mem_uq _ _).mpr (.inr hw)), Nat.zero_add]
    rfl
  exact ret_eq (tup_eq (cons_eq (dget_eq (fo := mVar 4) (fi := mVar 2) rfl rfl (rd x (by simp))) (cons_eq (dget_eq (fo := mVar 4) (fi := mVar 3) rfl rfl (rd y (by simp))) rfl)) sz2)
end
end K65
namespace K65
open PySem PySem.Spec PyProof.Rows L2 Mi
section
variable {S : Sto}
theorem ID_app (a b : List Int) : ID (a ++ b) = ID a ++ ID b := List.map_append
theorem lAppend_eq {ds : List D} {d : D} (h : ds.length < sizeLine) : lAppend S ds [d] = some (ds ++ [d], .non) := if_pos h
theorem dInB_ID {y : D} {u : List Int} {x : Int} (h : seqOf S y = some (ID u)) : dInB S (.int x) y = some (decide (x ∈ u)) := by
  unfold dInB
  rw [h, Option.bind_some, if_pos (by rw [flat_ID]; rfl), any_ID]
  rfl
theorem dIn_ID {y : D} {u : List Int} {x : Int} (h : seqOf S y = some (ID u)) : dIn S (.int x) y = some (.bl (decide (x ∈ u))) := by
  unfold dIn
  rw [dInB_ID h]
  rfl
theorem dNotIn_ID {y : D} {u : List Int} {x : Int} (h : seqOf S y = some (ID u)) : dNotIn S (.int x) y = some (.bl (!decide (x ∈ u))) := by
  unfold dNotIn
  rw [dInB_ID h]
  rfl
theorem idx_eq {ρ : Mi.Env} {S1 S2 : Sto} {sq : Sto → D → Option (List D)} {fo f : ME} {x : D} {ds0 : List D} {u : List Int} {i : Int} (h1 : fo ρ S = some (x, S1)) (h2 : sq S1 x = some ds0) (h3 : f ρ S1 = some (.int i, S2)) (h4 : sq S2 x = some (ID u)) (hm : i ∈ u) :
    mIdx sq fo f ρ S = some (.int (nu u i), S2) := by
  unfold mIdx
  rw [h1, Option.bind_some, h2, Option.bind_some, h3, Option.bind_some, h4, Option.bind_some, if_pos (by rw [flat_ID]; rfl), idxF_ID hm]
  rfl
theorem seq_obj {kk : Nat} {ds : List D} (h : S[kk]? = some (.lst ds)) : seqOf S (.obj kk) = some ds := lstOf_obj h
theorem rdL_obj {kk : Nat} {ds : List D} (h : S[kk]? = some (.lst ds)) : rdL S (.obj kk) = some ds := lstOf_obj h
/-- the unlike letters in a list -/
theorem list_loop {ρ0 : Mi.Env} {a b : Nat} {xs : List Int} (hb : b < ρ0.length) (hab : a ≠ b) (ha : ρ0[a]? = some (some (.obj S.length))) (hz : xs.length ≤ 1000) :
    ∃ y, forI (tnL (ID xs)) (mName b) (mIfS (mT (mOp dNotIn (mVar b) (mVar a))) (mExpr (mMeth lAppend (mVar a) (mCons (mVar b) mNil))) mSkip) (ID xs).length 0 ρ0 (S ++ [.lst []]) = some (.nx (ρ0.set b y), S ++ [.lst (ID (uq [] xs))]) := by
  have step : ∀ (i : Nat) (hi : i < (ID xs).length) (ρ : Mi.Env) (S' : Sto), ((∃ y, ρ = ρ0.set b y) ∧ S' = S ++ [.lst (ID (uq [] (xs.take i)))]) → ∃ ρ1 S1 ρ2 S2, mName b (ID xs)[i] ρ S' = some (ρ1, S1) ∧
      mIfS (mT (mOp dNotIn (mVar b) (mVar a))) (mExpr (mMeth lAppend (mVar a) (mCons (mVar b) mNil))) mSkip ρ1 S1 = some (.nx ρ2, S2) ∧ ((∃ y, ρ2 = ρ0.set b y) ∧ S2 = S ++ [.lst (ID (uq [] (xs.take (i + 1))))]) := by
    intro i hi ρ S' p
    obtain ⟨⟨y, rfl⟩, rfl⟩ := p
    have hi' : i < xs.length := by simpa using hi
    have hx : (ID xs)[i] = .int xs[i] := by simp
    have ht : xs.take (i + 1) = xs.take i ++ [xs[i]] := by rw [List.take_add_one, List.getElem?_eq_getElem hi']; rfl
    have hS : (S ++ [C.lst (ID (uq [] (xs.take i)))])[S.length]? = some (.lst (ID (uq [] (xs.take i)))) := at_last
    have va : ∀ T : Sto, mVar a (ρ0.set b (some (.int xs[i]))) T = some (.obj S.length, T) := fun T => var_eq (by rw [List.getElem?_set_ne (Ne.symm hab), ha])
    have vb : ∀ T : Sto, mVar b (ρ0.set b (some (.int xs[i]))) T = some (.int xs[i], T) := fun T => var_eq (by rw [List.getElem?_set_self hb])
    refine ⟨ρ0.set b (some (.int xs[i])), S ++ [.lst (ID (uq [] (xs.take i)))], _, _, ?_, ?_, ⟨some (.int xs[i]), rfl⟩, rfl⟩
    · rw [hx]
      show some ((ρ0.set b y).set b _, _) = _
      rw [List.set_set]
    · have hin := mop_eq (r := dNotIn) (vb _) (va _) (dNotIn_ID (x := xs[i]) (seq_obj hS))
      rw [ht, uq_snoc]
      by_cases h : xs[i] ∈ uq [] (xs.take i)
      · rw [decide_eq_true h] at hin
        rw [if_pos h]
        exact ifs_f (t_eq hin)
      · rw [decide_eq_false h] at hin
        rw [if_neg h, ifs_t (t_eq hin)]
        have hl : (uq [] (xs.take i)).length ≤ xs.length := by
          have := uq_len (xs.take i) []
          rw [List.length_take] at this
          simp only [List.length_nil] at this
          omega
        have hm := meth_eq (F := lAppend) (va _) (cellL_obj hS) (cons_eq (w := mNil) (vb _) rfl) (cellL_obj hS) (lAppend_eq (by rw [List.length_map]; exact Nat.lt_of_le_of_lt (Nat.le_trans hl hz) (by decide)))
        rw [expr_eq hm, set_last, ID_app]
        rfl
  obtain ⟨ρ2, S2, e, ⟨y, hy⟩, hS⟩ := forL_inv (ID xs) (fun i ρ S' => (∃ y, ρ = ρ0.set b y) ∧ S' = S ++ [.lst (ID (uq [] (xs.take i)))]) step ⟨⟨ρ0[b], (List.set_getElem_self hb).symm⟩, rfl⟩
  refine ⟨y, ?_⟩
  refine Eq.trans e ?_
  rw [hy, hS, List.length_map, List.take_length]
theorem list_read {ρ : Mi.Env} {u l : List Int} {d : D} {a b v : Nat} (hd : TupV d (ID l)) (hv : ρ[v]? = some (some d)) (hb : b < ρ.length) (hab : a ≠ b) (ha : ρ[a]? = some (some (.obj S.length))) (hm : ∀ x, x ∈ l → x ∈ u) (hz : l.length ≤ 1000) :
    mCB bTupleF (mCons (mOfL (mLc (mItT (mVar v)) (mName b) mYes (mIdx rdL (mVar a) (mVar b)) [b])) mNil) ρ (S ++ [.lst (ID u)]) = some (.ftp (ID (pt u l)), S ++ [.lst (ID u)]) := by
  have h1 := lc_map (S := S ++ [.lst (ID u)]) (fe := mIdx rdL (mVar a) (mVar b)) (g := gI (nu u)) (vs := [b]) (mItT_eq (var_eq hv) hd.of) (by rw [List.length_map]; exact sz_ok (by omega)) fun x hx => by
    obtain ⟨i, hi, rfl⟩ := List.mem_map.mp hx
    have e : (mwipe ρ [b]).set b (some (.int i)) = ρ.set b (some (.int i)) := by
      show (ρ.set b none).set b _ = _
      rw [List.set_set]
    rw [e]
    exact idx_eq (var_eq (by rw [List.getElem?_set_ne (Ne.symm hab), ha])) (rdL_obj at_last) (var_eq (by rw [List.getElem?_set_self hb])) (rdL_obj at_last) (hm i hi)
  rw [map_gI] at h1
  exact cb_eq (cons_eq (ofL_eq h1) rfl) rfl
theorem L_pattern_eq {a b : D} {l r : List Int} (ha : TupV a (ID l)) (hb : TupV b (ID r)) (g : Gd S) (hn : l.length + r.length ≤ 1000) : F_L_pattern [a, b] S = some (pD (pat l r), S) := by
  refine fun_eq (T := []) (S1 := S ++ [.lst (ID (un l r))]) (d := pD (pat l r)) rfl ?_ (retD_pure g (below_pD _))
  show B_L_pattern [some a, some b, none, none] S = _
  unfold B_L_pattern
  rw [seq_nx (new_eq (c := .lst []) (S1 := S) rfl)]
  obtain ⟨y, e⟩ := list_loop (S := S) (ρ0 := [some a, some b, some (.obj S.length), none]) (a := 2) (b := 3) (xs := l ++ r) (show 3 < 4 by decide) (by decide) rfl (by rw [List.length_append]; exact hn)
  obtain ⟨z, ez, hz⟩ := TupV.add (S := S ++ [C.lst []]) ha hb (by rw [List.length_map, List.length_map]; exact sz_ok (by omega))
  rw [← List.map_append] at hz
  have hi : mItT (mOp dAdd (mVar 0) (mVar 1)) [some a, some b, some (.obj S.length), none] (S ++ [.lst []]) = some (tnL (ID (l ++ r)), (ID (l ++ r)).length, S ++ [.lst []]) :=
    mItT_eq (mop_eq (f := mVar 0) (h := mVar 1) rfl rfl ez) hz.of
  show mSeq _ _ [some a, some b, some (.obj S.length), none] _ = _
  rw [seq_nx ((for_eq (ρ := [some a, some b, some (.obj S.length), none]) hi rfl).trans e)]
  have hm : ∀ x, x ∈ l ++ r → x ∈ un l r := fun x h => mem_un.mpr h
  exact ret_eq (tup_eq (cons_eq (list_read (l := l) (u := un l r) ha rfl (show 3 < 4 by decide) (by decide) rfl (fun x h => hm x (List.mem_append_left _ h)) (by omega)) (cons_eq (list_read (l := r) (u := un l r) hb rfl (show 3 < 4 by decide) (by decide) rfl (fun x h => hm x (List.mem_append_right _ h)) (by omega)) rfl)) sz2)
theorem dedup_uq (xs : List Int) : (dedup xs).length = (uq [] xs).length :=
  nodup_len (nodup_dedup xs) (nodup_uq xs [] List.nodup_nil) fun k => by
    rw [mem_dedup, mem_uq]
    simp
theorem lenSet_eq {ρ : Mi.Env} {S1 : Sto} {f : ME} {z : D} {xs : List Int} (h1 : f ρ S = some (z, S1)) (h2 : TupV z (ID xs)) (hz : xs.length ≤ 4000) : mLenSet f ρ S = some (.int ((uq [] xs).length : Nat), S1) := by
  unfold mLenSet
  rw [h1, Option.bind_some, h2.of, Option.bind_some, asInts_ID, Option.bind_some, if_pos hz, dedup_uq]
theorem dIx_ID {d : D} {xs : List D} {j : Nat} {v : D} (h : seqOf S d = some xs) (hs : ∀ z, d ≠ .str z) (hv : xs[j]? = some v) : dIx S d (.int (j : Nat)) = some v := by
  unfold dIx
  split
  · rename_i i hi
    cases hi
    split
    · rename_i z
      exact absurd rfl (hs z)
    · rw [h, Option.bind_some]
      exact atI_nat hv
  · rename_i h1
    exact absurd rfl (h1 _)
theorem TupV.ns {z : D} {xs : List D} (h : TupV z xs) : ∀ y, z ≠ .str y := fun y e => by
  rcases h with h | h <;> (rw [h] at e; cases e)
theorem pD_0 (p : PT) : dIx S (pD p) (.int 0) = some (.ftp (ID p.1)) := rfl
theorem pD_1 (p : PT) : dIx S (pD p) (.int 1) = some (.ftp (ID p.2)) := rfl
/-- the numbers of the letters of both sides in a row -/
theorem row_eq {l r : List Int} (hz : l.length + r.length ≤ 1000) : dAdd S (.ftp (ID (pat l r).1)) (.ftp (ID (pat l r).2)) = some (.ftp (ID (pt (un l r) (l ++ r)))) := by
  have e : pt (un l r) (l ++ r) = (pat l r).1 ++ (pat l r).2 := by
    show (l ++ r).map _ = _
    rw [List.map_append]
    rfl
  rw [e, ID_app]
  refine if_pos ?_
  rw [List.length_map, List.length_map]
  show (pt _ _).length + (pt _ _).length ≤ _
  rw [pt_len, pt_len]
  exact sz_ok (by omega)
theorem num_at {l r : List Int} {x : Int} (h : x ∈ l ++ r) : dIx S (.ftp (ID (pt (un l r) (l ++ r)))) (.int (nu (l ++ r) x)) = some (.int (nu (un l r) x)) := by
  refine dIx_ID (xs := ID (pt (un l r) (l ++ r))) (j := (l ++ r).idxOf x) rfl (fun z e => by cases e) ?_
  have hi := List.idxOf_lt_length_of_mem h
  unfold pt
  rw [List.getElem?_map, List.getElem?_map, List.getElem?_eq_getElem hi, List.getElem_idxOf hi]
  rfl
theorem L_tick_eq {l r : List Int} {x y : Int} (g : Gd S) (hn : l.length + r.length ≤ 900) : F_L_tick [.ftp (ID l), .ftp (ID r), .int x, .int y] S = some (tD (tk l r x y), S) := by
  refine fun_eq (T := []) (S1 := S ++ []) (d := tD (tk l r x y)) rfl ?_ (retD_pure g (below_tD _))
  rw [List.append_nil]
  show B_L_tick [some (.ftp (ID l)), some (.ftp (ID r)), some (.int x), some (.int y), none, none, none, none] S = _
  unfold B_L_tick
  have hrow : ∀ T : Sto, dAdd T (.ftp (ID l)) (.ftp (ID r)) = some (.ftp (ID (l ++ r))) := fun T => by
    rw [ID_app]
    refine if_pos ?_
    rw [List.length_map, List.length_map]
    exact sz_ok (by omega)
  have h3 := par3_eq (i := 4) (j := 5) (k := 6) (ρ := [some (.ftp (ID l)), some (.ftp (ID r)), some (.int x), some (.int y), none, none, none, none]) (S := S)
    (cons_eq (mop_eq (f := mVar 0) (h := mVar 1) rfl rfl (hrow S)) (cons_eq ((call_eq (F := F_L_pattern) (w := mCons (mVar 0) (mCons (mVar 1) mNil)) rfl).trans (L_pattern_eq (.inr rfl) (.inr rfl) g (by omega)))
      (cons_eq (w := mNil) (lenSet_eq (f := mOp dAdd (mVar 0) (mVar 1)) (mop_eq (f := mVar 0) (h := mVar 1) rfl rfl (hrow S)) (.inr rfl) (by rw [List.length_append]; omega)) rfl)))
  rw [seq_nx h3]
  show mSeq _ _ [some (.ftp (ID l)), some (.ftp (ID r)), some (.int x), some (.int y), some (.ftp (ID (l ++ r))), some (pD (pat l r)), some (.int ((un l r).length : Nat)), none] S = _
  have hits : ∀ (q : D), mOp dAdd (mOp dIx (mVar 5) (mC (.int 0))) (mOp dIx (mVar 5) (mC (.int 1))) [some (.ftp (ID l)), some (.ftp (ID r)), some (.int x), some (.int y), some (.ftp (ID (l ++ r))), some (pD (pat l r)), some (.int ((un l r).length : Nat)), some q] S = some (.ftp (ID (pt (un l r) (l ++ r))), S) :=
    fun q => mop_eq (f := mOp dIx (mVar 5) (mC (.int 0))) (h := mOp dIx (mVar 5) (mC (.int 1))) rfl rfl (row_eq (by omega))
  have hits0 : mOp dAdd (mOp dIx (mVar 5) (mC (.int 0))) (mOp dIx (mVar 5) (mC (.int 1))) [some (.ftp (ID l)), some (.ftp (ID r)), some (.int x), some (.int y), some (.ftp (ID (l ++ r))), some (pD (pat l r)), some (.int ((un l r).length : Nat)), none] S = some (.ftp (ID (pt (un l r) (l ++ r))), S) :=
    mop_eq (f := mOp dIx (mVar 5) (mC (.int 0))) (h := mOp dIx (mVar 5) (mC (.int 1))) rfl rfl (row_eq (by omega))
  -- the first one
  have hf : mIf (mT (mOp dIn (mVar 2) (mVar 4))) (mOp dIx (mOp dAdd (mOp dIx (mVar 5) (mC (.int 0))) (mOp dIx (mVar 5) (mC (.int 1)))) (mIdx (fun _ d => ftpOf d) (mVar 4) (mVar 2))) (mVar 6) [some (.ftp (ID l)), some (.ftp (ID r)), some (.int x), some (.int y), some (.ftp (ID (l ++ r))), some (pD (pat l r)), some (.int ((un l r).length : Nat)), none] S = some (.int (tk l r x y).1, S) := by
    have hc := mop_eq (S := S) (r := dIn) (f := mVar 2) (h := mVar 4) (ρ := [some (.ftp (ID l)), some (.ftp (ID r)), some (.int x), some (.int y), some (.ftp (ID (l ++ r))), some (pD (pat l r)), some (.int ((un l r).length : Nat)), none]) rfl rfl (dIn_ID (x := x) (u := l ++ r) rfl)
    rw [tk_eq]
    by_cases hx : x ∈ l ++ r
    · rw [decide_eq_true hx] at hc
      rw [if_t (t_eq hc), if_pos hx]
      exact mop_eq hits0 (idx_eq (fo := mVar 4) (f := mVar 2) (u := l ++ r) rfl rfl rfl rfl hx) (num_at hx)
    · rw [decide_eq_false hx] at hc
      rw [if_f (t_eq hc), if_neg hx]
      rfl
  rw [seq_nx (set_eq hf)]
  show mSeq _ _ [some (.ftp (ID l)), some (.ftp (ID r)), some (.int x), some (.int y), some (.ftp (ID (l ++ r))), some (pD (pat l r)), some (.int ((un l r).length : Nat)), some (.int (tk l r x y).1)] S = _
  have hc := mop_eq (S := S) (r := dIn) (f := mVar 3) (h := mVar 4) (ρ := [some (.ftp (ID l)), some (.ftp (ID r)), some (.int x), some (.int y), some (.ftp (ID (l ++ r))), some (pD (pat l r)), some (.int ((un l r).length : Nat)), some (.int (tk l r x y).1)]) rfl rfl (dIn_ID (x := y) (u := l ++ r) rfl)
  have hcx := mop_eq (S := S) (r := dIn) (f := mVar 2) (h := mVar 4) (ρ := [some (.ftp (ID l)), some (.ftp (ID r)), some (.int x), some (.int y), some (.ftp (ID (l ++ r))), some (pD (pat l r)), some (.int ((un l r).length : Nat)), some (.int (tk l r x y).1)]) rfl rfl (dIn_ID (x := x) (u := l ++ r) rfl)
  have e2 : (tk l r x y).2 = if y ∈ l ++ r then nu (un l r) y else if x ∈ l ++ r ∨ y = x then ((un l r).length : Nat) else ((un l r).length : Nat) + 1 := by rw [tk_eq]
  by_cases hy : y ∈ l ++ r
  · rw [decide_eq_true hy] at hc
    refine seq_rt ((ifs_t (t_eq hc)).trans (ret_eq ?_))
    refine tup_eq (as := [.int (tk l r x y).1, .int (tk l r x y).2]) (cons_eq (f := mVar 7) rfl (cons_eq (w := mNil) (mop_eq (hits _) (idx_eq (fo := mVar 4) (f := mVar 3) (u := l ++ r) rfl rfl rfl rfl hy) (by rw [e2, if_pos hy]; exact num_at hy)) rfl)) sz2
  · rw [decide_eq_false hy] at hc
    rw [seq_nx ((ifs_f (t_eq hc)).trans rfl)]
    rw [if_neg hy] at e2
    refine ret_eq (tup_eq (as := [.int (tk l r x y).1, .int (tk l r x y).2]) (cons_eq (f := mVar 7) rfl (cons_eq (w := mNil) (a := .int (tk l r x y).2) ?_ rfl)) sz2)
    have hyx : mOp dEq (mVar 3) (mVar 2) [some (.ftp (ID l)), some (.ftp (ID r)), some (.int x), some (.int y), some (.ftp (ID (l ++ r))), some (pD (pat l r)), some (.int ((un l r).length : Nat)), some (.int (tk l r x y).1)] S = some (.bl (decide (y = x)), S) := by
      refine mop_eq (f := mVar 3) (h := mVar 2) rfl rfl ?_
      show (dEqB S (.int y) (.int x)).bind _ = _
      have : dEqB S (.int y) (.int x) = some (y == x) := rfl
      rw [this]
      rfl
    by_cases hx : x ∈ l ++ r
    · rw [decide_eq_true hx] at hcx
      rw [if_t (or_t (t_eq hcx)), e2, if_pos (.inl hx)]
      rfl
    · rw [decide_eq_false hx] at hcx
      by_cases hxy : y = x
      · rw [decide_eq_true hxy] at hyx
        rw [if_t ((or_f (t_eq hcx)).trans (t_eq hyx)), e2, if_pos (.inr hxy)]
        rfl
      · rw [decide_eq_false hxy] at hyx
        rw [if_f ((or_f (t_eq hcx)).trans (t_eq hyx)), e2, if_neg (fun z => z.elim hx hxy)]
        rfl
end
end K65
namespace K65
open PySem PySem.Spec PyProof.Rows L2 Mi
section
variable {S : Sto}
theorem retD_same {d : D} : retD S.length S d = some (d, S) := if_pos (Nat.le_refl _)
theorem grown_eq {p : PT} {t : Int × Int} (g : Gd S) (hn : p.1.length + p.2.length ≤ 900) : F_grown [pD p, tD t] S = some (pD (pat (p.1 ++ [t.1]) (p.2 ++ [t.2])), S) := by
  refine fun_eq (T := []) (S1 := S) (d := pD (pat (p.1 ++ [t.1]) (p.2 ++ [t.2]))) rfl ?_ retD_same
  show B_grown [some (pD p), some (tD t), none, none] S = _
  unfold B_grown
  rw [seq_nx (asg_eq (f := mVar 0) (ρ' := [some (pD p), some (tD t), some (.ftp (ID p.1)), some (.ftp (ID p.2))]) (S2 := S) rfl rfl)]
  have h : ∀ (xs : List Int) (j i : Nat) (v : Int), [some (pD p), some (tD t), some (D.ftp (ID p.1)), some (D.ftp (ID p.2))][j]? = some (some (D.ftp (ID xs))) → dIx S (tD t) (.int (i : Nat)) = some (.int v) → xs.length ≤ 1000 →
      mTup (mStar (mVar j) (mCons (mOp dIx (mVar 1) (mC (.int (i : Nat)))) mNil)) [some (pD p), some (tD t), some (.ftp (ID p.1)), some (.ftp (ID p.2))] S = some (.tup (ID (xs ++ [v])), S) := fun xs j i v h1 h2 h3 => by
    rw [ID_app]
    refine tup_eq (star_eq (var_eq h1) rfl (cons_eq (w := mNil) (mop_eq (f := mVar 1) (h := mC (.int (i : Nat))) rfl rfl h2) rfl)) ?_
    rw [List.length_append, List.length_map]
    exact sz_ok (by show _ + 1 ≤ _; omega)
  refine ret_eq ((call_eq (cons_eq (h p.1 2 0 t.1 rfl rfl (by omega)) (cons_eq (w := mNil) (h p.2 3 1 t.2 rfl rfl (by omega)) rfl))).trans ?_)
  exact pattern_of_eq (.inl rfl) (.inl rfl) g (by rw [List.length_append, List.length_append]; show _ + 1 + (_ + 1) ≤ _; omega)
theorem cutX_nat {xs : List D} (a : Nat) : cutX xs (some (a : Int)) none = xs.drop a := by
  unfold cutX
  rw [HT.sIx_nat, HT.sIx_none]
  by_cases h : a ≤ xs.length
  · rw [Nat.min_eq_left h, List.take_of_length_le (by rw [List.length_drop]; omega)]
  · rw [Nat.min_eq_right (by omega), List.drop_eq_nil_of_le (Nat.le_refl _), List.drop_eq_nil_of_le (by omega)]
    exact List.take_nil
theorem slT_nat {xs : List D} (a : Nat) : ∃ z, dSlT (.ftp xs) (some (a : Int)) none = some z ∧ TupV z (xs.drop a) := by
  show ∃ z, (if HT.sIx xs.length 0 (some (a : Int)) = 0 ∧ HT.sIx xs.length xs.length none = xs.length then some (D.ftp xs) else some (.tup (cutX xs (some (a : Int)) none))) = some z ∧ _
  split
  · rename_i h
    rw [HT.sIx_nat] at h
    have e : xs.drop a = xs := by
      rcases Nat.eq_zero_or_pos a with z | z
      · rw [z]
        rfl
      · have : xs.length = 0 := by omega
        rw [List.eq_nil_of_length_eq_zero this, List.drop_nil]
    exact ⟨_, rfl, .inr (by rw [e])⟩
  · exact ⟨_, rfl, .inl (by rw [cutX_nat])⟩
theorem mSlT_eq {ρ : Mi.Env} {S1 S2 S3 : Sto} {f : ME} {lo hi : MO} {a : D} {b c : Option Int} {d : D} (h1 : f ρ S = some (a, S1)) (h2 : lo ρ S1 = some (b, S2)) (h3 : hi ρ S2 = some (c, S3)) (h4 : dSlT a b c = some d) : mSlT f lo hi ρ S = some (d, S3) := by
  unfold mSlT
  rw [h1, Option.bind_some, h2, Option.bind_some, h3, Option.bind_some, h4]
  rfl
theorem cut_eq {p : PT} {a b : Nat} (g : Gd S) (hn : p.1.length + p.2.length ≤ 900) : F_cut [pD p, .int (a : Nat), .int (b : Nat)] S = some (pD (pat (p.1.drop a) (p.2.drop b)), S) := by
  refine fun_eq (T := []) (S1 := S) (d := pD (pat (p.1.drop a) (p.2.drop b))) rfl ?_ retD_same
  show B_cut [some (pD p), some (.int (a : Nat)), some (.int (b : Nat))] S = _
  unfold B_cut
  obtain ⟨z1, e1, t1⟩ := slT_nat (xs := ID p.1) a
  obtain ⟨z2, e2, t2⟩ := slT_nat (xs := ID p.2) b
  rw [← List.map_drop] at t1 t2
  refine ret_eq ((call_eq (cons_eq (mSlT_eq (f := mOp dIx (mVar 0) (mC (.int 0))) (lo := mOS (mVar 1)) (hi := mON) rfl rfl rfl e1) (cons_eq (w := mNil) (mSlT_eq (f := mOp dIx (mVar 0) (mC (.int 1))) (lo := mOS (mVar 2)) (hi := mON) rfl rfl rfl e2) rfl))).trans ?_)
  exact pattern_of_eq t1 t2 g (by rw [List.length_drop, List.length_drop]; omega)
theorem alike_eq {a b : D} {p : PyData} (h1 : py S a = some p) (h2 : py S b = some p) (hp : Nice p) : F_L_alike [a, b] S = some (.bl true, S) := by
  refine fun_eq (T := []) (S1 := S) (d := .bl true) rfl ?_ retD_same
  show B_L_alike [some a, some b] S = _
  unfold B_L_alike
  have e1 : mOp dEq (mVar 0) (mVar 1) [some a, some b] S = some (.bl true, S) := mop_eq (f := mVar 0) (h := mVar 1) rfl rfl (by
    show (dEqB S a b).bind _ = _
    rw [dEq_same h1 h2 hp.shaped]
    rfl)
  have e2 : mOp dEq (mCB bRepr (mCons (mVar 0) mNil)) (mCB bRepr (mCons (mVar 1) mNil)) [some a, some b] S = some (.bl true, S) := mop_eq (cb_eq (w := mCons (mVar 0) mNil) rfl (bRepr_eq h1 hp)) (cb_eq (w := mCons (mVar 1) mNil) rfl (bRepr_eq h2 hp)) (by
    show (dEqB S (.str p.shown) (.str p.shown)).bind _ = _
    have : dEqB S (.str p.shown) (.str p.shown) = some (decide (p.shown = p.shown)) := rfl
    rw [this, decide_eq_true rfl]
    rfl)
  refine ret_eq ?_
  unfold mAndV
  rw [e1]
  exact e2
theorem maxI_le : ∀ (r : List Int) (a x : Int), x ∈ a :: r → x ≤ maxI a r
  | [], a, x, h => by
    rw [List.mem_singleton.mp h]
    exact Int.le_refl _
  | b :: r, a, x, h => by
    show x ≤ maxI (if a < b then b else a) r
    have h1 := maxI_le r (if a < b then b else a) (if a < b then b else a) List.mem_cons_self
    rcases List.mem_cons.mp h with q | q
    · subst q
      split at h1 <;> rename_i hh
      · rw [if_pos hh]
        omega
      · rw [if_neg hh]
        omega
    · rcases List.mem_cons.mp q with q | q
      · subst q
        split at h1 <;> rename_i hh
        · rw [if_pos hh]
          omega
        · rw [if_neg hh]
          omega
      · exact maxI_le r _ x (List.mem_cons_of_mem _ q)
theorem max_num (l r : List Int) : 1 + maxI (-1) (pt (un l r) (l ++ r)) = ((un l r).length : Nat) := by
  have nd : (un l r).Nodup := nodup_uq _ _ List.nodup_nil
  have up : maxI (-1) (pt (un l r) (l ++ r)) < ((un l r).length : Nat) := by
    rcases List.mem_cons.mp (maxI_mem (pt (un l r) (l ++ r)) (-1)) with q | q
    · rw [q]
      omega
    · obtain ⟨x, hx, e⟩ := List.mem_map.mp q
      rw [← e]
      exact (nu_len (mem_un.mpr hx)).2
  have lo : ((un l r).length : Int) - 1 ≤ maxI (-1) (pt (un l r) (l ++ r)) := by
    rcases Nat.eq_zero_or_pos (un l r).length with z | z
    · rw [z]
      exact maxI_le _ _ _ List.mem_cons_self
    · have hi : (un l r).length - 1 < (un l r).length := by omega
      refine maxI_le _ _ _ (List.mem_cons_of_mem _ (List.mem_map.mpr ⟨(un l r)[(un l r).length - 1], mem_un.mp (List.getElem_mem hi), ?_⟩))
      unfold nu
      rw [nd.idxOf_getElem _ hi]
      omega
  omega
theorem bMax_eq {d : D} {xs : List D} {n : Int} {r : List Int} (h1 : rdL S d = some xs) (h2 : asInts xs = some (n :: r)) : bMax S [d] = some (.int (maxI n r)) := by
  unfold bMax
  simp only [h1, Option.bind_some, h2]
theorem size_of_eq {l r : List Int} (hn : l.length + r.length ≤ 900) : F_size_of [pD (pat l r)] S = some (.int ((un l r).length : Nat), S) := by
  refine fun_eq (T := []) (S1 := S) (d := .int ((un l r).length : Nat)) rfl ?_ retD_same
  show B_size_of [some (pD (pat l r))] S = _
  unfold B_size_of
  have e : pt (un l r) (l ++ r) = (pat l r).1 ++ (pat l r).2 := List.map_append
  have hl : mLst (mCons (mNeg (mC (.int 1))) (mStar (mOp dIx (mVar 0) (mC (.int 0))) (mStar (mOp dIx (mVar 0) (mC (.int 1))) mNil))) [some (pD (pat l r))] S = some (.lst (ID ((-1) :: pt (un l r) (l ++ r))), S) := by
    have : ID ((-1) :: pt (un l r) (l ++ r)) = .int (-1) :: (ID (pat l r).1 ++ (ID (pat l r).2 ++ [])) := by
      rw [List.append_nil, ← ID_app, ← e]
      rfl
    rw [this]
    refine lst_eq (cons_eq (f := mNeg (mC (.int 1))) rfl (star_eq (f := mOp dIx (mVar 0) (mC (.int 0))) rfl rfl (star_eq (f := mOp dIx (mVar 0) (mC (.int 1))) (w := mNil) rfl rfl rfl))) ?_
    rw [← this, List.length_map, List.length_cons, pt_len, List.length_append]
    exact sz_ok (by omega)
  refine ret_eq (mop_eq (f := mC (.int 1)) rfl (cb_eq (cons_eq (w := mNil) (ofL_eq hl) rfl) (d := .int (maxI (-1) (pt (un l r) (l ++ r)))) ?_) ?_)
  · exact bMax_eq (d := .lst (ID ((-1) :: pt (un l r) (l ++ r)))) rfl (asInts_ID _)
  · show some (D.int (1 + maxI (-1) (pt (un l r) (l ++ r)))) = _
    rw [max_num]
/-! two walks in one comprehension -/
theorem lcI_mapA {fe : ME} {ρw : Mi.Env} {g : D → D} {j : Nat} : ∀ (m i : Nat) (xs acc : List D), m + i = xs.length → acc.length + m ≤ sizeLine → (∀ x, x ∈ xs → fe (ρw.set j (some x)) S = some (g x, S)) →
    lcI (tnL xs) (mName j) mYes fe ρw m i S acc = some (acc ++ (xs.drop i).map g, S)
  | 0, i, xs, acc, e, hz, hf => by
    unfold lcI
    have h1 : xs[i]? = none := List.getElem?_eq_none_iff.mpr (by omega)
    show (match some xs[i]? with | none => none | some none => some (acc, S) | some (some d) => _) = _
    rw [h1, List.drop_eq_nil_of_le (by omega), List.map_nil, List.append_nil]
  | m + 1, i, xs, acc, e, hz, hf => by
    unfold lcI
    have hi : i < xs.length := by omega
    have h1 : xs[i]? = some xs[i] := List.getElem?_eq_getElem hi
    show (match some xs[i]? with | none => none | some none => some (acc, S) | some (some d) => _) = _
    rw [h1]
    show ((fe (ρw.set j (some xs[i])) S).bind _) = _
    rw [hf _ (List.getElem_mem hi), Option.bind_some, if_pos (by omega), lcI_mapA m (i + 1) xs _ (by omega) (by rw [List.length_append]; show _ + 1 + m ≤ _; omega) hf, List.drop_eq_getElem_cons hi, List.map_cons, List.append_assoc]
    rfl
theorem lcI2_map {fit1 : MI} {fe : ME} {ρw : Mi.Env} {j j1 : Nat} {vs1 : List Nat} {ys : D → List D} {g : D → D → D} {B : Nat} (hB : ∀ x, (ys x).length ≤ B) :
    ∀ (m i : Nat) (xs acc : List D), m + i = xs.length → acc.length + m * B ≤ sizeLine → (∀ x, x ∈ xs → fit1 (ρw.set j (some x)) S = some (tnL (ys x), (ys x).length, S) ∧ ∀ y, y ∈ ys x → fe ((mwipe (ρw.set j (some x)) vs1).set j1 (some y)) S = some (g x y, S)) →
    lcI2 (tnL xs) (mName j) mYes fit1 (mName j1) mYes fe ρw vs1 m i S acc = some (acc ++ (xs.drop i).flatMap fun x => (ys x).map (g x), S)
  | 0, i, xs, acc, e, hz, hf => by
    unfold lcI2
    have h1 : xs[i]? = none := List.getElem?_eq_none_iff.mpr (by omega)
    show (match some xs[i]? with | none => none | some none => some (acc, S) | some (some d) => _) = _
    rw [h1, List.drop_eq_nil_of_le (by omega), List.flatMap_nil, List.append_nil]
  | m + 1, i, xs, acc, e, hz, hf => by
    unfold lcI2
    have hi : i < xs.length := by omega
    have h1 : xs[i]? = some xs[i] := List.getElem?_eq_getElem hi
    have hb := hB xs[i]
    have hmul : (m + 1) * B = m * B + B := Nat.succ_mul m B
    obtain ⟨f1, f2⟩ := hf _ (List.getElem_mem hi)
    show (match some xs[i]? with | none => none | some none => some (acc, S) | some (some d) => _) = _
    rw [h1]
    show ((fit1 (ρw.set j (some xs[i])) S).bind _) = _
    rw [f1, Option.bind_some]
    show ((lcI (tnL (ys xs[i])) (mName j1) mYes fe (mwipe (ρw.set j (some xs[i])) vs1) (ys xs[i]).length 0 S acc).bind _) = _
    rw [lcI_mapA (ys xs[i]).length 0 (ys xs[i]) acc rfl (by omega) f2, Option.bind_some]
    show lcI2 (tnL xs) (mName j) mYes fit1 (mName j1) mYes fe ρw vs1 m (i + 1) S (acc ++ (ys xs[i]).map (g xs[i])) = _
    rw [lcI2_map hB m (i + 1) xs _ (by omega) (by rw [List.length_append, List.length_map]; omega) hf, List.drop_eq_getElem_cons hi, List.flatMap_cons, List.append_assoc]
/-- the second parts beside x -/
def row (n : Nat) (i : Int) : List D := rngD 0 (n + 1 + if i = n then 1 else 0)
theorem row_items (n i : Nat) : (row n (i : Nat)).map (fun y => D.tup [.int (i : Nat), y]) = ((List.range (n + 1 + if i = n then 1 else 0)).map fun (y : Nat) => ((i : Int), (y : Int))).map tD := by
  unfold row rngD
  rw [List.map_map, List.map_map, show (if (i : Int) = (n : Int) then 1 else 0) = (if i = n then 1 else 0) by
    by_cases h : i = n
    · have h' : (i : Int) = (n : Int) := by omega
      rw [if_pos h, if_pos h']
    · have h' : ¬ ((i : Int) = (n : Int)) := by omega
      rw [if_neg h, if_neg h']]
  refine List.map_congr_left fun y _ => ?_
  show D.tup [.int (i : Nat), .int (0 + (y : Int))] = D.tup [.int (i : Nat), .int (y : Int)]
  rw [Int.zero_add]
theorem tks_D (n : Nat) : (tks n).map tD = (rngD 0 (n + 1)).flatMap fun x => (row n (match x with | .int i => i | _ => 0)).map fun y => D.tup [x, y] := by
  unfold tks
  rw [List.map_flatMap]
  unfold rngD
  rw [List.flatMap_map]
  rw [List.flatMap_def, List.flatMap_def]
  refine congrArg List.flatten (List.map_congr_left fun i _ => ?_)
  show _ = (row n (0 + (i : Int))).map fun y => D.tup [.int (0 + (i : Int)), y]
  rw [Int.zero_add, row_items]
end
end K65
namespace K65
open PySem PySem.Spec PyProof.Rows L2 Mi
section
variable {S : Sto}
/-- how many stand beside x -/
theorem beside {ρ : Mi.Env} {vs vt : Nat} {n i : Nat} (h1 : ρ[vs]? = some (some (.int (n : Nat)))) (h2 : ρ[vt]? = some (some (.int (i : Nat)))) :
    mCons (mOp dAdd (mOp dAdd (mVar vs) (mC (.int 1))) (mCB bInt (mCons (mOp dEq (mVar vt) (mVar vs)) mNil))) mNil ρ S = some ([.int ((n + 1 + if i = n then 1 else 0 : Nat) : Int)], S) := by
  have e1 : mOp dAdd (mVar vs) (mC (.int 1)) ρ S = some (.int ((n : Int) + 1), S) := mop_eq (var_eq h1) (h := mC (.int 1)) rfl rfl
  have e2 : mOp dEq (mVar vt) (mVar vs) ρ S = some (.bl ((i : Int) == (n : Int)), S) := mop_eq (var_eq h2) (var_eq h1) (by
    show (dEqB S (.int (i : Nat)) (.int (n : Nat))).bind _ = _
    have : dEqB S (.int (i : Nat)) (.int (n : Nat)) = some ((i : Int) == (n : Int)) := rfl
    rw [this]
    rfl)
  have e3 := cb_eq (F := bInt) (cons_eq (w := mNil) e2 rfl) (d := .int (if ((i : Int) == (n : Int)) then 1 else 0)) rfl
  refine (cons_eq (w := mNil) (mop_eq e1 e3 rfl) rfl).trans ?_
  have : ((n : Int) + 1 + if ((i : Int) == (n : Int)) = true then 1 else 0) = ((n + 1 + if i = n then 1 else 0 : Nat) : Int) := by
    by_cases h : i = n
    · have h' : ((i : Int) == (n : Int)) = true := beq_iff_eq.mpr (by omega)
      rw [if_pos h, if_pos h']
      omega
    · have h' : ¬ (((i : Int) == (n : Int)) = true) := fun z => h (by have := eq_of_beq z; omega)
      rw [if_neg h, if_neg h']
      omega
  rw [this]
theorem row_nat (n i : Nat) : row n (i : Nat) = rngD 0 (n + 1 + if i = n then 1 else 0) := by
  unfold row
  by_cases h : i = n
  · have h' : (i : Int) = (n : Int) := by omega
    rw [if_pos h, if_pos h']
  · have h' : ¬ ((i : Int) = (n : Int)) := by omega
    rw [if_neg h, if_neg h']
theorem row_len (n : Nat) (i : Int) : (row n i).length ≤ n + 2 := by
  unfold row
  rw [rngD_len]
  split <;> omega
theorem mem_rng {n : Nat} {d : D} (h : d ∈ rngD 0 n) : ∃ i : Nat, i < n ∧ d = .int (i : Nat) := by
  unfold rngD at h
  obtain ⟨i, hi, e⟩ := List.mem_map.mp h
  rw [Int.zero_add] at e
  exact ⟨i, List.mem_range.mp hi, e.symm⟩
theorem rng_at {n i : Nat} (hi : i < (rngD 0 n).length) : (rngD 0 n)[i] = .int (i : Nat) := by
  have h : (rngD 0 n)[i]? = some (.int (i : Nat)) := by
    unfold rngD
    rw [List.getElem?_map, List.getElem?_range (by rwa [rngD_len] at hi)]
    show some (D.int (0 + (i : Int))) = _
    rw [Int.zero_add]
  rw [List.getElem?_eq_getElem hi] at h
  exact Option.some.inj h
theorem ticks_eq {l r : List Int} (hn : l.length + r.length ≤ 50) : F_ticks [pD (pat l r)] S = some (.lst ((tks (un l r).length).map tD), S) := by
  have hu : (un l r).length ≤ 50 := by
    have := uq_len (l ++ r) []
    rw [List.length_append] at this
    exact Nat.le_trans this (by simpa using hn)
  generalize hnn : (un l r).length = n at hu
  refine funL_eq (S1 := S) rfl ?_ (Nat.le_refl _)
  show B_ticks [some (pD (pat l r)), none, none, none] S = _
  unfold B_ticks
  have h1 : mAsg (mCall F_size_of (mCons (mVar 0) mNil)) (mName 1) [some (pD (pat l r)), none, none, none] S = some (.nx [some (pD (pat l r)), some (.int (n : Nat)), none, none], S) :=
    set_eq ((call_eq (w := mCons (mVar 0) mNil) rfl).trans (by rw [← hnn]; exact size_of_eq (by omega)))
  rw [seq_nx h1]
  refine retL_eq ?_
  unfold mLc2
  rw [mItR1_eq (n := n + 1) (S1 := S) rfl (by omega), Option.bind_some]
  have h2 := lcI2_map (S := S) (fit1 := mItR1 (mCons (mOp dAdd (mOp dAdd (mVar 1) (mC (.int 1))) (mCB bInt (mCons (mOp dEq (mVar 2) (mVar 1)) mNil))) mNil)) (fe := mTup (mCons (mVar 2) (mCons (mVar 3) mNil)))
    (ρw := [some (pD (pat l r)), some (.int (n : Nat)), none, none]) (j := 2) (j1 := 3) (vs1 := [3]) (ys := fun x => row n (match x with | .int i => i | _ => 0)) (g := fun x y => .tup [x, y]) (B := n + 2) (fun x => row_len n _) (n + 1) 0 (rngD 0 (n + 1)) [] (by rw [rngD_len])
    (by
      have : (n + 1) * (n + 2) ≤ 51 * 52 := Nat.mul_le_mul (by omega) (by omega)
      show 0 + _ ≤ _
      exact sz_ok (by omega))
    (fun x hx => by
      obtain ⟨i, hi, rfl⟩ := mem_rng hx
      refine ⟨?_, fun y hy => ?_⟩
      · show _ = some (tnL (row n (i : Nat)), (row n (i : Nat)).length, S)
        rw [row_nat]
        refine mItR1_eq (beside (vs := 1) (vt := 2) rfl rfl) ?_
        split <;> omega
      · exact tup_eq (w := mCons (mVar 2) (mCons (mVar 3) mNil)) rfl sz2)
  rw [rngD_len]
  show ((lcI2 (tnL (rngD 0 (n + 1))) (mName 2) mYes _ (mName 3) mYes _ [some (pD (pat l r)), some (.int (n : Nat)), none, none] [3] (n + 1) 0 S []).bind _) = _
  rw [h2, Option.bind_some, tks_D]
  rfl
def rowp (n x : Nat) : List (Int × Int) := (List.range (n + 1 + if x = n then 1 else 0)).map fun (y : Nat) => ((x : Int), (y : Int))
def tkp (n i : Nat) : List (Int × Int) := (List.range i).flatMap (rowp n)
theorem tkp_succ (n i : Nat) : tkp n (i + 1) = tkp n i ++ rowp n i := by
  unfold tkp
  rw [List.range_succ, List.flatMap_append, List.flatMap_cons, List.flatMap_nil, List.append_nil]
theorem rowp_len (n x : Nat) : (rowp n x).length ≤ n + 2 := by
  unfold rowp
  rw [List.length_map, List.length_range]
  split <;> omega
theorem tkp_len (n : Nat) : ∀ i, (tkp n i).length ≤ i * (n + 2)
  | 0 => Nat.zero_le _
  | i + 1 => by
    have := tkp_len n i
    have h2 := rowp_len n i
    have h3 : (i + 1) * (n + 2) = i * (n + 2) + (n + 2) := Nat.succ_mul _ _
    rw [tkp_succ, List.length_append]
    omega
theorem below_tDs {n : Nat} : ∀ ts : List (Int × Int), belows n (ts.map tD) = true
  | [] => by
    show belows n [] = true
    unfold belows
    rfl
  | t :: r => by
    show belows n (tD t :: r.map tD) = true
    unfold belows
    rw [below_tD, below_tDs r]
    rfl
theorem lExtend_eq {ds zs : List D} (h : ds.length + zs.length ≤ sizeLine) : lExtend S ds [.lst zs] = some (ds ++ zs, .non) := if_pos h
theorem L_ticks_eq {l r : List Int} (g : Gd S) (hn : l.length + r.length ≤ 50) : F_L_ticks [pD (pat l r)] S = some (.lst ((tks (un l r).length).map tD), S) := by
  have hu : (un l r).length ≤ 50 := by
    have := uq_len (l ++ r) []
    rw [List.length_append] at this
    exact Nat.le_trans this (by simpa using hn)
  have hu2 : ((uq [] (pt (un l r) (l ++ r))).length : Int) = ((un l r).length : Nat) := by
    have : uq [] (pt (un l r) (l ++ r)) = (un l r).map (nu (un l r)) := uq_map (l ++ r) [] (nu_inj fun x h => mem_un.mpr h)
    rw [this, List.length_map]
  generalize hnn : (un l r).length = n at hu hu2
  refine fun_eq (T := []) (S1 := S ++ [.lst ((tks n).map tD)]) (d := .obj S.length) rfl ?_ (retD_cell g (Nat.le_refl _) at_last (below_tDs _))
  show B_L_ticks [some (pD (pat l r)), none, none, none, none] S = _
  unfold B_L_ticks
  have h1 : mPar2 1 2 (mCons (mLenSet (mOp dAdd (mOp dIx (mVar 0) (mC (.int 0))) (mOp dIx (mVar 0) (mC (.int 1))))) (mCons (mCell (mLst mNil)) mNil)) [some (pD (pat l r)), none, none, none, none] S = some (.nx [some (pD (pat l r)), some (.int (n : Nat)), some (.obj S.length), none, none], S ++ [.lst []]) := by
    have e0 := lenSet_eq (S := S) (ρ := [some (pD (pat l r)), none, none, none, none]) (xs := pt (un l r) (l ++ r)) (mop_eq (f := mOp dIx (mVar 0) (mC (.int 0))) (h := mOp dIx (mVar 0) (mC (.int 1))) rfl rfl (row_eq (by omega))) (.inr rfl) (by rw [pt_len, List.length_append]; omega)
    rw [hu2] at e0
    exact par2_eq (cons_eq e0 (cons_eq (w := mNil) (f := mCell (mLst mNil)) rfl rfl))
  rw [seq_nx h1]
  have step : ∀ (i : Nat) (hi : i < (rngD 0 (n + 1)).length) (ρ : Mi.Env) (S' : Sto), ((∃ y, ρ = [some (pD (pat l r)), some (.int (n : Nat)), some (.obj S.length), y, none]) ∧ S' = S ++ [.lst ((tkp n i).map tD)]) → ∃ ρ1 S1 ρ2 S2, mName 3 (rngD 0 (n + 1))[i] ρ S' = some (ρ1, S1) ∧
      mExpr (mMeth lExtend (mVar 2) (mCons (mOfL (mLc (mItR1 (mCons (mOp dAdd (mOp dAdd (mVar 1) (mC (.int 1))) (mCB bInt (mCons (mOp dEq (mVar 3) (mVar 1)) mNil))) mNil)) (mName 4) mYes (mTup (mCons (mVar 3) (mCons (mVar 4) mNil))) [4])) mNil)) ρ1 S1 = some (.nx ρ2, S2) ∧
      ((∃ y, ρ2 = [some (pD (pat l r)), some (.int (n : Nat)), some (.obj S.length), y, none]) ∧ S2 = S ++ [.lst ((tkp n (i + 1)).map tD)]) := by
    intro i hi ρ S' p
    obtain ⟨⟨y, rfl⟩, rfl⟩ := p
    have hi' : i < n + 1 := by rwa [rngD_len] at hi
    have hx : (rngD 0 (n + 1))[i] = .int (i : Nat) := rng_at hi
    have hS : (S ++ [C.lst ((tkp n i).map tD)])[S.length]? = some (.lst ((tkp n i).map tD)) := at_last
    refine ⟨[some (pD (pat l r)), some (.int (n : Nat)), some (.obj S.length), some (.int (i : Nat)), none], S ++ [.lst ((tkp n i).map tD)], _, _, ?_, ?_, ⟨some (.int (i : Nat)), rfl⟩, rfl⟩
    · rw [hx]
      rfl
    · have hlc := lc_map (S := S ++ [.lst ((tkp n i).map tD)]) (S1 := S ++ [.lst ((tkp n i).map tD)]) (ρ := [some (pD (pat l r)), some (.int (n : Nat)), some (.obj S.length), some (.int (i : Nat)), none]) (j := 4) (vs := [4]) (fe := mTup (mCons (mVar 3) (mCons (mVar 4) mNil))) (g := fun y => .tup [.int (i : Nat), y]) (xs := rngD 0 (n + 1 + if i = n then 1 else 0))
        (mItR1_eq (beside (vs := 1) (vt := 3) rfl rfl) (by split <;> omega)) (by rw [rngD_len]; exact sz_ok (by split <;> omega)) (fun y hy => tup_eq (w := mCons (mVar 3) (mCons (mVar 4) mNil)) rfl sz2)
      rw [← row_nat, row_items] at hlc
      have hl1 := tkp_len n i
      have hl2 := rowp_len n i
      have hl3 : i * (n + 2) ≤ 51 * 52 := Nat.mul_le_mul (by omega) (by omega)
      have hm := meth_eq (F := lExtend) (f := mVar 2) rfl (cellL_obj hS) (cons_eq (w := mNil) (ofL_eq hlc) rfl) (cellL_obj hS) (lExtend_eq (zs := (rowp n i).map tD) (by rw [List.length_map, List.length_map]; exact sz_ok (by omega)))
      rw [expr_eq hm, set_last, ← List.map_append, ← tkp_succ]
  obtain ⟨ρ2, S2, e, ⟨y, hy⟩, hS⟩ := forL_inv (S := S ++ [.lst []]) (ρ := [some (pD (pat l r)), some (.int (n : Nat)), some (.obj S.length), none, none]) (rngD 0 (n + 1)) (fun i ρ S' => (∃ y, ρ = [some (pD (pat l r)), some (.int (n : Nat)), some (.obj S.length), y, none]) ∧ S' = S ++ [.lst ((tkp n i).map tD)]) step ⟨⟨none, rfl⟩, rfl⟩
  have hf := (for_eq (ρ := [some (pD (pat l r)), some (.int (n : Nat)), some (.obj S.length), none, none]) (S := S ++ [.lst []]) (fit := mItR1 (mCons (mOp dAdd (mVar 1) (mC (.int 1))) mNil)) (mItR1_eq (n := n + 1) (S1 := S ++ [.lst []]) rfl (by omega)) rfl).trans e
  rw [seq_nx hf, hy, hS, rngD_len]
  rfl
end
end K65
namespace K65
open PySem PySem.Spec PyProof.Rows L2 Mi
section
variable {S : Sto}
/-- the bag of draws -/
def bagL (a b : Int) (k : Nat) (cs : List Int) : List D := [.int a, .int b, .int (k : Nat), .lst (ID cs)]
def BagC (c : C) : Prop := ∃ (a b : Int) (k : Nat) (cs : List Int), c = .lst (bagL a b k cs) ∧ cs.length ≤ 63
theorem below_bag {c : C} (h : BagC c) : C.below 0 c = true := by
  obtain ⟨a, b, k, cs, rfl, _⟩ := h
  show belows 0 (bagL a b k cs) = true
  simp only [bagL, belows, below, belows_ID]
  rfl
theorem dMul_small {i j : Int} (h : -(2 ^ 64) < j ∧ j < 2 ^ 64) : dMul S (.int i) (.int j) = some (.int (i * j)) := by
  have : dMulI S (.int i) (.int j) = some (.int (i * j)) := if_pos (.inr h)
  unfold dMul
  rw [this]
  rfl
theorem dMul_small' {i j : Int} (h : -(2 ^ 64) < i ∧ i < 2 ^ 64) : dMul S (.int i) (.int j) = some (.int (i * j)) := by
  have : dMulI S (.int i) (.int j) = some (.int (i * j)) := if_pos (.inl h)
  unfold dMul
  rw [this]
  rfl
theorem dPow_pos {i j : Int} (h : 0 ≤ j ∧ j ≤ 1000000 ∧ i.natAbs < 2 ^ 64) : dPow S (.int i) (.int j) = some (.int (i ^ j.toNat)) := if_pos h
theorem dMod_pos {i j : Int} (h : 0 < j) : dMod S (.int i) (.int j) = some (.int (i % j)) := if_pos h
theorem dFdiv_pos {i j : Int} (h : 0 < j ∧ j < 1073741824) : dFdiv S (.int i) (.int j) = some (.int (i / j)) := if_pos h
theorem rdC {ρ : Mi.Env} {i v j : Nat} {L : List D} {d : D} (h0 : ρ[v]? = some (some (.obj i))) (hS : S[i]? = some (.lst L)) (hd : L[j]? = some d) : mOp dIx (mVar v) (mC (.int (j : Nat))) ρ S = some (d, S) :=
  mop_eq (var_eq h0) (h := mC (.int (j : Nat))) rfl (dIx_ID (seq_obj hS) (fun z e => by cases e) hd)
theorem wrC {ρ : Mi.Env} {i v j : Nat} {L : List D} {d : D} (h0 : ρ[v]? = some (some (.obj i))) (hS : S[i]? = some (.lst L)) (hj : j < L.length) : mSetL (mVar v) (mC (.int (j : Nat))) d ρ S = some (ρ, S.set i (.lst (L.set j d))) := by
  have hx : ixN L.length (j : Nat) = some j := by
    unfold ixN
    rw [if_pos (by omega), if_pos (by omega)]
    rfl
  unfold mSetL
  rw [var_eq h0, Option.bind_some]
  show ((cellL S (.obj i)).bind _) = _
  rw [cellL_obj hS, Option.bind_some]
  show ((ixN L.length (j : Nat)).bind _) = _
  rw [hx]
  rfl
theorem set_at {i : Nat} {c : C} (h : i < S.length) : (S.set i c)[i]? = some c := List.getElem?_set_self h
theorem take_eq {i m : Nat} {c : C} (hS : S[i]? = some c) (hc : BagC c) (hm : 0 < m ∧ m < 1000000) : ∃ (r : Nat) (c' : C), r < m ∧ BagC c' ∧ F_L_take [.obj i, .int (m : Nat)] S = some (.int (r : Nat), S.set i c') := by
  obtain ⟨a, b, k, cs, rfl, hl⟩ := hc
  have hi : i < S.length := (List.getElem?_eq_some_iff.mp hS).1
  have hm1 : (0 : Int) < (m : Int) := by omega
  have hm2 : (m : Int) < 1073741824 := by omega
  -- the first step: a number, where there is none
  have h1 : ∃ (a b : Int) (k : Nat) (x y : Option D), mIfS (mT (mOp dEq (mOp dIx (mVar 0) (mC (.int 0))) (mC (.int 0)))) (mSeq (mAsg (mOp dIx (mOp dAdd (mOfL (mSlL (mOp dIx (mVar 0) (mC (.int 3))) (mOS (mOp dIx (mVar 0) (mC (.int 2)))) mON)) (mOfL (mLst (mCons (mC (.int 0)) mNil)))) (mC (.int 0))) (mName 2))
      (mSeq (mAugL (· + ·) (mVar 0) (mC (.int 2)) (mC (.int 1)))
      (mSeq (mAsg (mOp dMul (mVar 2) (mCB bInt (mCons (mOp dGe (mVar 2) (mOp dPow (mC (.int 10)) (mC (.int 18)))) mNil))) (mSetL (mVar 0) (mC (.int 0))))
      (mSeq (mAsg (mOp dAdd (mOp dAdd (mOp dMul (mOp dIx (mVar 0) (mC (.int 1))) (mC (.int 48271))) (mOp dMod (mCB bInt (mCons (mVar 2) mNil)) (mC (.int 2147483647)))) (mOp dMul (mC (.int 7919)) (mOp dIx (mVar 0) (mC (.int 2))))) (mName 3))
      (mAsg (mOp dMod (mCB bInt (mCons (mVar 3) mNil)) (mC (.int 2147483647))) (mSetL (mVar 0) (mC (.int 1)))))))) mSkip [some (.obj i), some (.int (m : Nat)), none, none, none, none, none] S =
      some (.nx [some (.obj i), some (.int (m : Nat)), x, y, none, none, none], S.set i (.lst (bagL a b k cs))) := by
    have hc0 : mOp dEq (mOp dIx (mVar 0) (mC (.int 0))) (mC (.int 0)) [some (.obj i), some (.int (m : Nat)), none, none, none, none, none] S = some (.bl (a == 0), S) := mop_eq (rdC (v := 0) (j := 0) rfl hS rfl) (h := mC (.int 0)) rfl (by
      show (dEqB S (.int a) (.int 0)).bind _ = _
      have : dEqB S (.int a) (.int 0) = some (a == 0) := rfl
      rw [this]
      rfl)
    cases ha : a == 0 with
    | false =>
      rw [ha] at hc0
      refine ⟨a, b, k, none, none, (ifs_f (t_eq hc0)).trans ?_⟩
      have : S.set i (.lst (bagL a b k cs)) = S := by
        have e := (List.getElem?_eq_some_iff.mp hS).2
        rw [← e, List.set_getElem_self]
      rw [this]
      rfl
    | true =>
      rw [ha] at hc0
      rw [ifs_t (t_eq hc0)]
      have ex : ∃ v r, (cs.drop k ++ [0]) = v :: r := by
        cases cs.drop k with
        | nil => exact ⟨0, [], rfl⟩
        | cons x r => exact ⟨x, r ++ [0], rfl⟩
      obtain ⟨v, rr, ev⟩ := ex
      have hl1 : (cs.drop k ++ [0]).length ≤ 64 := by
        rw [List.length_append, List.length_drop]
        show _ + 1 ≤ _
        omega
      have e1 : mOp dIx (mOp dAdd (mOfL (mSlL (mOp dIx (mVar 0) (mC (.int 3))) (mOS (mOp dIx (mVar 0) (mC (.int 2)))) mON)) (mOfL (mLst (mCons (mC (.int 0)) mNil)))) (mC (.int 0)) [some (.obj i), some (.int (m : Nat)), none, none, none, none, none] S = some (.int v, S) := by
        have s1 : mSlL (mOp dIx (mVar 0) (mC (.int 3))) (mOS (mOp dIx (mVar 0) (mC (.int 2)))) mON [some (.obj i), some (.int (m : Nat)), none, none, none, none, none] S = some (.lst (ID (cs.drop k)), S) := by
          unfold mSlL
          have q3 := rdC (S := S) (ρ := [some (.obj i), some (.int (m : Nat)), none, none, none, none, none]) (v := 0) (j := 3) rfl hS rfl
          have q2 := rdC (S := S) (ρ := [some (.obj i), some (.int (m : Nat)), none, none, none, none, none]) (v := 0) (j := 2) rfl hS rfl
          have o2 : mOS (mOp dIx (mVar 0) (mC (.int 2))) [some (.obj i), some (.int (m : Nat)), none, none, none, none, none] S = some (some (k : Int), S) := by
            unfold mOS
            rw [show (mC (.int 2)) = mC (.int ((2 : Nat) : Int)) from rfl, q2]
            rfl
          rw [show (mC (.int 3)) = mC (.int ((3 : Nat) : Int)) from rfl, q3, Option.bind_some, o2, Option.bind_some]
          show some (C.lst (cutX (ID cs) (some (k : Int)) none), S) = _
          rw [cutX_nat, ← List.map_drop]
        have s2 : dAdd S (.lst (ID (cs.drop k))) (.lst [.int 0]) = some (.lst (ID (v :: rr))) := by
          rw [← ev, ID_app]
          refine if_pos ?_
          rw [List.length_map]
          rw [List.length_append] at hl1
          exact sz_ok (Nat.le_trans hl1 (by decide))
        exact mop_eq (mop_eq (ofL_eq s1) (h := mOfL (mLst (mCons (mC (.int 0)) mNil))) rfl s2) (h := mC (.int 0)) rfl (dIx_ID (j := 0) rfl (fun z e => by cases e) rfl)
      rw [seq_nx (set_eq e1)]
      show ∃ (a b : Int) (k : Nat) (x y : Option D), mSeq _ _ [some (.obj i), some (.int (m : Nat)), some (.int v), none, none, none, none] S = _
      have e2 : mAugL (· + ·) (mVar 0) (mC (.int 2)) (mC (.int 1)) [some (.obj i), some (.int (m : Nat)), some (.int v), none, none, none, none] S = some (.nx [some (.obj i), some (.int (m : Nat)), some (.int v), none, none, none, none], S.set i (.lst (bagL a b (k + 1) cs))) := by
        unfold mAugL
        show ((cellL S (.obj i)).bind _) = _
        rw [cellL_obj hS, Option.bind_some]
        show ((cellL S (.obj i)).bind _) = _
        rw [cellL_obj hS, Option.bind_some]
        rfl
      rw [seq_nx e2]
      have hS2 : (S.set i (.lst (bagL a b (k + 1) cs)))[i]? = some (.lst (bagL a b (k + 1) cs)) := set_at hi
      obtain ⟨a1, e3⟩ : ∃ a1 : Int, mOp dMul (mVar 2) (mCB bInt (mCons (mOp dGe (mVar 2) (mOp dPow (mC (.int 10)) (mC (.int 18)))) mNil)) [some (.obj i), some (.int (m : Nat)), some (.int v), none, none, none, none] (S.set i (.lst (bagL a b (k + 1) cs))) = some (.int a1, S.set i (.lst (bagL a b (k + 1) cs))) := by
        refine ⟨v * (if decide ((10 : Int) ^ (18 : Int).toNat ≤ v) = true then 1 else 0), ?_⟩
        have g1 := mop_eq (S := S.set i (.lst (bagL a b (k + 1) cs))) (ρ := [some (.obj i), some (.int (m : Nat)), some (.int v), none, none, none, none]) (r := dGe) (f := mVar 2) (a := .int v) rfl (mop_eq (r := dPow) (f := mC (.int 10)) (h := mC (.int 18)) rfl rfl (dPow_pos (by decide))) rfl
        refine mop_eq (f := mVar 2) (a := .int v) rfl (cb_eq (F := bInt) (cons_eq (w := mNil) g1 rfl) rfl) (dMul_small ?_)
        split <;> decide
      have e3' : mAsg (mOp dMul (mVar 2) (mCB bInt (mCons (mOp dGe (mVar 2) (mOp dPow (mC (.int 10)) (mC (.int 18)))) mNil))) (mSetL (mVar 0) (mC (.int 0))) [some (.obj i), some (.int (m : Nat)), some (.int v), none, none, none, none] (S.set i (.lst (bagL a b (k + 1) cs))) = some (.nx [some (.obj i), some (.int (m : Nat)), some (.int v), none, none, none, none], (S.set i (.lst (bagL a b (k + 1) cs))).set i (.lst ((bagL a b (k + 1) cs).set 0 (.int a1)))) :=
        asg_eq e3 (wrC (v := 0) (j := 0) rfl hS2 (by show 0 < 4; decide))
      rw [seq_nx e3']
      have hS3 : ((S.set i (.lst (bagL a b (k + 1) cs))).set i (.lst ((bagL a b (k + 1) cs).set 0 (.int a1))))[i]? = some (.lst (bagL a1 b (k + 1) cs)) := set_at (by rw [List.length_set]; exact hi)
      rw [show (S.set i (.lst (bagL a b (k + 1) cs))).set i (.lst ((bagL a b (k + 1) cs).set 0 (.int a1))) = S.set i (.lst (bagL a1 b (k + 1) cs)) from List.set_set ..] at hS3 ⊢
      obtain ⟨b1, e4⟩ : ∃ b1 : Int, mOp dAdd (mOp dAdd (mOp dMul (mOp dIx (mVar 0) (mC (.int 1))) (mC (.int 48271))) (mOp dMod (mCB bInt (mCons (mVar 2) mNil)) (mC (.int 2147483647)))) (mOp dMul (mC (.int 7919)) (mOp dIx (mVar 0) (mC (.int 2)))) [some (.obj i), some (.int (m : Nat)), some (.int v), none, none, none, none] (S.set i (.lst (bagL a1 b (k + 1) cs))) = some (.int b1, S.set i (.lst (bagL a1 b (k + 1) cs))) := by
        refine ⟨b * 48271 + v % 2147483647 + 7919 * ((k + 1 : Nat) : Int), ?_⟩
        refine mop_eq (mop_eq (mop_eq (rdC (v := 0) (j := 1) rfl hS3 rfl) (h := mC (.int 48271)) rfl (dMul_small (by decide))) (mop_eq (cb_eq (F := bInt) (w := mCons (mVar 2) mNil) rfl rfl) (h := mC (.int 2147483647)) rfl (dMod_pos (by decide))) rfl) (mop_eq (f := mC (.int 7919)) rfl (rdC (v := 0) (j := 2) rfl hS3 rfl) (dMul_small' (by decide))) rfl
      rw [seq_nx (set_eq e4)]
      have e5 : mOp dMod (mCB bInt (mCons (mVar 3) mNil)) (mC (.int 2147483647)) [some (.obj i), some (.int (m : Nat)), some (.int v), some (.int b1), none, none, none] (S.set i (.lst (bagL a1 b (k + 1) cs))) = some (.int (b1 % 2147483647), S.set i (.lst (bagL a1 b (k + 1) cs))) :=
        mop_eq (cb_eq (F := bInt) (w := mCons (mVar 3) mNil) rfl rfl) (h := mC (.int 2147483647)) rfl (dMod_pos (by decide))
      refine ⟨a1, b1 % 2147483647, k + 1, some (.int v), some (.int b1), (asg_eq (ρ' := [some (.obj i), some (.int (m : Nat)), some (.int v), some (.int b1), none, none, none]) e5 (wrC (v := 0) (j := 1) rfl hS3 (by show 1 < 4; decide))).trans ?_⟩
      rw [List.set_set]
      rfl
  obtain ⟨a1, b1, k1, x, y, e1⟩ := h1
  have hS1 : (S.set i (.lst (bagL a1 b1 k1 cs)))[i]? = some (.lst (bagL a1 b1 k1 cs)) := set_at hi
  have fin : ∀ (r : Int) (c' : C), 0 ≤ r → r < m → BagC c' → B_L_take [some (.obj i), some (.int (m : Nat)), none, none, none, none, none] S = some (.rt (.int r), S.set i c') → ∃ (r : Nat) (c' : C), r < m ∧ BagC c' ∧ F_L_take [.obj i, .int (m : Nat)] S = some (.int (r : Nat), S.set i c') := fun r c' h0 h1 hb e => by
    refine ⟨r.toNat, c', by omega, hb, ?_⟩
    rw [Int.toNat_of_nonneg h0]
    refine fun_eq (T := []) (S1 := S.set i c') (d := .int r) rfl e ?_
    unfold retD
    rw [if_pos (by rw [List.length_set]; exact Nat.le_refl _)]
  have h2 : mOp dGt (mOp dIx (mVar 0) (mC (.int 0))) (mC (.int 0)) [some (.obj i), some (.int (m : Nat)), x, y, none, none, none] (S.set i (.lst (bagL a1 b1 k1 cs))) = some (.bl (decide (0 < a1)), S.set i (.lst (bagL a1 b1 k1 cs))) :=
    mop_eq (rdC (v := 0) (j := 0) rfl hS1 rfl) (h := mC (.int 0)) rfl rfl
  have hr0 : ∀ z : Int, 0 ≤ z % (m : Int) ∧ z % (m : Int) < m := fun z => ⟨Int.emod_nonneg _ (by omega), Int.emod_lt_of_pos _ hm1⟩
  cases ha : decide (0 < a1) with
  | true =>
    rw [ha] at h2
    refine fin (a1 % m) (.lst (bagL (a1 / m) b1 k1 cs)) (hr0 _).1 (hr0 _).2 ⟨_, _, _, _, rfl, hl⟩ ?_
    unfold B_L_take
    rw [seq_nx e1]
    refine seq_rt ((ifs_t (t_eq h2)).trans ?_)
    have e3 : mOp dMod (mCB bInt (mCons (mOp dIx (mVar 0) (mC (.int 0))) mNil)) (mVar 1) [some (.obj i), some (.int (m : Nat)), x, y, none, none, none] (S.set i (.lst (bagL a1 b1 k1 cs))) = some (.int (a1 % m), S.set i (.lst (bagL a1 b1 k1 cs))) :=
      mop_eq (cb_eq (F := bInt) (cons_eq (w := mNil) (rdC (v := 0) (j := 0) rfl hS1 rfl) rfl) rfl) (h := mVar 1) rfl (dMod_pos hm1)
    rw [seq_nx (set_eq e3)]
    show mSeq _ _ [some (.obj i), some (.int (m : Nat)), x, y, some (.int (a1 % m)), none, none] _ = _
    have e4 : mOp dFdiv (mCB bInt (mCons (mOp dIx (mVar 0) (mC (.int 0))) mNil)) (mVar 1) [some (.obj i), some (.int (m : Nat)), x, y, some (.int (a1 % m)), none, none] (S.set i (.lst (bagL a1 b1 k1 cs))) = some (.int (a1 / m), S.set i (.lst (bagL a1 b1 k1 cs))) :=
      mop_eq (cb_eq (F := bInt) (cons_eq (w := mNil) (rdC (v := 0) (j := 0) rfl hS1 rfl) rfl) rfl) (h := mVar 1) rfl (dFdiv_pos ⟨hm1, hm2⟩)
    refine (seq_nx (asg_eq (ρ' := [some (.obj i), some (.int (m : Nat)), x, y, some (.int (a1 % m)), none, none]) e4 (wrC (v := 0) (j := 0) rfl hS1 (by show 0 < 4; decide)))).trans ?_
    rw [List.set_set]
    rfl
  | false =>
    rw [ha] at h2
    obtain ⟨u, e3⟩ : ∃ u : Int, mOp dMod (mCB bInt (mCons (mOp dMul (mOp dAdd (mOp dIx (mVar 0) (mC (.int 1))) (mC (.int 1))) (mC (.int 39373))) mNil)) (mC (.int 1000000007)) [some (.obj i), some (.int (m : Nat)), x, y, none, none, none] (S.set i (.lst (bagL a1 b1 k1 cs))) = some (.int (u % 1000000007), S.set i (.lst (bagL a1 b1 k1 cs))) :=
      ⟨(b1 + 1) * 39373, mop_eq (cb_eq (F := bInt) (cons_eq (w := mNil) (mop_eq (mop_eq (rdC (v := 0) (j := 1) rfl hS1 rfl) (h := mC (.int 1)) rfl rfl) (h := mC (.int 39373)) rfl (dMul_small (by decide))) rfl) rfl) (h := mC (.int 1000000007)) rfl (dMod_pos (by decide))⟩
    have hu0 : 0 ≤ u % 1000000007 := Int.emod_nonneg _ (by decide)
    have hu1 : u % 1000000007 < 1000000007 := Int.emod_lt_of_pos _ (by decide)
    generalize u % 1000000007 = w at e3 hu0 hu1
    have e4 : mOp dMod (mCB bInt (mCons (mOp dMul (mOp dMod (mCB bInt (mCons (mOp dMul (mVar 5) (mVar 5)) mNil)) (mC (.int 998244353))) (mC (.int 30011))) mNil)) (mC (.int 998244353)) [some (.obj i), some (.int (m : Nat)), x, y, none, some (.int w), none] (S.set i (.lst (bagL a1 b1 k1 cs))) = some (.int ((w * w) % 998244353 * 30011 % 998244353), S.set i (.lst (bagL a1 b1 k1 cs))) :=
      mop_eq (cb_eq (F := bInt) (cons_eq (w := mNil) (mop_eq (mop_eq (cb_eq (F := bInt) (cons_eq (w := mNil) (mop_eq (f := mVar 5) (h := mVar 5) rfl rfl (dMul_small ⟨by omega, by omega⟩)) rfl) rfl) (h := mC (.int 998244353)) rfl (dMod_pos (by decide))) (h := mC (.int 30011)) rfl (dMul_small (by decide))) rfl) rfl) (h := mC (.int 998244353)) rfl (dMod_pos (by decide))
    have e5 : mOp dMod (mCB bInt (mCons (mOp dFdiv (mVar 6) (mC (.int 7))) mNil)) (mVar 1) [some (.obj i), some (.int (m : Nat)), x, y, none, some (.int w), some (.int ((w * w) % 998244353 * 30011 % 998244353))] (S.set i (.lst (bagL a1 b1 k1 cs))) = some (.int ((w * w) % 998244353 * 30011 % 998244353 / 7 % m), S.set i (.lst (bagL a1 b1 k1 cs))) :=
      mop_eq (cb_eq (F := bInt) (cons_eq (w := mNil) (mop_eq (f := mVar 6) (h := mC (.int 7)) rfl rfl (dFdiv_pos (by decide))) rfl) rfl) (h := mVar 1) rfl (dMod_pos hm1)
    refine fin ((w * w) % 998244353 * 30011 % 998244353 / 7 % m) (.lst (bagL a1 b1 k1 cs)) (hr0 _).1 (hr0 _).2 ⟨_, _, _, _, rfl, hl⟩ ?_
    unfold B_L_take
    rw [seq_nx e1, seq_nx ((ifs_f (t_eq h2)).trans rfl), seq_nx (set_eq e3)]
    show mSeq _ _ [some (.obj i), some (.int (m : Nat)), x, y, none, some (.int w), none] _ = _
    rw [seq_nx (set_eq e4)]
    exact ret_eq e5
end
end K65
namespace K65
open PySem PySem.Spec PyProof.Rows L2 Mi
section
variable {S : Sto}
theorem ID_take (n : Nat) (xs : List Int) : ID (xs.take n) = (ID xs).take n := List.map_take
theorem ID_drop (n : Nat) (xs : List Int) : ID (xs.drop n) = (ID xs).drop n := List.map_drop
theorem one_eq {i : Nat} {c : C} {xs : List Int} (hS : S[i]? = some c) (hc : BagC c) (h0 : 0 < xs.length) (h1 : xs.length < 1000000) : ∃ (x : Int) (c' : C), x ∈ xs ∧ BagC c' ∧ F_L_one [.obj i, .lst (ID xs)] S = some (.int x, S.set i c') := by
  obtain ⟨r, c', hr, hb, e⟩ := take_eq (S := S) hS hc ⟨h0, h1⟩
  refine ⟨xs[r], c', List.getElem_mem hr, hb, ?_⟩
  refine fun_eq (T := []) (S1 := S.set i c') (d := .int xs[r]) rfl ?_ (by unfold retD; rw [if_pos (by rw [List.length_set]; exact Nat.le_refl _)])
  show B_L_one [some (.obj i), some (.lst (ID xs))] S = _
  unfold B_L_one
  have hl : bLen S [.lst (ID xs)] = some (.int (xs.length : Nat)) := by
    rw [len_seq (xs := ID xs) rfl (fun z e => by cases e), List.length_map]
  refine ret_eq (mop_eq (f := mVar 1) rfl ((call_eq (cons_eq (f := mVar 0) rfl (cons_eq (w := mNil) (cb_eq (w := mCons (mVar 1) mNil) rfl hl) rfl))).trans e) (dIx_ID (xs := ID xs) rfl (fun z e => by cases e) ?_))
  rw [List.getElem?_map, List.getElem?_eq_getElem hr]
  rfl
theorem lInsert_eq {ds : List D} {r : Nat} {d : D} (h : ds.length < sizeLine) (hr : r < 1000000) : lInsert S ds [.int (r : Nat), d] = some (ds.take r ++ [d] ++ ds.drop r, .non) := if_pos ⟨h, by omega, by omega⟩
theorem mixed_eq {i : Nat} {c : C} {xs : List Int} (g : Gd S) (hS : S[i]? = some c) (hc : BagC c) (h1 : xs.length < 100000) : ∃ (ys : List Int) (c' : C), ys.length = xs.length ∧ BagC c' ∧ F_L_mixed [.obj i, .lst (ID xs)] S = some (.lst (ID ys), S.set i c') := by
  have hi : i < S.length := (List.getElem?_eq_some_iff.mp hS).1
  have step : ∀ (k : Nat) (hk : k < (ID xs).length) (ρ : Mi.Env) (S' : Sto), ((∃ y, ρ = [some (.obj i), some (.lst (ID xs)), some (.obj S.length), y]) ∧ ∃ (c' : C) (ys : List Int), BagC c' ∧ ys.length = k ∧ S' = S.set i c' ++ [.lst (ID ys)]) → ∃ ρ1 S1 ρ2 S2, mName 3 (ID xs)[k] ρ S' = some (ρ1, S1) ∧
      mExpr (mMeth lInsert (mVar 2) (mCons (mCall F_L_take (mCons (mVar 0) (mCons (mOp dAdd (mCB bLen (mCons (mVar 2) mNil)) (mC (.int 1))) mNil))) (mCons (mVar 3) mNil))) ρ1 S1 = some (.nx ρ2, S2) ∧
      ((∃ y, ρ2 = [some (.obj i), some (.lst (ID xs)), some (.obj S.length), y]) ∧ ∃ (c' : C) (ys : List Int), BagC c' ∧ ys.length = k + 1 ∧ S2 = S.set i c' ++ [.lst (ID ys)]) := by
    intro k hk ρ S' p
    obtain ⟨⟨y, rfl⟩, c', ys, hb, hy, rfl⟩ := p
    have hk' : k < xs.length := by simpa using hk
    have hx : (ID xs)[k] = .int xs[k] := by simp
    have hl : (S.set i c').length = S.length := List.length_set
    have hS1 : (S.set i c' ++ [C.lst (ID ys)])[S.length]? = some (.lst (ID ys)) := by
      have := at_last (S := S.set i c') (c := C.lst (ID ys))
      rwa [hl] at this
    have hS2 : (S.set i c' ++ [C.lst (ID ys)])[i]? = some c' := by
      rw [List.getElem?_append_left (by rw [hl]; exact hi)]
      exact set_at hi
    obtain ⟨r, c2, hr, hb2, e⟩ := take_eq (m := k + 1) hS2 hb ⟨by omega, by omega⟩
    have es : (S.set i c' ++ [C.lst (ID ys)]).set i c2 = S.set i c2 ++ [C.lst (ID ys)] := by
      rw [List.set_append_left _ _ (by rw [hl]; exact hi), List.set_set]
    rw [es] at e
    have hl2 : (S.set i c2).length = S.length := List.length_set
    have hS3 : (S.set i c2 ++ [C.lst (ID ys)])[S.length]? = some (.lst (ID ys)) := by
      have := at_last (S := S.set i c2) (c := C.lst (ID ys))
      rwa [hl2] at this
    refine ⟨[some (.obj i), some (.lst (ID xs)), some (.obj S.length), some (.int xs[k])], S.set i c' ++ [.lst (ID ys)], [some (.obj i), some (.lst (ID xs)), some (.obj S.length), some (.int xs[k])], S.set i c2 ++ [.lst (ID (ys.take r ++ [xs[k]] ++ ys.drop r))], ?_, ?_, ⟨some (.int xs[k]), rfl⟩, c2, _, hb2, ?_, rfl⟩
    · rw [hx]
      rfl
    · have hlen : bLen (S.set i c' ++ [C.lst (ID ys)]) [.obj S.length] = some (.int (k : Nat)) := by
        rw [len_seq (xs := ID ys) (seq_obj hS1) (fun z e => by cases e), List.length_map, hy]
      have e1 : mCons (mCall F_L_take (mCons (mVar 0) (mCons (mOp dAdd (mCB bLen (mCons (mVar 2) mNil)) (mC (.int 1))) mNil))) (mCons (mVar 3) mNil) [some (.obj i), some (.lst (ID xs)), some (.obj S.length), some (.int xs[k])] (S.set i c' ++ [.lst (ID ys)]) = some ([.int (r : Nat), .int xs[k]], S.set i c2 ++ [.lst (ID ys)]) :=
        cons_eq ((call_eq (cons_eq (f := mVar 0) rfl (cons_eq (w := mNil) (mop_eq (cb_eq (w := mCons (mVar 2) mNil) rfl hlen) (h := mC (.int 1)) rfl rfl) rfl))).trans e) (w := mCons (mVar 3) mNil) rfl
      have hm := meth_eq (F := lInsert) (f := mVar 2) rfl (cellL_obj hS1) e1 (cellL_obj hS3) (lInsert_eq (by rw [List.length_map, hy]; exact Nat.lt_of_lt_of_le hk' (sz_ok (by omega))) (by omega))
      rw [expr_eq hm]
      have : (S.set i c2 ++ [C.lst (ID ys)]).set S.length (.lst ((ID ys).take r ++ [.int xs[k]] ++ (ID ys).drop r)) = S.set i c2 ++ [.lst (ID (ys.take r ++ [xs[k]] ++ ys.drop r))] := by
        have := set_last (S := S.set i c2) (c := C.lst (ID ys)) (c' := .lst ((ID ys).take r ++ [.int xs[k]] ++ (ID ys).drop r))
        rw [hl2] at this
        rw [this, ID_app, ID_app, ID_take, ID_drop]
        rfl
      rw [this]
    · rw [List.length_append, List.length_append, List.length_take, List.length_drop]
      show min r ys.length + 1 + (ys.length - r) = k + 1
      omega
  obtain ⟨ρ2, S2, e, ⟨y, hy⟩, c', ys, hb, hyl, hS2⟩ := forL_inv (S := S ++ [.lst []]) (ρ := [some (.obj i), some (.lst (ID xs)), some (.obj S.length), none]) (ID xs) (fun k ρ S' => (∃ y, ρ = [some (.obj i), some (.lst (ID xs)), some (.obj S.length), y]) ∧ ∃ (c' : C) (ys : List Int), BagC c' ∧ ys.length = k ∧ S' = S.set i c' ++ [.lst (ID ys)]) step ⟨⟨none, rfl⟩, c, [], hc, rfl, by
    have e := (List.getElem?_eq_some_iff.mp hS).2
    rw [← e, List.set_getElem_self]
    rfl⟩
  refine ⟨ys, c', by rw [hyl, List.length_map], hb, ?_⟩
  have hl : (S.set i c').length = S.length := List.length_set
  refine fun_eq (T := []) (S1 := S.set i c' ++ [.lst (ID ys)]) (d := .obj S.length) rfl ?_ ?_
  · show B_L_mixed [some (.obj i), some (.lst (ID xs)), none, none] S = _
    unfold B_L_mixed
    rw [seq_nx (new_eq (c := .lst []) (S1 := S) rfl)]
    have hf := (for_eq (ρ := [some (.obj i), some (.lst (ID xs)), some (.obj S.length), none]) (S := S ++ [.lst []]) (fit := mItL (mVar 1)) (it := tnL (ID xs)) (n := (ID xs).length) (S1 := S ++ [.lst []]) rfl rfl).trans e
    refine (seq_nx hf).trans ?_
    rw [hy, hS2]
    rfl
  · have := retD_cell (S := S.set i c') (T := [.lst (ID ys)]) (kk := (S.set i c').length) (g.set (below_bag hb)) (Nat.le_refl _) at_last (belows_ID ys)
    rwa [hl] at this
theorem alphabet_eq {i : Nat} {c : C} (g : Gd S) (hS : S[i]? = some c) (hc : BagC c) : ∃ (zs : List Int) (c' : C), 0 < zs.length ∧ zs.length ≤ 7 ∧ BagC c' ∧ F_L_alphabet [.obj i] S = some (.lst (ID zs), S.set i c') := by
  have hi : i < S.length := (List.getElem?_eq_some_iff.mp hS).1
  obtain ⟨ys, c1, hy, hb1, e1⟩ := mixed_eq (xs := [0, 1, 2, 3, 48, 999999999, 10 ^ 9]) g hS hc (by decide)
  have hS1 : (S.set i c1)[i]? = some c1 := set_at hi
  obtain ⟨x, c2, hx, hb2, e2⟩ := one_eq (xs := [2, 3, 2, 1, 4]) hS1 hb1 (by decide) (by decide)
  have hy7 : ys.length = 7 := hy
  obtain ⟨m, hm, rfl⟩ : ∃ m : Nat, 0 < m ∧ x = (m : Int) := by
    simp only [List.mem_cons, List.not_mem_nil, or_false] at hx
    rcases hx with h | h | h | h | h <;> exact ⟨x.toNat, by omega, by omega⟩
  refine ⟨ys.take m, c2, by rw [List.length_take]; omega, by rw [List.length_take]; omega, hb2, ?_⟩
  refine fun_eq (T := []) (S1 := S.set i c2) (d := .lst (ID (ys.take m))) rfl ?_ (by unfold retD; rw [if_pos (by rw [List.length_set]; exact Nat.le_refl _)])
  show B_L_alphabet [some (.obj i)] S = _
  unfold B_L_alphabet
  refine ret_eq (ofL_eq (c := .lst (ID (ys.take m))) ?_)
  unfold mSlL
  have f1 : mCall F_L_mixed (mCons (mVar 0) (mCons (mOfL (mLst (mCons (mC (.int 0)) (mCons (mC (.int 1)) (mCons (mC (.int 2)) (mCons (mC (.int 3)) (mCons (mC (.int 48)) (mCons (mC (.int 999999999)) (mCons (mOp dPow (mC (.int 10)) (mC (.int 9))) mNil))))))))) mNil)) [some (.obj i)] S = some (.lst (ID ys), S.set i c1) := by
    refine (call_eq (S1 := S) (as := [.obj i, .lst (ID [0, 1, 2, 3, 48, 999999999, 10 ^ 9])]) ?_).trans e1
    refine cons_eq (f := mVar 0) rfl (cons_eq (w := mNil) (ofL_eq (c := .lst (ID [0, 1, 2, 3, 48, 999999999, 10 ^ 9])) (lst_eq ?_ (sz_ok (by decide)))) rfl)
    exact cons_eq (f := mC (.int 0)) rfl (cons_eq (f := mC (.int 1)) rfl (cons_eq (f := mC (.int 2)) rfl (cons_eq (f := mC (.int 3)) rfl (cons_eq (f := mC (.int 48)) rfl (cons_eq (f := mC (.int 999999999)) rfl (cons_eq (w := mNil) (mop_eq (f := mC (.int 10)) (h := mC (.int 9)) rfl rfl (dPow_pos (by decide))) rfl))))))
  have f2 : mOS (mCall F_L_one (mCons (mVar 0) (mCons (mOfL (mLst (mCons (mC (.int 2)) (mCons (mC (.int 3)) (mCons (mC (.int 2)) (mCons (mC (.int 1)) (mCons (mC (.int 4)) mNil))))))) mNil))) [some (.obj i)] (S.set i c1) = some (some (m : Int), S.set i c2) := by
    unfold mOS
    rw [(call_eq (F := F_L_one) (S1 := S.set i c1) (as := [.obj i, .lst (ID [2, 3, 2, 1, 4])]) rfl).trans e2]
    show some (some (m : Int), (S.set i c1).set i c2) = _
    rw [List.set_set]
  rw [f1, Option.bind_some]
  show ((mOS _ [some (.obj i)] (S.set i c1)).bind _) = _
  rw [f2, Option.bind_some]
  show some (C.lst (cutX (ID ys) none (some (m : Int))), S.set i c2) = _
  have : cutX (ID ys) none (some (m : Int)) = ID (ys.take m) := by
    unfold cutX
    rw [HT.sIx_nat, HT.sIx_none, ID_take, Nat.sub_zero]
    show (ID ys).take (min m (ID ys).length) = (ID ys).take m
    rw [List.take_eq_take_iff]
    omega
  rw [this]
theorem text_eq {i most : Nat} {c : C} {ls : List Int} (hS : S[i]? = some c) (hc : BagC c) (h0 : 0 < ls.length) (h1 : ls.length < 1000000) (hm : most < 1000) : ∃ (xs : List Int) (c' : C), xs.length ≤ most ∧ BagC c' ∧ F_L_text [.obj i, .lst (ID ls), .int (most : Nat)] S = some (.ftp (ID xs), S.set i c') := by
  have hi : i < S.length := (List.getElem?_eq_some_iff.mp hS).1
  obtain ⟨r, c1, hr, hb1, e1⟩ := take_eq (m := most + 1) hS hc ⟨by omega, by omega⟩
  obtain ⟨acc, S2, e2, c2, xs, hb2, hS2, ha, hl⟩ := lcI_inv (it := tnL (rngD 0 r)) (gt := mName 3) (tt := mYes) (fe := mCall F_L_one (mCons (mVar 0) (mCons (mVar 1) mNil))) (ρw := [some (.obj i), some (.lst (ID ls)), some (.int (most : Nat)), none]) (n := r) (fun k => .int (k : Nat))
    (fun k S' acc => ∃ (c' : C) (xs : List Int), BagC c' ∧ S' = S.set i c' ∧ acc = ID xs ∧ xs.length = k)
    (fun k S' acc hk _ => by
      show some (rngD 0 r)[k]? = _
      split
      · rename_i h
        have hk2 : k < (rngD 0 r).length := by rw [rngD_len]; exact h
        rw [List.getElem?_eq_getElem hk2, rng_at hk2]
      · rw [List.getElem?_eq_none_iff.mpr (by rw [rngD_len]; omega)])
    (fun k S' acc hk p => by
      obtain ⟨c', xs, hb, rfl, rfl, hx⟩ := p
      obtain ⟨x, c3, _, hb3, e3⟩ := one_eq (S := S.set i c') (xs := ls) (set_at hi) hb h0 h1
      rw [List.set_set] at e3
      refine ⟨[some (.obj i), some (.lst (ID ls)), some (.int (most : Nat)), some (.int (k : Nat))], S.set i c', true, S.set i c', rfl, rfl, fun _ => ⟨.int x, S.set i c3, (call_eq (w := mCons (mVar 0) (mCons (mVar 1) mNil)) rfl).trans e3, ?_, c3, xs ++ [x], hb3, rfl, ?_, ?_⟩, fun h => absurd h (by decide)⟩
      · rw [List.length_map]
        exact Nat.lt_of_lt_of_le (show xs.length < 1001 by omega) (sz_ok (by decide))
      · rw [ID_app]
        rfl
      · rw [List.length_append, hx]
        rfl) r 0 (S.set i c1) [] (by omega) ⟨c1, [], hb1, rfl, rfl, rfl⟩
  subst hS2 ha
  refine ⟨xs, c2, by omega, hb2, ?_⟩
  refine fun_eq (T := []) (S1 := S.set i c2) (d := .ftp (ID xs)) rfl ?_ (by unfold retD; rw [if_pos (by rw [List.length_set]; exact Nat.le_refl _)])
  show B_L_text [some (.obj i), some (.lst (ID ls)), some (.int (most : Nat)), none] S = _
  unfold B_L_text
  have f1 := mItR1_eq (n := r) ((cons_eq (w := mNil) ((call_eq (F := F_L_take) (S := S) (ρ := [some (.obj i), some (.lst (ID ls)), some (.int (most : Nat)), none]) (w := mCons (mVar 0) (mCons (mOp dAdd (mVar 2) (mC (.int 1))) mNil)) rfl).trans e1) rfl)) (by omega)
  have f2 : mLc (mItR1 (mCons (mCall F_L_take (mCons (mVar 0) (mCons (mOp dAdd (mVar 2) (mC (.int 1))) mNil))) mNil)) (mName 3) mYes (mCall F_L_one (mCons (mVar 0) (mCons (mVar 1) mNil))) [3] [some (.obj i), some (.lst (ID ls)), some (.int (most : Nat)), none] S = some (.lst (ID xs), S.set i c2) := by
    unfold mLc
    rw [f1, Option.bind_some]
    show ((lcI (tnL (rngD 0 r)) (mName 3) mYes (mCall F_L_one (mCons (mVar 0) (mCons (mVar 1) mNil))) [some (.obj i), some (.lst (ID ls)), some (.int (most : Nat)), none] (rngD 0 r).length 0 (S.set i c1) []).bind _) = _
    rw [rngD_len, e2]
    rfl
  exact ret_eq (cb_eq (cons_eq (w := mNil) (ofL_eq f2) rfl) rfl)
theorem bag_eq (ns : List Int) : ∃ c, BagC c ∧ F_L_bag [.fzl (ID ns)] [] = some (c, []) := by
  have hcut : ∃ cs : List Int, cutX (ID ns) none (some 63) = ID cs ∧ cs.length ≤ 63 := by
    refine ⟨ns.take (min 63 ns.length), ?_, by rw [List.length_take]; omega⟩
    unfold cutX
    rw [show (63 : Int) = ((63 : Nat) : Int) from rfl, HT.sIx_nat, HT.sIx_none, Nat.sub_zero, List.length_map, ID_take]
    rfl
  obtain ⟨cs, ecs, hcs⟩ := hcut
  refine ⟨_, ⟨0, 1234567891, 0, cs.map fun z => if z < 0 then -z else z, rfl, by rw [List.length_map]; exact hcs⟩, ?_⟩
  refine funL_eq (S1 := []) rfl ?_ (Nat.le_refl _)
  show B_L_bag [some (.fzl (ID ns)), none] [] = _
  unfold B_L_bag
  have f0 : mOfL (mSlL (mVar 0) mON (mOS (mC (.int 63)))) [some (.fzl (ID ns)), none] [] = some (.lst (ID cs), []) := by
    rw [← ecs]
    rfl
  have f1 : mItL (mOfL (mSlL (mVar 0) mON (mOS (mC (.int 63))))) [some (.fzl (ID ns)), none] [] = some (tnL (ID cs), (ID cs).length, []) := by
    unfold mItL
    rw [f0]
    rfl
  have f2 := lc_map (S := []) (S1 := []) (ρ := [some (.fzl (ID ns)), none]) (j := 1) (vs := [1]) (fe := mCB bAbs (mCons (mVar 1) mNil)) (g := gI fun z => if z < 0 then -z else z) f1 (by rw [List.length_map]; exact sz_ok (by omega)) (fun x hx => by
    obtain ⟨z, _, rfl⟩ := List.mem_map.mp hx
    rfl)
  rw [map_gI] at f2
  exact retL_eq (lst_eq (cons_eq (f := mC (.int 0)) rfl (cons_eq (f := mC (.int 1234567891)) rfl (cons_eq (f := mC (.int 0)) rfl (cons_eq (w := mNil) (ofL_eq f2) rfl)))) (sz_ok (show 4 ≤ 16000000 by decide)))
end
end K65
namespace K65
open PySem PySem.Spec PyProof.Rows L2 Mi
section
variable {S : Sto}
/-! ### data -/
def ipP (xs : List Int) : List PyData := xs.map PyData.int
def patP (p : PT) : PyData := .tuple [.tuple (ipP p.1), .tuple (ipP p.2)]
def tikP (t : Int × Int) : PyData := .tuple [.int t.1, .int t.2]
theorem py_pD (p : PT) : py S (pD p) = some (patP p) := by
  show pyD (pD p) = _
  simp only [pD, pyD, pyDs, pyDs_ID]
  rfl
theorem py_tD (t : Int × Int) : py S (tD t) = some (tikP t) := by
  show pyD (tD t) = _
  simp only [tD, pyD, pyDs]
  rfl
theorem pyDs_tDs : ∀ ts : List (Int × Int), pyDs (ts.map tD) = some (ts.map tikP)
  | [] => by
    show pyDs [] = _
    simp only [pyDs]
    rfl
  | t :: r => by
    have h := py_tD (S := []) t
    have h' : pyD (tD t) = some (tikP t) := h
    show pyDs (tD t :: r.map tD) = _
    simp only [pyDs, h', pyDs_tDs r]
    rfl
theorem pyDs_pDs : ∀ ps : List PT, pyDs (ps.map pD) = some (ps.map patP)
  | [] => by
    show pyDs [] = _
    simp only [pyDs]
    rfl
  | t :: r => by
    have h := py_pD (S := []) t
    have h' : pyD (pD t) = some (patP t) := h
    show pyDs (pD t :: r.map pD) = _
    simp only [pyDs, h', pyDs_pDs r]
    rfl
def Sm (z : Int) : Prop := 0 ≤ z ∧ z ≤ 1000
theorem tiny_int {z : Int} (h : Sm z) : tiny (.int z) = true := by
  unfold tiny
  rw [Bool.and_eq_true, decide_eq_true_eq, decide_eq_true_eq]
  have := h.1
  have := h.2
  omega
theorem ints_ok : ∀ xs : List Int, (∀ x, x ∈ xs → Sm x) → tinys (ipP xs) = true ∧ PyData.bulkAll (ipP xs) = xs.length ∧ PyData.depthAll (ipP xs) = 0
  | [], _ => by
    show tinys [] = true ∧ PyData.bulkAll [] = 0 ∧ PyData.depthAll [] = 0
    simp only [tinys, PyData.bulkAll, PyData.depthAll, and_self]
  | x :: r, h => by
    obtain ⟨h1, h2, h3⟩ := ints_ok r fun z hz => h z (List.mem_cons_of_mem _ hz)
    show tinys (.int x :: ipP r) = true ∧ PyData.bulkAll (.int x :: ipP r) = r.length + 1 ∧ PyData.depthAll (.int x :: ipP r) = 0
    simp only [tinys, PyData.bulkAll, PyData.depthAll, PyData.bulk, PyData.depth, h1, h2, h3, tiny_int (h x List.mem_cons_self)]
    refine ⟨rfl, ?_, rfl⟩
    omega
def SmP (p : PT) : Prop := (∀ x, x ∈ p.1 → Sm x) ∧ (∀ x, x ∈ p.2 → Sm x) ∧ p.1.length ≤ 1000 ∧ p.2.length ≤ 1000
theorem pat_ok {p : PT} (h : SmP p) : tiny (patP p) = true ∧ (patP p).bulk ≤ 2002 ∧ (patP p).depth ≤ 2 := by
  obtain ⟨h1, h2, h3, h4⟩ := h
  obtain ⟨a1, a2, a3⟩ := ints_ok p.1 h1
  obtain ⟨b1, b2, b3⟩ := ints_ok p.2 h2
  simp only [patP, tiny, tinys, PyData.bulk, PyData.bulkAll, PyData.depth, PyData.depthAll, a1, a2, a3, b1, b2, b3]
  refine ⟨rfl, ?_, by decide⟩
  omega
theorem pat_nice {p : PT} (h : SmP p) : Nice (patP p) := by
  obtain ⟨h1, h2, h3⟩ := pat_ok h
  exact nice_of h1 (by omega) (by omega)
theorem tik_ok {t : Int × Int} (h : Sm t.1 ∧ Sm t.2) : tiny (tikP t) = true ∧ (tikP t).bulk = 2 ∧ (tikP t).depth = 1 := by
  simp only [tikP, tiny, tinys, PyData.bulk, PyData.bulkAll, PyData.depth, PyData.depthAll]
  have e1 := tiny_int h.1
  have e2 := tiny_int h.2
  unfold tiny at e1 e2
  rw [e1, e2]
  exact ⟨by rfl, by trivial, by trivial⟩
theorem tik_nice {t : Int × Int} (h : Sm t.1 ∧ Sm t.2) : Nice (tikP t) := by
  obtain ⟨h1, h2, h3⟩ := tik_ok h
  exact nice_of h1 (by omega) (by omega)
theorem tiks_ok : ∀ ts : List (Int × Int), (∀ t, t ∈ ts → Sm t.1 ∧ Sm t.2) → tinys (ts.map tikP) = true ∧ PyData.bulkAll (ts.map tikP) = 3 * ts.length ∧ PyData.depthAll (ts.map tikP) ≤ 1
  | [], _ => by
    show tinys [] = true ∧ PyData.bulkAll [] = 0 ∧ PyData.depthAll [] ≤ 1
    simp only [tinys, PyData.bulkAll, PyData.depthAll]
    exact ⟨trivial, trivial, by decide⟩
  | t :: r, h => by
    obtain ⟨h1, h2, h3⟩ := tiks_ok r fun z hz => h z (List.mem_cons_of_mem _ hz)
    obtain ⟨g1, g2, g3⟩ := tik_ok (h t List.mem_cons_self)
    show tinys (tikP t :: r.map tikP) = true ∧ PyData.bulkAll (tikP t :: r.map tikP) = 3 * (r.length + 1) ∧ PyData.depthAll (tikP t :: r.map tikP) ≤ 1
    simp only [tinys, PyData.bulkAll, PyData.depthAll, h1, h2, g1, g2, g3]
    refine ⟨rfl, ?_, ?_⟩ <;> omega
theorem tiks_nice {ts : List (Int × Int)} (h : ∀ t, t ∈ ts → Sm t.1 ∧ Sm t.2) (hl : ts.length ≤ 100000) : Nice (.list (ts.map tikP)) := by
  obtain ⟨h1, h2, h3⟩ := tiks_ok ts h
  refine nice_of ?_ ?_ ?_
  · unfold tiny
    exact h1
  · unfold PyData.bulk
    omega
  · unfold PyData.depth
    omega
theorem un_len {l r : List Int} : (un l r).length ≤ l.length + r.length := by
  have := uq_len (l ++ r) []
  rw [List.length_append] at this
  rw [List.length_nil, Nat.zero_add] at this
  exact this
theorem nu_sm {u : List Int} {x : Int} (h : u.length ≤ 1000) : Sm (nu u x) := by
  have : u.idxOf x ≤ u.length := List.idxOf_le_length
  unfold nu Sm
  omega
theorem pat_sm {l r : List Int} (h : l.length + r.length ≤ 900) : SmP (pat l r) := by
  have hu := un_len (l := l) (r := r)
  refine ⟨fun x hx => ?_, fun x hx => ?_, ?_, ?_⟩
  · obtain ⟨z, _, rfl⟩ := List.mem_map.mp hx
    exact nu_sm (by omega)
  · obtain ⟨z, _, rfl⟩ := List.mem_map.mp hx
    exact nu_sm (by omega)
  · show (pt _ _).length ≤ _
    rw [pt_len]
    omega
  · show (pt _ _).length ≤ _
    rw [pt_len]
    omega
theorem tks_sm {n : Nat} (h : n ≤ 50) : ∀ t, t ∈ tks n → Sm t.1 ∧ Sm t.2 := fun t ht => by
  obtain ⟨a, b⟩ := t
  have := mem_tks.mp ht
  unfold Sm
  show (0 ≤ a ∧ a ≤ 1000) ∧ (0 ≤ b ∧ b ≤ 1000)
  omega
theorem tks_len {n : Nat} (h : n ≤ 50) : (tks n).length ≤ 3000 := by
  have h1 := tkp_len n (n + 1)
  have h2 : (n + 1) * (n + 2) ≤ 51 * 52 := Nat.mul_le_mul (by omega) (by omega)
  have : (tks n).length = (tkp n (n + 1)).length := rfl
  omega
/-! ### == of patterns and ticks -/
theorem eqv_ints (a b : List Int) : PyData.eqvAll (ipP a) (ipP b) = decide (a = b) := PySem.W.ked_eqvAll a b
theorem eqv_pat (p q : PT) : PyData.eqv (patP p) (patP q) = decide (p = q) := by
  simp only [patP, PyData.eqv, PyData.eqvAll, eqv_ints]
  rw [Bool.eq_iff_iff]
  simp only [Bool.and_eq_true, decide_eq_true_eq, and_true]
  exact ⟨fun h => Prod.ext h.1 h.2, fun h => by rw [h]; exact ⟨rfl, rfl⟩⟩
theorem eqv_tik (p q : Int × Int) : PyData.eqv (tikP p) (tikP q) = decide (p = q) := by
  simp only [tikP, PyData.eqv, PyData.eqvAll]
  rw [Bool.eq_iff_iff]
  simp only [Bool.and_eq_true, decide_eq_true_eq, and_true, beq_iff_eq]
  exact ⟨fun h => Prod.ext h.1 h.2, fun h => by rw [h]; exact ⟨rfl, rfl⟩⟩
theorem shaped_list {xs : List PyData} (h : tinys xs = true) (hd : PyData.depthAll xs ≤ 63) : SeqAt.shaped (.list xs) = true := by
  have h1 := (tinys_lay h).1
  have e1 : PyData.canLay0 (.list xs) = true := by
    unfold PyData.canLay0
    exact h1
  have e2 : PyData.depth (.list xs) ≤ 64 := by
    unfold PyData.depth
    omega
  unfold SeqAt.shaped
  rw [e1, decide_eq_true e2]
  rfl
theorem inB_obj {x : D} {k : Nat} {ds : List D} {ps : List PyData} {p : PyData} (hx : flatD x = false) (hk : S[k]? = some (.lst ds)) (h1 : pyDs ds = some ps) (h2 : py S x = some p) (h3 : SeqAt.shaped p = true) (h4 : SeqAt.shaped (.list ps) = true) :
    dInB S x (.obj k) = some (ps.any fun z => PyData.eqv z p) := by
  unfold dInB
  rw [seq_obj hk, Option.bind_some, hx, Bool.false_and, if_neg Bool.false_ne_true, rdL_obj hk, Option.bind_some, h1, Option.bind_some, h2, Option.bind_some, h3, h4]
  rfl
theorem in_told {k : Nat} {ts : List (Int × Int)} {t : Int × Int} (hk : S[k]? = some (.lst (ts.map tD))) (hs : ∀ t, t ∈ ts → Sm t.1 ∧ Sm t.2) (ht : t ∈ ts) : dNotIn S (tD t) (.obj k) = some (.bl false) := by
  obtain ⟨h1, h2, h3⟩ := tiks_ok ts hs
  have e := inB_obj (S := S) (x := tD t) rfl hk (pyDs_tDs ts) (py_tD t) (tik_nice (hs t ht)).shaped (shaped_list h1 (by omega))
  have ea : ((ts.map tikP).any fun z => PyData.eqv z (tikP t)) = true := by
    rw [List.any_eq_true]
    exact ⟨tikP t, List.mem_map.mpr ⟨t, ht, rfl⟩, by rw [eqv_tik]; exact decide_eq_true rfl⟩
  unfold dNotIn
  rw [e, ea]
  rfl
theorem pats_ok : ∀ ps : List PT, (∀ p, p ∈ ps → SmP p) → tinys (ps.map patP) = true ∧ PyData.depthAll (ps.map patP) ≤ 2
  | [], _ => by
    show tinys [] = true ∧ PyData.depthAll [] ≤ 2
    simp only [tinys, PyData.depthAll]
    exact ⟨trivial, by decide⟩
  | t :: r, h => by
    obtain ⟨h1, h2⟩ := pats_ok r fun z hz => h z (List.mem_cons_of_mem _ hz)
    obtain ⟨g1, g2, g3⟩ := pat_ok (h t List.mem_cons_self)
    show tinys (patP t :: r.map patP) = true ∧ PyData.depthAll (patP t :: r.map patP) ≤ 2
    simp only [tinys, PyData.depthAll, h1, g1]
    refine ⟨rfl, ?_⟩
    omega
theorem not_met {k : Nat} {ps : List PT} {p : PT} (hk : S[k]? = some (.lst (ps.map pD))) (hs : ∀ p, p ∈ ps → SmP p) (hp : SmP p) (hn : p ∉ ps) : dIn S (pD p) (.obj k) = some (.bl false) := by
  obtain ⟨h1, h2⟩ := pats_ok ps hs
  have e := inB_obj (S := S) (x := pD p) rfl hk (pyDs_pDs ps) (py_pD p) (pat_nice hp).shaped (shaped_list h1 (by omega))
  have ea : ((ps.map patP).any fun z => PyData.eqv z (patP p)) = false := by
    rw [Bool.eq_false_iff]
    intro h
    obtain ⟨z, hz, hq⟩ := List.any_eq_true.mp h
    obtain ⟨q, hq1, rfl⟩ := List.mem_map.mp hz
    rw [eqv_pat] at hq
    exact hn (by rw [← of_decide_eq_true hq]; exact hq1)
  unfold dIn
  rw [e, ea]
  rfl
/-! ### the checks, as tests that are not met -/
theorem check {ρ : Mi.Env} {S1 S2 : Sto} {f h : ME} {a b : D} {p : PyData} (h1 : f ρ S = some (a, S1)) (h2 : h ρ S1 = some (b, S2)) (h3 : py S2 a = some p) (h4 : py S2 b = some p) (hp : Nice p) : mNot (mT (mCall F_L_alike (mCons f (mCons h mNil)))) ρ S = some (false, S2) :=
  not_eq (b := true) (t_eq ((call_eq (cons_eq h1 (cons_eq (w := mNil) h2 rfl))).trans (alike_eq h3 h4 hp)))
end
end K65
namespace K65
open PySem PySem.Spec PyProof.Rows L2 Mi
section
variable {S : Sto} {ρ : Mi.Env}
/-- alike but for the names J -/
def Sam (J : List Nat) (ρ ρ' : Mi.Env) : Prop := ρ'.length = ρ.length ∧ ∀ j, j ∉ J → ρ'[j]? = ρ[j]?
theorem Sam.refl (J : List Nat) : Sam J ρ ρ := ⟨rfl, fun _ _ => rfl⟩
theorem Sam.set {J : List Nat} {ρ' : Mi.Env} (h : Sam J ρ ρ') {j : Nat} {v : Option D} (hj : j ∈ J) : Sam J ρ (ρ'.set j v) :=
  ⟨List.length_set.trans h.1, fun i hi => by
    rw [List.getElem?_set_ne (fun e => hi (by rw [← e]; exact hj))]
    exact h.2 i hi⟩
theorem Sam.get {J : List Nat} {ρ' : Mi.Env} (h : Sam J ρ ρ') {j : Nat} {v : Option (Option D)} (e : ρ[j]? = v) (hj : j ∉ J) : ρ'[j]? = v := (h.2 j hj).trans e
theorem hrow {l r : List Int} (hn : l.length + r.length ≤ 1000) : dAdd S (.ftp (ID l)) (.ftp (ID r)) = some (.ftp (ID (l ++ r))) := by
  rw [ID_app]
  refine if_pos ?_
  rw [List.length_map, List.length_map]
  exact sz_ok (by omega)
theorem mrow {l r : List Int} (h5 : ρ[5]? = some (some (.ftp (ID l)))) (h6 : ρ[6]? = some (some (.ftp (ID r)))) (hn : l.length + r.length ≤ 1000) : mOp dAdd (mVar 5) (mVar 6) ρ S = some (.ftp (ID (l ++ r)), S) :=
  mop_eq (var_eq h5) (var_eq h6) (hrow hn)
theorem letters_eq {c : C} (hl : 3 < ρ.length) (h1 : ρ[1]? = some (some (.obj 0))) (g : Gd S) (hS : S[0]? = some c) (hc : BagC c) : ∃ (ls : List Int) (c' : C), 0 < ls.length ∧ ls.length < 1000 ∧ BagC c' ∧
    mOp dAdd (mCall F_L_alphabet (mCons (mVar 1) mNil)) (mOfL (mLc (mItR1 (mCons (mCall F_L_one (mCons (mVar 1) (mCons (mOfL (mLst (mCons (mC (.int 0)) (mCons (mC (.int 0)) (mCons (mC (.int 3)) (mCons (mC (.int 8)) mNil)))))) mNil))) mNil)) (mName 3) mYes (mOp dAdd (mC (.int 10)) (mVar 3)) [3])) ρ S = some (.lst (ID ls), S.set 0 c') := by
  have hi : 0 < S.length := (List.getElem?_eq_some_iff.mp hS).1
  obtain ⟨zs, c1, h01, h02, hb1, e1⟩ := alphabet_eq g hS hc
  obtain ⟨x, c2, hx, hb2, e2⟩ := one_eq (S := S.set 0 c1) (xs := [0, 0, 3, 8]) (set_at hi) hb1 (by decide) (by decide)
  rw [List.set_set] at e2
  obtain ⟨m, hm, rfl⟩ : ∃ m : Nat, m ≤ 8 ∧ x = (m : Int) := by
    simp only [List.mem_cons, List.not_mem_nil, or_false] at hx
    rcases hx with h | h | h | h <;> exact ⟨x.toNat, by omega, by omega⟩
  have f1 := mItR1_eq (n := m) (cons_eq (w := mNil) ((call_eq (F := F_L_one) (S := S.set 0 c1) (ρ := ρ) (S1 := S.set 0 c1) (as := [.obj 0, .lst (ID [0, 0, 3, 8])]) (cons_eq (f := mVar 1) (var_eq h1) (w := mCons (mOfL (mLst (mCons (mC (.int 0)) (mCons (mC (.int 0)) (mCons (mC (.int 3)) (mCons (mC (.int 8)) mNil)))))) mNil) rfl)).trans e2) rfl) (by omega)
  have f2 := lc_map (j := 3) (vs := [3]) (fe := mOp dAdd (mC (.int 10)) (mVar 3)) (g := gI fun z => 10 + z) f1 (by rw [rngD_len]; exact sz_ok (by omega)) (fun x hx => by
    obtain ⟨i, _, rfl⟩ := mem_rng hx
    refine mop_eq (f := mC (.int 10)) (b := .int (i : Nat)) (z := .int (10 + (i : Int))) rfl (var_eq (j := 3) ?_) rfl
    show ((ρ.set 3 none).set 3 _)[3]? = _
    rw [List.set_set, List.getElem?_set_self hl])
  have er : rngD 0 m = ID ((List.range m).map fun (i : Nat) => (0 + (i : Int))) := by
    unfold rngD
    show _ = ((List.range m).map fun (i : Nat) => (0 + (i : Int))).map D.int
    rw [List.map_map]
    rfl
  rw [er, map_gI] at f2
  refine ⟨zs ++ ((List.range m).map fun (i : Nat) => (0 + (i : Int))).map fun z => 10 + z, c2, by rw [List.length_append]; omega, ?_, hb2, ?_⟩
  · rw [List.length_append, List.length_map, List.length_map, List.length_range]
    omega
  · refine mop_eq ((call_eq (cons_eq (w := mNil) (var_eq h1) rfl)).trans e1) (ofL_eq f2) ?_
    rw [ID_app]
    refine if_pos ?_
    rw [List.length_map, List.length_map, List.length_map, List.length_map, List.length_range]
    exact sz_ok (by omega)
theorem news_eq {l r : List Int} (h5 : ρ[5]? = some (some (.ftp (ID l)))) (h6 : ρ[6]? = some (some (.ftp (ID r)))) (hn : l.length + r.length ≤ 20) (hl : 10 < ρ.length) : ∃ (a b : Int) (rest : List Int), a ∉ l ++ r ∧ b ∉ l ++ r ∧ b ≠ a ∧ rest.length ≤ 30 ∧
    mOfL (mLc (mItR1 (mCons (mC (.int 30)) mNil)) (mName 10) (mT (mOp dNotIn (mVar 10) (mOp dAdd (mVar 5) (mVar 6)))) (mVar 10) [10]) ρ S = some (.lst (ID (a :: b :: rest)), S) := by
  obtain ⟨acc, S2, e2, hS2, ha⟩ := lcI_inv (it := tnL (rngD 0 30)) (gt := mName 10) (tt := mT (mOp dNotIn (mVar 10) (mOp dAdd (mVar 5) (mVar 6)))) (fe := mVar 10) (ρw := mwipe ρ [10]) (n := 30) (fun k => .int (k : Nat))
    (fun k S' acc => S' = S ∧ acc = ID (((List.range k).map fun (i : Nat) => (i : Int)).filter fun z => !decide (z ∈ l ++ r)))
    (fun k S' acc hk _ => by
      show some (rngD 0 30)[k]? = _
      split
      · rename_i h
        have hk2 : k < (rngD 0 30).length := by rw [rngD_len]; exact h
        rw [List.getElem?_eq_getElem hk2, rng_at hk2]
      · rw [List.getElem?_eq_none_iff.mpr (by rw [rngD_len]; omega)])
    (fun k S' acc hk p => by
      obtain ⟨rfl, rfl⟩ := p
      have v10 : (ρ.set 10 (some (.int (k : Nat))))[10]? = some (some (.int (k : Nat))) := List.getElem?_set_self hl
      have v5 : (ρ.set 10 (some (.int (k : Nat))))[5]? = some (some (.ftp (ID l))) := by rw [List.getElem?_set_ne (by decide), h5]
      have v6 : (ρ.set 10 (some (.int (k : Nat))))[6]? = some (some (.ftp (ID r))) := by rw [List.getElem?_set_ne (by decide), h6]
      have ht : mT (mOp dNotIn (mVar 10) (mOp dAdd (mVar 5) (mVar 6))) (ρ.set 10 (some (.int (k : Nat)))) S' = some (!decide ((k : Int) ∈ l ++ r), S') :=
        t_eq (mop_eq (var_eq v10) (mrow v5 v6 (by omega)) (dNotIn_ID rfl))
      have er : (List.range (k + 1)).map (fun (i : Nat) => (i : Int)) = (List.range k).map (fun (i : Nat) => (i : Int)) ++ [(k : Int)] := by
        rw [List.range_succ, List.map_append]
        rfl
      refine ⟨ρ.set 10 (some (.int (k : Nat))), S', _, S', ?_, ht, fun hb => ⟨.int (k : Nat), S', var_eq v10, ?_, rfl, ?_⟩, fun hb => ⟨rfl, ?_⟩⟩
      · show some ((ρ.set 10 none).set 10 _, _) = _
        rw [List.set_set]
      · rw [List.length_map]
        refine Nat.lt_of_le_of_lt (List.length_filter_le _ _) ?_
        rw [List.length_map, List.length_range]
        exact Nat.lt_of_lt_of_le hk (sz_ok (by decide))
      · rw [er, List.filter_append, List.filter_cons_of_pos (p := fun z => !decide (z ∈ l ++ r)) hb, List.filter_nil, ID_app]
        rfl
      · rw [er, List.filter_append, List.filter_cons_of_neg (p := fun z => !decide (z ∈ l ++ r)) (by rw [hb]; decide), List.filter_nil, List.append_nil]) 30 0 S [] rfl ⟨rfl, rfl⟩
  subst hS2
  have nd : ((List.range 30).map fun (i : Nat) => (i : Int)).Nodup := List.Pairwise.map _ (fun a b h e => h (Int.ofNat.inj e)) List.nodup_range
  have hlen : 30 ≤ ((((List.range 30).map fun (i : Nat) => (i : Int)).filter fun z => !decide (z ∈ l ++ r)) ++ (l ++ r)).length := by
    have := nodup_le (m := (((List.range 30).map fun (i : Nat) => (i : Int)).filter fun z => !decide (z ∈ l ++ r)) ++ (l ++ r)) nd fun k hk => by
      by_cases h : k ∈ l ++ r
      · exact List.mem_append_right _ h
      · exact List.mem_append_left _ (List.mem_filter.mpr ⟨hk, by rw [decide_eq_false h]; rfl⟩)
    rwa [List.length_map, List.length_range] at this
  rw [List.length_append, List.length_append] at hlen
  have nf : ((((List.range 30).map fun (i : Nat) => (i : Int)).filter fun z => !decide (z ∈ l ++ r))).Nodup := nd.filter _
  have hmem : ∀ z, z ∈ (((List.range 30).map fun (i : Nat) => (i : Int)).filter fun z => !decide (z ∈ l ++ r)) → z ∉ l ++ r := fun z hz h => by
    have := (List.mem_filter.mp hz).2
    rw [decide_eq_true h] at this
    exact absurd this (by decide)
  have hle : ((((List.range 30).map fun (i : Nat) => (i : Int)).filter fun z => !decide (z ∈ l ++ r))).length ≤ 30 := by
    refine Nat.le_trans (List.length_filter_le _ _) ?_
    rw [List.length_map, List.length_range]
    exact Nat.le_refl _
  generalize ((((List.range 30).map fun (i : Nat) => (i : Int)).filter fun z => !decide (z ∈ l ++ r))) = fs at ha hlen nf hmem hle
  match fs, ha, hlen, nf, hmem, hle with
  | [], _, h, _, _, _ =>
    exfalso
    simp only [List.length_nil] at h
    omega
  | [_], _, h, _, _, _ =>
    exfalso
    simp only [List.length_cons, List.length_nil] at h
    omega
  | a :: b :: rest, ha, _, nf, hmem, hle =>
    refine ⟨a, b, rest, hmem a (by simp), hmem b (by simp), fun e => ?_, ?_, ?_⟩
    · rw [e] at nf
      exact (List.nodup_cons.mp nf).1 List.mem_cons_self
    · simp only [List.length_cons] at hle
      omega
    · refine ofL_eq (c := .lst (ID (a :: b :: rest))) ?_
      unfold mLc
      rw [mItR1_eq (n := 30) (S1 := S2) rfl (by decide), Option.bind_some]
      show ((lcI (tnL (rngD 0 30)) (mName 10) _ (mVar 10) (mwipe ρ [10]) (rngD 0 30).length 0 S2 []).bind _) = _
      rw [rngD_len, e2, ha]
      rfl
theorem dRepL_def {S : Sto} {i : Int} {xs : List D} : dRepL S (.lst xs) (.int i) = if -(2 ^ 63) ≤ i ∧ i < 2 ^ 63 ∧ xs.length * i.toNat ≤ sizeLine then some (.lst (List.replicate i.toNat xs).flatten) else none := rfl
theorem dRep_eq {S : Sto} {i : Int} {xs : List D} (h1 : -(2 ^ 63) ≤ i) (h2 : i < 2 ^ 63) (h : xs.length * i.toNat ≤ sizeLine) : dMul S (.lst xs) (.int i) = some (.lst (List.replicate i.toNat xs).flatten) := by
  have e := dRepL_def (S := S) (i := i) (xs := xs)
  rw [if_pos ⟨h1, h2, h⟩] at e
  have e0 : dMulI S (.lst xs) (.int i) = none := rfl
  unfold dMul
  rw [e0, e]
  rfl
theorem dRepL_eq {S : Sto} {k : Nat} {xs : List D} (h : xs.length * k ≤ sizeLine) (hk : k ≤ 1000) : dMul S (.lst xs) (.int (k : Nat)) = some (.lst (List.replicate k xs).flatten) := by
  have ht : (k : Int).toNat = k := Int.toNat_natCast k
  have := dRep_eq (S := S) (i := (k : Nat)) (xs := xs) (by omega) (by omega) (by rw [ht]; exact h)
  rw [ht] at this
  exact this
theorem names0_eq {l r : List Int} {a b : Int} {rest : List Int} (h5 : ρ[5]? = some (some (.ftp (ID l)))) (h6 : ρ[6]? = some (some (.ftp (ID r)))) (h11 : ρ[11]? = some (some (.lst (ID (a :: b :: rest))))) (hn : l.length + r.length ≤ 20) :
    mOpL dCatL (mOp dMul (mOfL (mLst (mCons (mC .non) mNil))) (mLenSet (mOp dAdd (mVar 5) (mVar 6)))) (mOfL (mSlL (mVar 11) mON (mOS (mC (.int 2))))) ρ S = some (.lst (List.replicate (un l r).length .non ++ [.int a, .int b]), S) := by
  have hu := un_len (l := l) (r := r)
  have e1 : mOp dMul (mOfL (mLst (mCons (mC .non) mNil))) (mLenSet (mOp dAdd (mVar 5) (mVar 6))) ρ S = some (.lst (List.replicate (un l r).length .non), S) := by
    refine mop_eq (f := mOfL (mLst (mCons (mC .non) mNil))) (a := .lst [.non]) rfl (lenSet_eq (mrow h5 h6 (by omega)) (.inr rfl) (by rw [List.length_append]; omega)) ?_
    have e := dRepL_eq (S := S) (xs := [D.non]) (k := (un l r).length) (by rw [List.length_singleton, Nat.one_mul]; exact sz_ok (by omega)) (by omega)
    rw [List.flatten_replicate_singleton] at e
    exact e
  have e2 : mSlL (mVar 11) mON (mOS (mC (.int 2))) ρ S = some (.lst [.int a, .int b], S) := by
    unfold mSlL
    rw [var_eq h11, Option.bind_some]
    show some (C.lst (cutX (ID (a :: b :: rest)) none (some ((2 : Nat) : Int))), S) = _
    unfold cutX
    rw [HT.sIx_nat, HT.sIx_none, Nat.sub_zero, Nat.min_eq_left (by rw [List.length_map, List.length_cons, List.length_cons]; omega)]
    rfl
  unfold mOpL
  rw [e1, Option.bind_some, ofL_eq e2, Option.bind_some]
  have : dCatL S (.lst (List.replicate (un l r).length .non)) (.lst [.int a, .int b]) = some (.lst (List.replicate (un l r).length .non ++ [.int a, .int b])) := by
    refine if_pos ?_
    rw [List.length_replicate]
    exact sz_ok (by show _ + 2 ≤ _; omega)
  show (dCatL S (.lst (List.replicate (un l r).length .non)) (.lst [.int a, .int b])).bind _ = _
  rw [this]
  rfl
/-- each letter's name is found -/
theorem names_loop {l r : List Int} {a b : Int} (h5 : ρ[5]? = some (some (.ftp (ID l)))) (h6 : ρ[6]? = some (some (.ftp (ID r)))) (h8 : ρ[8]? = some (some (pD (pat l r)))) (h12 : ρ[12]? = some (some (.obj S.length))) (hl : 13 < ρ.length) (hn : l.length + r.length ≤ 20) :
    ∃ ρ', Sam [13, 10] ρ ρ' ∧ mFor (mEnumT (mCons (mOp dAdd (mOp dIx (mVar 8) (mC (.int 0))) (mOp dIx (mVar 8) (mC (.int 1)))) mNil)) (mTg 2 (mgCons (mName 13) (mgCons (mName 10) mgNil))) (mAsg (mOp dIx (mOp dAdd (mVar 5) (mVar 6)) (mVar 13)) (mSetL (mVar 12) (mVar 10)))
      ρ (S ++ [.lst (List.replicate (un l r).length .non ++ [.int a, .int b])]) = some (.nx ρ', S ++ [.lst (ID (nam l r a b))]) := by
  have nd : (un l r).Nodup := nodup_uq _ _ List.nodup_nil
  have e0 : mOp dAdd (mOp dIx (mVar 8) (mC (.int 0))) (mOp dIx (mVar 8) (mC (.int 1))) ρ (S ++ [.lst (List.replicate (un l r).length .non ++ [.int a, .int b])]) = some (.ftp (ID (pt (un l r) (l ++ r))), S ++ [.lst (List.replicate (un l r).length .non ++ [.int a, .int b])]) :=
    mop_eq (mop_eq (var_eq h8) (h := mC (.int 0)) rfl (pD_0 _)) (mop_eq (var_eq h8) (h := mC (.int 1)) rfl (pD_1 _)) (row_eq (by omega))
  have hlen : (pt (un l r) (l ++ r)).length = (l ++ r).length := pt_len _ _
  obtain ⟨ρ2, S2, e, hs, L, rfl, hL, hLn, hLa, hLb⟩ := forI_inv (it := mEnumT.tnE (ID (pt (un l r) (l ++ r)))) (gt := mTg 2 (mgCons (mName 13) (mgCons (mName 10) mgNil))) (body := mAsg (mOp dIx (mOp dAdd (mVar 5) (mVar 6)) (mVar 13)) (mSetL (mVar 12) (mVar 10))) (n := (l ++ r).length)
    (fun i => .tup [.int (i : Nat), .int (nu (un l r) ((l ++ r).getD i 0))])
    (fun i ρ' S' => Sam [13, 10] ρ ρ' ∧ ∃ L : List D, S' = S ++ [C.lst L] ∧ L.length = (un l r).length + 2 ∧ (∀ j (hj : j < (un l r).length), (un l r)[j] ∈ (l ++ r).take i → L[j]? = some (.int (un l r)[j])) ∧ L[(un l r).length]? = some (.int a) ∧ L[(un l r).length + 1]? = some (.int b))
    (fun i ρ' S' hi _ => by
      show some ((ID (pt (un l r) (l ++ r)))[i]?.map fun d => D.tup [.int i, d]) = _
      unfold pt
      rw [List.getElem?_map, List.getElem?_map]
      split
      · rename_i h
        rw [List.getElem?_eq_getElem h, List.getD_eq_getElem?_getD, List.getElem?_eq_getElem h]
        rfl
      · rw [List.getElem?_eq_none_iff.mpr (by omega)]
        rfl)
    (fun i ρ' S' hi p => by
      obtain ⟨hs, L, rfl, hL, hLn, hLa, hLb⟩ := p
      have hd : (l ++ r).getD i 0 = (l ++ r)[i] := by rw [List.getD_eq_getElem?_getD, List.getElem?_eq_getElem hi]; rfl
      have hm : (l ++ r)[i] ∈ un l r := mem_un.mpr (List.getElem_mem hi)
      have hix := List.idxOf_lt_length_of_mem hm
      have hs1 : Sam [13, 10] ρ ((ρ'.set 13 (some (.int (i : Nat)))).set 10 (some (.int (nu (un l r) (l ++ r)[i])))) := (hs.set (by simp)).set (by simp)
      have l1 : 13 < ρ'.length := by rw [hs.1]; exact hl
      have v13 : ((ρ'.set 13 (some (.int (i : Nat)))).set 10 (some (.int (nu (un l r) (l ++ r)[i]))))[13]? = some (some (.int (i : Nat))) := by
        rw [List.getElem?_set_ne (by decide), List.getElem?_set_self l1]
      have v10 : ((ρ'.set 13 (some (.int (i : Nat)))).set 10 (some (.int (nu (un l r) (l ++ r)[i]))))[10]? = some (some (.int (nu (un l r) (l ++ r)[i]))) := by
        rw [List.getElem?_set_self (by rw [List.length_set]; omega)]
      refine ⟨_, S ++ [.lst L], (ρ'.set 13 (some (.int (i : Nat)))).set 10 (some (.int (nu (un l r) (l ++ r)[i]))), S ++ [.lst (L.set ((un l r).idxOf (l ++ r)[i]) (.int (l ++ r)[i]))], rfl, ?_, hs1, _, rfl, by rw [List.length_set]; exact hL, fun j hj hjm => ?_, ?_, ?_⟩
      · rw [hd]
        refine asg_eq (mop_eq (mrow (hs1.get h5 (by decide)) (hs1.get h6 (by decide)) (by omega)) (var_eq v13) (dIx_ID (xs := ID (l ++ r)) (v := .int (l ++ r)[i]) rfl (fun z e => by cases e) ?_)) ?_
        · rw [List.getElem?_map, List.getElem?_eq_getElem hi]
          rfl
        · unfold mSetL
          rw [var_eq (hs1.get h12 (by decide)), Option.bind_some, var_eq v10, Option.bind_some]
          have hx : ixN L.length (((un l r).idxOf (l ++ r)[i] : Nat) : Int) = some ((un l r).idxOf (l ++ r)[i]) := by
            unfold ixN
            rw [if_pos (by omega), if_pos (by omega)]
            rfl
          show ((cellL (S ++ [C.lst L]) (.obj S.length)).bind fun x => (ixN x.2.length (nu (un l r) (l ++ r)[i])).bind fun j => some (_, (S ++ [C.lst L]).set x.1 (C.lst (x.2.set j (.int (l ++ r)[i]))))) = _
          rw [cellL_obj at_last, Option.bind_some]
          show ((ixN L.length (((un l r).idxOf (l ++ r)[i] : Nat) : Int)).bind _) = _
          rw [hx, Option.bind_some, set_last]
      · by_cases e : j = (un l r).idxOf (l ++ r)[i]
        · subst e
          rw [List.getElem?_set_self (by omega), List.getElem_idxOf hix]
        · rw [List.getElem?_set_ne (Ne.symm e)]
          refine hLn j hj ?_
          rw [List.take_add_one, List.getElem?_eq_getElem hi] at hjm
          rcases List.mem_append.mp hjm with q | q
          · exact q
          · have : (un l r)[j] = (l ++ r)[i] := List.mem_singleton.mp q
            exact absurd (by rw [← this]; exact (nd.idxOf_getElem j hj).symm) e
      · rw [List.getElem?_set_ne (by omega)]
        exact hLa
      · rw [List.getElem?_set_ne (by omega)]
        exact hLb)
    (l ++ r).length 0 ρ (S ++ [.lst (List.replicate (un l r).length .non ++ [.int a, .int b])]) rfl
    ⟨Sam.refl _, _, rfl, by rw [List.length_append, List.length_replicate]; rfl, fun j hj h => (by rw [List.take_zero] at h; exact (List.not_mem_nil h).elim), by
      rw [List.getElem?_append_right (by rw [List.length_replicate]; exact Nat.le_refl _), List.length_replicate, Nat.sub_self]
      rfl, by
      rw [List.getElem?_append_right (by rw [List.length_replicate]; exact Nat.le_succ _), List.length_replicate, show (un l r).length + 1 - (un l r).length = 1 by omega]
      rfl⟩
  have eL : L = ID (nam l r a b) := by
    refine List.ext_getElem? fun j => ?_
    unfold nam
    rw [ID_app]
    by_cases h1 : j < (un l r).length
    · rw [List.getElem?_append_left (by rw [List.length_map]; exact h1), hLn j h1 (by rw [List.take_length]; exact mem_un.mp (List.getElem_mem h1)), List.getElem?_map, List.getElem?_eq_getElem h1]
      rfl
    · rw [List.getElem?_append_right (by rw [List.length_map]; omega), List.length_map]
      by_cases h2 : j = (un l r).length
      · rw [h2, hLa, Nat.sub_self]
        rfl
      · by_cases h3 : j = (un l r).length + 1
        · rw [h3, hLb, show (un l r).length + 1 - (un l r).length = 1 by omega]
          rfl
        · rw [List.getElem?_eq_none_iff.mpr (by omega), List.getElem?_eq_none_iff.mpr (by show 2 ≤ _; omega)]
  rw [eL] at e
  refine ⟨ρ2, hs, ?_⟩
  have f1 : mEnumT (mCons (mOp dAdd (mOp dIx (mVar 8) (mC (.int 0))) (mOp dIx (mVar 8) (mC (.int 1)))) mNil) ρ (S ++ [.lst (List.replicate (un l r).length .non ++ [.int a, .int b])]) = some (mEnumT.tnE (ID (pt (un l r) (l ++ r))), (l ++ r).length, S ++ [.lst (List.replicate (un l r).length .non ++ [.int a, .int b])]) := by
    unfold mEnumT
    rw [cons_eq (w := mNil) e0 rfl, Option.bind_some]
    show some (mEnumT.tnE (ID (pt (un l r) (l ++ r))), (ID (pt (un l r) (l ++ r))).length, _) = _
    rw [List.length_map, hlen]
  exact for_eq f1 e
end
end K65
namespace K65
open PySem PySem.Spec PyProof.Rows L2 Mi
section
variable {S : Sto} {ρ : Mi.Env}
theorem add_one {xs : List Int} {v : Int} (hn : xs.length ≤ 1000) : ∃ z, dAdd S (.ftp (ID xs)) (.tup [.int v]) = some z ∧ TupV z (ID (xs ++ [v])) := by
  obtain ⟨z, e, h⟩ := TupV.add (S := S) (x := .ftp (ID xs)) (y := .tup [.int v]) (.inr rfl) (.inl rfl) (by rw [List.length_map]; exact sz_ok (by show _ + 1 ≤ _; omega))
  rw [ID_app]
  exact ⟨z, e, h⟩
theorem m_longer {xs : List Int} {v : Int} {j : Nat} {f : ME} (hj : ρ[j]? = some (some (.ftp (ID xs)))) (hf : f ρ S = some (.int v, S)) (hn : xs.length ≤ 1000) : ∃ z, mOp dAdd (mVar j) (mTup (mCons f mNil)) ρ S = some (z, S) ∧ TupV z (ID (xs ++ [v])) := by
  obtain ⟨z, e, h⟩ := add_one (S := S) (v := v) hn
  exact ⟨z, mop_eq (var_eq hj) (tup_eq (cons_eq (w := mNil) hf rfl) (sz_ok (show 1 ≤ 16000000 by decide))) e, h⟩
def bTold : MS := (mSeq (mAsg (mTup (mCons (mOp dAdd (mVar 5) (mTup (mCons (mOp dIx (mVar 12) (mVar 15)) mNil))) (mCons (mOp dAdd (mVar 6) (mTup (mCons (mOp dIx (mVar 12) (mVar 16)) mNil))) mNil))) (mName 17))
  (mSeq (mIfS (mNot (mT (mCall F_L_alike (mCons (mCall F_tick_of (mCons (mVar 5) (mCons (mVar 6) (mCons (mOp dIx (mVar 12) (mVar 15)) (mCons (mOp dIx (mVar 12) (mVar 16)) mNil))))) (mCons (mTup (mCons (mVar 15) (mCons (mVar 16) mNil))) mNil))))) (mRet (mC (.bl false))) mSkip)
  (mSeq (mAsg (mCall F_grown (mCons (mVar 8) (mCons (mTup (mCons (mVar 15) (mCons (mVar 16) mNil))) mNil))) (mName 18))
  (mSeq (mIfS (mOr (mNot (mT (mCall F_L_alike (mCons (mVar 18) (mCons (mCall F_L_pattern (mCons (mOp dIx (mVar 17) (mC (.int 0))) (mCons (mOp dIx (mVar 17) (mC (.int 1))) mNil))) mNil))))) (mT (mOp dIn (mVar 18) (mVar 14)))) (mRet (mC (.bl false))) mSkip)
  (mExpr (mMeth lAppend (mVar 14) (mCons (mVar 18) mNil)))))))
theorem told_body {l r : List Int} {a b u v : Int} {x y k : Nat} {ps : List PT} (h5 : ρ[5]? = some (some (.ftp (ID l)))) (h6 : ρ[6]? = some (some (.ftp (ID r)))) (h8 : ρ[8]? = some (some (pD (pat l r)))) (h12 : ρ[12]? = some (some (.obj k))) (h14 : ρ[14]? = some (some (.obj S.length)))
    (h15 : ρ[15]? = some (some (.int (x : Nat)))) (h16 : ρ[16]? = some (some (.int (y : Nat)))) (hl : ρ.length = 22) (hn : l.length + r.length ≤ 20) (g : Gd S) (hk : S[k]? = some (.lst (ID (nam l r a b))))
    (ha : a ∉ l ++ r) (hb : b ∉ l ++ r) (hab : b ≠ a) (ht : ((x : Int), (y : Int)) ∈ tks (un l r).length) (hu : (nam l r a b)[x]? = some u) (hv : (nam l r a b)[y]? = some v) (hs : ∀ p, p ∈ ps → SmP p) (hp : pat (l ++ [u]) (r ++ [v]) ∉ ps) (hz : ps.length ≤ 10000) :
    ∃ ρ', Sam [17, 18] ρ ρ' ∧ bTold ρ (S ++ [.lst (ps.map pD)]) = some (.nx ρ', S ++ [.lst ((ps ++ [pat (l ++ [u]) (r ++ [v])]).map pD)]) := by
  have hkl : k < S.length := (List.getElem?_eq_some_iff.mp hk).1
  have hk' : (S ++ [C.lst (ps.map pD)])[k]? = some (.lst (ID (nam l r a b))) := by rw [List.getElem?_append_left hkl]; exact hk
  have bps : ∀ ps : List PT, belows 0 (ps.map pD) = true := fun ps => by
    induction ps with
    | nil =>
      show belows 0 [] = true
      unfold belows
      rfl
    | cons p r ih =>
      show belows 0 (pD p :: r.map pD) = true
      unfold belows
      rw [below_pD, ih]
      rfl
  have g' : Gd (S ++ [C.lst (ps.map pD)]) := g.add (bps ps)
  generalize hT : S ++ [C.lst (ps.map pD)] = T at hk' g'
  have hT14 : T[S.length]? = some (.lst (ps.map pD)) := by rw [← hT]; exact at_last
  have et : tk l r u v = ((x : Int), (y : Int)) := tk_nam ha hb hab ht u v hu hv
  have rdN : ∀ {ρ' : Mi.Env} {j : Nat} {i : Nat} {w : Int}, ρ'[12]? = some (some (.obj k)) → ρ'[j]? = some (some (.int (i : Nat))) → (nam l r a b)[i]? = some w → mOp dIx (mVar 12) (mVar j) ρ' T = some (.int w, T) := fun {ρ' j i w} q1 q2 q3 =>
    mop_eq (var_eq q1) (var_eq q2) (dIx_ID (xs := ID (nam l r a b)) (seq_obj hk') (fun z e => by cases e) (by rw [List.getElem?_map, q3]; rfl))
  obtain ⟨z1, m1, t1⟩ := m_longer (S := T) h5 (rdN h12 h15 hu) (by omega)
  obtain ⟨z2, m2, t2⟩ := m_longer (S := T) h6 (rdN h12 h16 hv) (by omega)
  have s1 : Sam [17, 18] ρ (ρ.set 17 (some (.tup [z1, z2]))) := (Sam.refl _).set (by simp)
  have mt : ∀ {ρ' : Mi.Env}, ρ'[15]? = some (some (.int (x : Nat))) → ρ'[16]? = some (some (.int (y : Nat))) → mTup (mCons (mVar 15) (mCons (mVar 16) mNil)) ρ' T = some (tD ((x : Int), (y : Int)), T) := fun q1 q2 =>
    tup_eq (cons_eq (var_eq q1) (cons_eq (w := mNil) (var_eq q2) rfl)) sz2
  have c1 := check (S := T) (ρ := ρ.set 17 (some (.tup [z1, z2]))) (f := mCall F_tick_of (mCons (mVar 5) (mCons (mVar 6) (mCons (mOp dIx (mVar 12) (mVar 15)) (mCons (mOp dIx (mVar 12) (mVar 16)) mNil))))) (h := mTup (mCons (mVar 15) (mCons (mVar 16) mNil)))
    ((call_eq (cons_eq (var_eq (s1.get h5 (by decide))) (cons_eq (var_eq (s1.get h6 (by decide))) (cons_eq (rdN (s1.get h12 (by decide)) (s1.get h15 (by decide)) hu) (cons_eq (w := mNil) (rdN (s1.get h12 (by decide)) (s1.get h16 (by decide)) hv) rfl))))).trans (tick_of_eq (.inr rfl) (.inr rfl) g' (by omega)))
    (mt (s1.get h15 (by decide)) (s1.get h16 (by decide))) (p := tikP ((x : Int), (y : Int))) (by rw [et]; exact py_tD _) (py_tD _) (tik_nice (tks_sm (n := (un l r).length) (by have := un_len (l := l) (r := r); omega) _ ht))
  have hgr : mCall F_grown (mCons (mVar 8) (mCons (mTup (mCons (mVar 15) (mCons (mVar 16) mNil))) mNil)) (ρ.set 17 (some (.tup [z1, z2]))) T = some (pD (pat (l ++ [u]) (r ++ [v])), T) := by
    refine (call_eq (cons_eq (var_eq (s1.get h8 (by decide))) (cons_eq (w := mNil) (mt (s1.get h15 (by decide)) (s1.get h16 (by decide))) rfl))).trans ?_
    have hge := grown_eq (S := T) (p := pat l r) (t := ((x : Int), (y : Int))) g' (by
      show (pt _ _).length + (pt _ _).length ≤ _
      rw [pt_len, pt_len]
      omega)
    have := pat_grown l r u v
    rw [et] at this
    rw [this] at hge
    exact hge
  have s2 : Sam [17, 18] ρ ((ρ.set 17 (some (.tup [z1, z2]))).set 18 (some (pD (pat (l ++ [u]) (r ++ [v]))))) := s1.set (by simp)
  have v17 : ((ρ.set 17 (some (.tup [z1, z2]))).set 18 (some (pD (pat (l ++ [u]) (r ++ [v])))))[17]? = some (some (.tup [z1, z2])) := by
    rw [List.getElem?_set_ne (by decide), List.getElem?_set_self (by omega)]
  have v18 : ((ρ.set 17 (some (.tup [z1, z2]))).set 18 (some (pD (pat (l ++ [u]) (r ++ [v])))))[18]? = some (some (pD (pat (l ++ [u]) (r ++ [v])))) := by
    rw [List.getElem?_set_self (by rw [List.length_set]; omega)]
  have hsm : SmP (pat (l ++ [u]) (r ++ [v])) := pat_sm (by rw [List.length_append, List.length_append]; show _ + 1 + (_ + 1) ≤ _; omega)
  have c2 := check (S := T) (f := mVar 18) (h := mCall F_L_pattern (mCons (mOp dIx (mVar 17) (mC (.int 0))) (mCons (mOp dIx (mVar 17) (mC (.int 1))) mNil))) (var_eq v18)
    ((call_eq (cons_eq (mop_eq (var_eq v17) (h := mC (.int 0)) rfl (z := z1) rfl) (cons_eq (w := mNil) (mop_eq (var_eq v17) (h := mC (.int 1)) rfl (z := z2) rfl) rfl))).trans (L_pattern_eq t1 t2 g' (by rw [List.length_append, List.length_append]; show _ + 1 + (_ + 1) ≤ _; omega)))
    (py_pD _) (py_pD _) (pat_nice hsm)
  have c3 := t_eq (mop_eq (S := T) (var_eq v18) (var_eq (s2.get h14 (by decide))) (not_met hT14 hs hsm hp))
  have m4 := meth_eq (S := T) (F := lAppend) (var_eq (s2.get h14 (by decide))) (cellL_obj hT14) (cons_eq (w := mNil) (var_eq v18) rfl) (cellL_obj hT14) (lAppend_eq (by rw [List.length_map]; exact Nat.lt_of_le_of_lt hz (by have := sz_ok (n := 10001) (by decide); omega)))
  refine ⟨_, s2, ?_⟩
  unfold bTold
  rw [seq_nx (set_eq (tup_eq (cons_eq m1 (cons_eq (w := mNil) m2 rfl)) sz2)), seq_nx ((ifs_f c1).trans rfl), seq_nx (set_eq hgr), seq_nx ((ifs_f ((or_f c2).trans c3)).trans rfl), expr_eq m4, ← hT, set_last, List.map_append]
  rfl
theorem not_take {α : Type} : ∀ {xs : List α} {i : Nat} (h : i < xs.length), xs.Nodup → xs[i] ∉ xs.take i
  | [], i, h, _ => absurd h (Nat.not_lt_zero i)
  | x :: xs, 0, h, _ => by
    rw [List.take_zero]
    exact List.not_mem_nil
  | x :: xs, i + 1, h, nd => by
    obtain ⟨n1, n2⟩ := List.nodup_cons.mp nd
    rw [List.take_succ_cons, List.getElem_cons_succ]
    intro q
    rcases List.mem_cons.mp q with z | z
    · exact n1 (by rw [← z]; exact List.getElem_mem _)
    · exact not_take (Nat.lt_of_succ_lt_succ h) n2 z
def namAt (l r : List Int) (a b : Int) (z : Int) : Int := (nam l r a b).getD z.toNat 0
def ptAt (l r : List Int) (a b : Int) (t : Int × Int) : PT := pat (l ++ [namAt l r a b t.1]) (r ++ [namAt l r a b t.2])
theorem nam_len (l r : List Int) (a b : Int) : (nam l r a b).length = (un l r).length + 2 := by
  unfold nam
  rw [List.length_append]
  rfl
theorem tk_at {l r : List Int} {a b : Int} (ha : a ∉ l ++ r) (hb : b ∉ l ++ r) (hab : b ≠ a) {t : Int × Int} (ht : t ∈ tks (un l r).length) : ∃ (x y : Nat), t = ((x : Int), (y : Int)) ∧ (nam l r a b)[x]? = some (namAt l r a b t.1) ∧ (nam l r a b)[y]? = some (namAt l r a b t.2) := by
  obtain ⟨p, q⟩ := t
  have h := mem_tks.mp ht
  refine ⟨p.toNat, q.toNat, ?_, ?_, ?_⟩
  · rw [Int.toNat_of_nonneg h.1, Int.toNat_of_nonneg h.2.2.1]
  all_goals
    unfold namAt
    rw [List.getD_eq_getElem?_getD, List.getElem?_eq_getElem (by rw [nam_len]; show _ < _; omega)]
    rfl
theorem told_loop {l r : List Int} {a b : Int} {k kt : Nat} (h5 : ρ[5]? = some (some (.ftp (ID l)))) (h6 : ρ[6]? = some (some (.ftp (ID r)))) (h8 : ρ[8]? = some (some (pD (pat l r)))) (h9 : ρ[9]? = some (some (.obj kt))) (h12 : ρ[12]? = some (some (.obj k))) (h14 : ρ[14]? = some (some (.obj S.length)))
    (hl : ρ.length = 22) (hn : l.length + r.length ≤ 20) (g : Gd S) (hk : S[k]? = some (.lst (ID (nam l r a b)))) (hkt : S[kt]? = some (.lst ((tks (un l r).length).map tD))) (ha : a ∉ l ++ r) (hb : b ∉ l ++ r) (hab : b ≠ a) :
    ∃ ρ' c, Sam [15, 16, 17, 18] ρ ρ' ∧ C.below 0 c = true ∧ mFor (mItL (mVar 9)) (mTg 2 (mgCons (mName 15) (mgCons (mName 16) mgNil))) bTold ρ (S ++ [.lst []]) = some (.nx ρ', S ++ [c]) := by
  have hu := un_len (l := l) (r := r)
  have htl : ∀ (c : C), (S ++ [c])[kt]? = some (.lst ((tks (un l r).length).map tD)) := fun c => by
    rw [List.getElem?_append_left (List.getElem?_eq_some_iff.mp hkt).1]
    exact hkt
  obtain ⟨ρ2, S2, e, hs, hS2⟩ := forI_inv (it := tnC kt) (gt := mTg 2 (mgCons (mName 15) (mgCons (mName 16) mgNil))) (body := bTold) (n := (tks (un l r).length).length) (fun i => tD ((tks (un l r).length).getD i (0, 0)))
    (fun i ρ' S' => Sam [15, 16, 17, 18] ρ ρ' ∧ S' = S ++ [.lst ((((tks (un l r).length).take i).map (ptAt l r a b)).map pD)])
    (fun i ρ' S' hi p => by
      obtain ⟨_, rfl⟩ := p
      show (match (S ++ [C.lst _])[kt]? with | some (.lst ds) => some ds[i]? | _ => none) = _
      rw [htl]
      show some ((tks (un l r).length).map tD)[i]? = _
      rw [List.getElem?_map]
      split
      · rename_i h
        rw [List.getElem?_eq_getElem h, List.getD_eq_getElem?_getD, List.getElem?_eq_getElem h]
        rfl
      · rw [List.getElem?_eq_none_iff.mpr (by omega)]
        rfl)
    (fun i ρ' S' hi p => by
      obtain ⟨hs, rfl⟩ := p
      have hd : (tks (un l r).length).getD i (0, 0) = (tks (un l r).length)[i] := by rw [List.getD_eq_getElem?_getD, List.getElem?_eq_getElem hi]; rfl
      have hti : (tks (un l r).length)[i] ∈ tks (un l r).length := List.getElem_mem hi
      obtain ⟨x, y, et, q1, q2⟩ := tk_at ha hb hab hti
      have hs1 : Sam [15, 16, 17, 18] ρ ((ρ'.set 15 (some (.int (x : Nat)))).set 16 (some (.int (y : Nat)))) := (hs.set (by simp)).set (by simp)
      have l1 : ρ'.length = 22 := hs.1.trans hl
      have hnot : ptAt l r a b (tks (un l r).length)[i] ∉ ((tks (un l r).length).take i).map (ptAt l r a b) := fun h => by
        obtain ⟨t, ht, e⟩ := List.mem_map.mp h
        have htm := List.mem_of_mem_take ht
        obtain ⟨x', y', et', q1', q2'⟩ := tk_at ha hb hab htm
        have k1 := tk_nam ha hb hab (by rw [← et]; exact hti) _ _ q1 q2
        have k2 := tk_nam ha hb hab (by rw [← et']; exact htm) _ _ q1' q2'
        have k3 : tkOf (ptAt l r a b t) = tkOf (ptAt l r a b (tks (un l r).length)[i]) := by rw [e]
        unfold ptAt at k3
        rw [tkOf_pat, tkOf_pat, k1, k2, ← et, ← et'] at k3
        exact not_take hi (nodup_tks _) (by rw [← k3]; exact ht)
      have hb1 := told_body (S := S) (ρ := (ρ'.set 15 (some (.int (x : Nat)))).set 16 (some (.int (y : Nat)))) (x := x) (y := y) (k := k) (a := a) (b := b) (u := namAt l r a b (tks (un l r).length)[i].1) (v := namAt l r a b (tks (un l r).length)[i].2) (ps := ((tks (un l r).length).take i).map (ptAt l r a b))
        (hs1.get h5 (by decide)) (hs1.get h6 (by decide)) (hs1.get h8 (by decide)) (hs1.get h12 (by decide)) (hs1.get h14 (by decide)) (by rw [List.getElem?_set_ne (by decide), List.getElem?_set_self (by omega)]) (by rw [List.getElem?_set_self (by rw [List.length_set]; omega)])
        (by rw [List.length_set, List.length_set]; exact l1) hn g hk ha hb hab (by rw [← et]; exact hti) q1 q2
        (fun p hp => by
          obtain ⟨t, _, rfl⟩ := List.mem_map.mp hp
          exact pat_sm (by rw [List.length_append, List.length_append]; show _ + 1 + (_ + 1) ≤ _; omega)) hnot
        (by
          rw [List.length_map, List.length_take]
          have := tks_len (n := (un l r).length) (by omega)
          omega)
      obtain ⟨ρ3, hs3, e3⟩ := hb1
      refine ⟨_, S ++ [.lst ((((tks (un l r).length).take i).map (ptAt l r a b)).map pD)], ρ3, _, ?_, e3, ⟨hs3.1.trans hs1.1, fun j hj => (hs3.2 j (fun z => hj (by simp at z ⊢; omega))).trans (hs1.2 j hj)⟩, ?_⟩
      · rw [hd, et]
        rfl
      · rw [List.take_add_one, List.getElem?_eq_getElem hi, List.map_append (f := ptAt l r a b)]
        rfl)
    (tks (un l r).length).length 0 ρ (S ++ [.lst []]) rfl ⟨Sam.refl _, rfl⟩
  refine ⟨ρ2, .lst ((((tks (un l r).length).take (tks (un l r).length).length).map (ptAt l r a b)).map pD), hs, ?_, ?_⟩
  rotate_left
  · have f1 : mItL (mVar 9) ρ (S ++ [.lst []]) = some (tnC kt, (tks (un l r).length).length, S ++ [.lst []]) := by
      unfold mItL
      rw [var_eq h9, Option.bind_some]
      show (match (S ++ [C.lst []])[kt]? with | some (.lst ds) => some (tnC kt, ds.length, S ++ [C.lst []]) | _ => none) = _
      rw [htl]
      show some (tnC kt, ((tks (un l r).length).map tD).length, S ++ [C.lst []]) = _
      rw [List.length_map]
    rw [for_eq f1 e, hS2]
  · show belows 0 _ = true
    generalize (((tks (un l r).length).take (tks (un l r).length).length).map (ptAt l r a b)) = ps
    induction ps with
    | nil =>
      show belows 0 [] = true
      unfold belows
      rfl
    | cons p r ih =>
      show belows 0 (pD p :: r.map pD) = true
      unfold belows
      rw [below_pD, ih]
      rfl
end
end K65
namespace K65
open PySem PySem.Spec PyProof.Rows L2 Mi
section
variable {S : Sto} {ρ : Mi.Env}
/-! ### drawn letters -/
def bDraw : MS := (mSeq (mPar2 15 16 (mCons (mCall F_L_one (mCons (mVar 1) (mCons (mOp dAdd (mVar 4) (mVar 11)) mNil))) (mCons (mCall F_L_one (mCons (mVar 1) (mCons (mOp dAdd (mVar 4) (mVar 11)) mNil))) mNil)))
  (mSeq (mAsg (mCall F_tick_of (mCons (mVar 5) (mCons (mVar 6) (mCons (mVar 15) (mCons (mVar 16) mNil))))) (mName 19))
  (mSeq (mIfS (mOr (mNot (mT (mCall F_L_alike (mCons (mVar 19) (mCons (mCall F_L_tick (mCons (mVar 5) (mCons (mVar 6) (mCons (mVar 15) (mCons (mVar 16) mNil))))) mNil))))) (mT (mOp dNotIn (mVar 19) (mVar 9)))) (mRet (mC (.bl false))) mSkip)
  (mIfS (mNot (mT (mCall F_L_alike (mCons (mCall F_grown (mCons (mVar 7) (mCons (mVar 19) mNil))) (mCons (mCall F_L_pattern (mCons (mOp dAdd (mVar 5) (mTup (mCons (mVar 15) mNil))) (mCons (mOp dAdd (mVar 6) (mTup (mCons (mVar 16) mNil))) mNil))) mNil))))) (mRet (mC (.bl false))) mSkip))))
theorem draw_body {l r ls nw : List Int} {kt : Nat} {c : C} (h1 : ρ[1]? = some (some (.obj 0))) (h4 : ρ[4]? = some (some (.lst (ID ls)))) (h11 : ρ[11]? = some (some (.lst (ID nw)))) (h5 : ρ[5]? = some (some (.ftp (ID l)))) (h6 : ρ[6]? = some (some (.ftp (ID r)))) (h7 : ρ[7]? = some (some (pD (pat l r)))) (h9 : ρ[9]? = some (some (.obj kt)))
    (hl : ρ.length = 22) (hn : l.length + r.length ≤ 20) (g : Gd S) (hS : S[0]? = some c) (hc : BagC c) (hkt : S[kt]? = some (.lst ((tks (un l r).length).map tD))) (hk0 : kt ≠ 0) (hls : 0 < ls.length ∧ ls.length < 1000) (hnw : nw.length ≤ 1000) :
    ∃ ρ' c', Sam [15, 16, 19] ρ ρ' ∧ BagC c' ∧ bDraw ρ S = some (.nx ρ', S.set 0 c') := by
  have h0 : 0 < S.length := (List.getElem?_eq_some_iff.mp hS).1
  have eadd : ∀ T : Sto, mOp dAdd (mVar 4) (mVar 11) ρ T = some (.lst (ID (ls ++ nw)), T) := fun T => mop_eq (var_eq h4) (var_eq h11) (by
    rw [ID_app]
    refine if_pos ?_
    rw [List.length_map, List.length_map]
    exact sz_ok (by omega))
  obtain ⟨u, c1, _, hb1, e1⟩ := one_eq (S := S) (xs := ls ++ nw) hS hc (by rw [List.length_append]; omega) (by rw [List.length_append]; omega)
  obtain ⟨v, c2, _, hb2, e2⟩ := one_eq (S := S.set 0 c1) (xs := ls ++ nw) (set_at h0) hb1 (by rw [List.length_append]; omega) (by rw [List.length_append]; omega)
  rw [List.set_set] at e2
  have g2 : Gd (S.set 0 c2) := g.set (below_bag hb2)
  have hkt2 : (S.set 0 c2)[kt]? = some (.lst ((tks (un l r).length).map tD)) := by rw [List.getElem?_set_ne (Ne.symm hk0)]; exact hkt
  generalize hT : S.set 0 c2 = T at e2 g2 hkt2
  have s1 : Sam [15, 16, 19] ρ ((ρ.set 15 (some (.int u))).set 16 (some (.int v))) := ((Sam.refl _).set (by simp)).set (by simp)
  have s2 : Sam [15, 16, 19] ρ (((ρ.set 15 (some (.int u))).set 16 (some (.int v))).set 19 (some (tD (tk l r u v)))) := s1.set (by simp)
  have v15 : (((ρ.set 15 (some (.int u))).set 16 (some (.int v))).set 19 (some (tD (tk l r u v))))[15]? = some (some (.int u)) := by
    rw [List.getElem?_set_ne (by decide), List.getElem?_set_ne (by decide), List.getElem?_set_self (by omega)]
  have v16 : (((ρ.set 15 (some (.int u))).set 16 (some (.int v))).set 19 (some (tD (tk l r u v))))[16]? = some (some (.int v)) := by
    rw [List.getElem?_set_ne (by decide), List.getElem?_set_self (by rw [List.length_set]; omega)]
  have v19 : (((ρ.set 15 (some (.int u))).set 16 (some (.int v))).set 19 (some (tD (tk l r u v))))[19]? = some (some (tD (tk l r u v))) := by
    rw [List.getElem?_set_self (by rw [List.length_set, List.length_set]; omega)]
  have w15 : ((ρ.set 15 (some (.int u))).set 16 (some (.int v)))[15]? = some (some (.int u)) := by
    rw [List.getElem?_set_ne (by decide), List.getElem?_set_self (by omega)]
  have w16 : ((ρ.set 15 (some (.int u))).set 16 (some (.int v)))[16]? = some (some (.int v)) := by
    rw [List.getElem?_set_self (by rw [List.length_set]; omega)]
  have p1 := par2_eq (i := 15) (j := 16) (cons_eq ((call_eq (cons_eq (var_eq h1) (cons_eq (w := mNil) (eadd S) rfl))).trans e1) (cons_eq (w := mNil) ((call_eq (cons_eq (var_eq h1) (cons_eq (w := mNil) (eadd (S.set 0 c1)) rfl))).trans e2) rfl))
  have p2 := set_eq (j := 19) ((call_eq (F := F_tick_of) (S := T) (cons_eq (var_eq (s1.get h5 (by decide))) (cons_eq (var_eq (s1.get h6 (by decide))) (cons_eq (var_eq w15) (cons_eq (w := mNil) (var_eq w16) rfl))))).trans (tick_of_eq (.inr rfl) (.inr rfl) g2 (by omega)))
  have hsm := tks_sm (n := (un l r).length) (by have := un_len (l := l) (r := r); omega)
  have c1' := check (S := T) (f := mVar 19) (h := mCall F_L_tick (mCons (mVar 5) (mCons (mVar 6) (mCons (mVar 15) (mCons (mVar 16) mNil))))) (var_eq v19)
    ((call_eq (cons_eq (var_eq (s2.get h5 (by decide))) (cons_eq (var_eq (s2.get h6 (by decide))) (cons_eq (var_eq v15) (cons_eq (w := mNil) (var_eq v16) rfl))))).trans (L_tick_eq g2 (by omega))) (py_tD _) (py_tD _) (tik_nice (hsm _ (tk_mem l r u v)))
  have c2' := t_eq (mop_eq (S := T) (var_eq v19) (var_eq (s2.get h9 (by decide))) (in_told hkt2 hsm (tk_mem l r u v)))
  have hgr : mCall F_grown (mCons (mVar 7) (mCons (mVar 19) mNil)) (((ρ.set 15 (some (.int u))).set 16 (some (.int v))).set 19 (some (tD (tk l r u v)))) T = some (pD (pat (l ++ [u]) (r ++ [v])), T) := by
    refine (call_eq (cons_eq (var_eq (s2.get h7 (by decide))) (cons_eq (w := mNil) (var_eq v19) rfl))).trans ?_
    have hge := grown_eq (S := T) (p := pat l r) (t := tk l r u v) g2 (by
      show (pt _ _).length + (pt _ _).length ≤ _
      rw [pt_len, pt_len]
      omega)
    rw [pat_grown] at hge
    exact hge
  obtain ⟨z1, m1, t1⟩ := m_longer (S := T) (s2.get h5 (by decide)) (var_eq v15) (by omega)
  obtain ⟨z2, m2, t2⟩ := m_longer (S := T) (s2.get h6 (by decide)) (var_eq v16) (by omega)
  have hlen : (l ++ [u]).length + (r ++ [v]).length ≤ 900 := by rw [List.length_append, List.length_append]; show _ + 1 + (_ + 1) ≤ _; omega
  have c3' := check (S := T) (h := mCall F_L_pattern (mCons (mOp dAdd (mVar 5) (mTup (mCons (mVar 15) mNil))) (mCons (mOp dAdd (mVar 6) (mTup (mCons (mVar 16) mNil))) mNil))) hgr
    ((call_eq (cons_eq m1 (cons_eq (w := mNil) m2 rfl))).trans (L_pattern_eq t1 t2 g2 (by omega))) (py_pD _) (py_pD _) (pat_nice (pat_sm hlen))
  refine ⟨_, c2, s2, hb2, ?_⟩
  unfold bDraw
  rw [seq_nx p1, seq_nx p2, seq_nx ((ifs_f ((or_f c1').trans c2')).trans rfl), hT]
  exact (ifs_f c3').trans rfl
/-! ### cuts -/
def bCut : MS := (mSeq (mPar2 20 21 (mCons (mCall F_L_take (mCons (mVar 1) (mCons (mOp dAdd (mCB bLen (mCons (mVar 5) mNil)) (mC (.int 1))) mNil))) (mCons (mCall F_L_take (mCons (mVar 1) (mCons (mOp dAdd (mCB bLen (mCons (mVar 6) mNil)) (mC (.int 1))) mNil))) mNil)))
  (mIfS (mNot (mT (mCall F_L_alike (mCons (mCall F_cut (mCons (mVar 7) (mCons (mVar 20) (mCons (mVar 21) mNil)))) (mCons (mCall F_L_pattern (mCons (mSlT (mVar 5) (mOS (mVar 20)) mON) (mCons (mSlT (mVar 6) (mOS (mVar 21)) mON) mNil))) mNil))))) (mRet (mC (.bl false))) mSkip))
theorem mOS_var {j : Nat} {z : Int} (h : ρ[j]? = some (some (.int z))) : mOS (mVar j) ρ S = some (some z, S) := by
  unfold mOS
  rw [var_eq h]
  rfl
theorem cut_body {l r : List Int} {c : C} (h1 : ρ[1]? = some (some (.obj 0))) (h5 : ρ[5]? = some (some (.ftp (ID l)))) (h6 : ρ[6]? = some (some (.ftp (ID r)))) (h7 : ρ[7]? = some (some (pD (pat l r))))
    (hl : ρ.length = 22) (hn : l.length + r.length ≤ 20) (g : Gd S) (hS : S[0]? = some c) (hc : BagC c) :
    ∃ ρ' c', Sam [20, 21] ρ ρ' ∧ BagC c' ∧ bCut ρ S = some (.nx ρ', S.set 0 c') := by
  have h0 : 0 < S.length := (List.getElem?_eq_some_iff.mp hS).1
  obtain ⟨x, c1, hx, hb1, e1⟩ := take_eq (S := S) (m := l.length + 1) hS hc ⟨by omega, by omega⟩
  obtain ⟨y, c2, hy, hb2, e2⟩ := take_eq (S := S.set 0 c1) (m := r.length + 1) (set_at h0) hb1 ⟨by omega, by omega⟩
  rw [List.set_set] at e2
  have g2 : Gd (S.set 0 c2) := g.set (below_bag hb2)
  have elen : ∀ {T : Sto} {j : Nat} {xs : List Int}, ρ[j]? = some (some (.ftp (ID xs))) → mOp dAdd (mCB bLen (mCons (mVar j) mNil)) (mC (.int 1)) ρ T = some (.int ((xs.length + 1 : Nat) : Int), T) := fun {T j xs} q =>
    mop_eq (cb_eq (cons_eq (w := mNil) (var_eq q) rfl) (len_seq (xs := ID xs) rfl (fun z e => by cases e))) (h := mC (.int 1)) rfl (by
      rw [List.length_map]
      rfl)
  have p1 := par2_eq (i := 20) (j := 21) (cons_eq ((call_eq (cons_eq (var_eq h1) (cons_eq (w := mNil) (elen h5) rfl))).trans e1) (cons_eq (w := mNil) ((call_eq (cons_eq (var_eq h1) (cons_eq (w := mNil) (elen h6) rfl))).trans e2) rfl))
  generalize hT : S.set 0 c2 = T at g2 p1
  have s1 : Sam [20, 21] ρ ((ρ.set 20 (some (.int (x : Nat)))).set 21 (some (.int (y : Nat)))) := ((Sam.refl _).set (by simp)).set (by simp)
  have v20 : ((ρ.set 20 (some (.int (x : Nat)))).set 21 (some (.int (y : Nat))))[20]? = some (some (.int (x : Nat))) := by
    rw [List.getElem?_set_ne (by decide), List.getElem?_set_self (by omega)]
  have v21 : ((ρ.set 20 (some (.int (x : Nat)))).set 21 (some (.int (y : Nat))))[21]? = some (some (.int (y : Nat))) := by
    rw [List.getElem?_set_self (by rw [List.length_set]; omega)]
  obtain ⟨z1, m1, t1⟩ := slT_nat (xs := ID l) x
  obtain ⟨z2, m2, t2⟩ := slT_nat (xs := ID r) y
  rw [← ID_drop] at t1 t2
  have hc1 : mCall F_cut (mCons (mVar 7) (mCons (mVar 20) (mCons (mVar 21) mNil))) ((ρ.set 20 (some (.int (x : Nat)))).set 21 (some (.int (y : Nat)))) T = some (pD (pat (l.drop x) (r.drop y)), T) := by
    refine (call_eq (cons_eq (var_eq (s1.get h7 (by decide))) (cons_eq (var_eq v20) (cons_eq (w := mNil) (var_eq v21) rfl)))).trans ?_
    have := cut_eq (S := T) (p := pat l r) (a := x) (b := y) g2 (by
      show (pt _ _).length + (pt _ _).length ≤ _
      rw [pt_len, pt_len]
      omega)
    rw [pat_cut] at this
    exact this
  have hlen : (l.drop x).length + (r.drop y).length ≤ 900 := by rw [List.length_drop, List.length_drop]; omega
  have c3' := check (S := T) (h := mCall F_L_pattern (mCons (mSlT (mVar 5) (mOS (mVar 20)) mON) (mCons (mSlT (mVar 6) (mOS (mVar 21)) mON) mNil))) hc1
    ((call_eq (cons_eq (mSlT_eq (var_eq (s1.get h5 (by decide))) (mOS_var v20) (hi := mON) rfl m1) (cons_eq (w := mNil) (mSlT_eq (var_eq (s1.get h6 (by decide))) (mOS_var v21) (hi := mON) rfl m2) rfl))).trans (L_pattern_eq t1 t2 g2 (by omega))) (py_pD _) (py_pD _) (pat_nice (pat_sm hlen))
  refine ⟨_, c2, s1, hb2, ?_⟩
  unfold bCut
  rw [seq_nx p1, hT]
  exact (ifs_f c3').trans rfl
/-- a walk over a range that keeps all but the names J and the bag -/
theorem rng_loop {n j : Nat} {J : List Nat} {body : MS} {c : C} (hn : n < 1000) (hj : j ∈ J) (h0 : S[0]? = some c) (hc : BagC c) (hb : ∀ (i : Nat) (ρ' : Mi.Env) (c : C), BagC c → Sam J ρ ρ' → ∃ ρ2 c', Sam J ρ' ρ2 ∧ BagC c' ∧ body ρ' (S.set 0 c) = some (.nx ρ2, (S.set 0 c).set 0 c')) :
    ∃ ρ' c', Sam J ρ ρ' ∧ BagC c' ∧ mFor (mItR1 (mCons (mC (.int (n : Nat))) mNil)) (mName j) body ρ S = some (.nx ρ', S.set 0 c') := by
  have hi : 0 < S.length := (List.getElem?_eq_some_iff.mp h0).1
  obtain ⟨ρ2, S2, e, hs, c', hb', hS2⟩ := forL_inv (S := S) (ρ := ρ) (gt := mName j) (body := body) (rngD 0 n) (fun i ρ' S' => Sam J ρ ρ' ∧ ∃ c, BagC c ∧ S' = S.set 0 c) (fun i hi' ρ' S' p => by
    obtain ⟨hs, c, hbc, rfl⟩ := p
    have hs1 : Sam J ρ (ρ'.set j (some (.int (i : Nat)))) := hs.set hj
    obtain ⟨ρ2, c2, hs2, hb2, e2⟩ := hb i _ c hbc hs1
    refine ⟨_, S.set 0 c, ρ2, _, ?_, e2, ⟨hs2.1.trans hs1.1, fun q hq => (hs2.2 q hq).trans (hs1.2 q hq)⟩, c2, hb2, List.set_set ..⟩
    rw [rng_at hi']
    rfl) ⟨Sam.refl _, c, hc, by
      have e := (List.getElem?_eq_some_iff.mp h0).2
      rw [← e, List.set_getElem_self]⟩
  refine ⟨ρ2, c', hs, hb', ?_⟩
  rw [for_eq (mItR1_eq (n := n) (S1 := S) rfl (by omega)) e, hS2]
end
end K65
namespace K65
open PySem PySem.Spec PyProof.Rows L2 Mi
section
variable {S : Sto} {ρ : Mi.Env}
theorem set_oth {i j : Nat} {v : Option D} {x : Option (Option D)} (h : i ≠ j) (e : ρ[j]? = x) : (ρ.set i v)[j]? = x := by
  rw [List.getElem?_set_ne h]
  exact e
theorem set_me {j : Nat} {v : Option D} (h : j < ρ.length) : (ρ.set j v)[j]? = some v := List.getElem?_set_self h
theorem py_told {k : Nat} {ts : List (Int × Int)} (h : S[k]? = some (.lst (ts.map tD))) : py S (.obj k) = some (.list (ts.map tikP)) := by
  show (match S[k]? with | some (.lst ds) => (match pyDs ds with | some ys => some (PyData.list ys) | none => none) | _ => none) = _
  rw [h]
  show (match pyDs (ts.map tD) with | some ys => some (PyData.list ys) | none => none) = _
  rw [pyDs_tDs]
theorem py_tlst {ts : List (Int × Int)} : py S (.lst (ts.map tD)) = some (.list (ts.map tikP)) := by
  show pyD (.lst (ts.map tD)) = _
  simp only [pyD, pyDs_tDs]
theorem below_told {ts : List (Int × Int)} : C.below 0 (.lst (ts.map tD)) = true := below_tDs ts
def bTurn : MS := (mSeq (mAsg (mOp dAdd (mCall F_L_alphabet (mCons (mVar 1) mNil)) (mOfL (mLc (mItR1 (mCons (mCall F_L_one (mCons (mVar 1) (mCons (mOfL (mLst (mCons (mC (.int 0)) (mCons (mC (.int 0)) (mCons (mC (.int 3)) (mCons (mC (.int 8)) mNil)))))) mNil))) mNil)) (mName 3) mYes (mOp dAdd (mC (.int 10)) (mVar 3)) [3]))) (mName 4))
  (mSeq (mAsg (mTup (mCons (mCall F_L_text (mCons (mVar 1) (mCons (mVar 4) (mCons (mC (.int 5)) mNil)))) (mCons (mCall F_L_text (mCons (mVar 1) (mCons (mVar 4) (mCons (mC (.int 5)) mNil)))) mNil))) (mTg 2 (mgCons (mName 5) (mgCons (mName 6) mgNil))))
  (mSeq (mPar2 7 8 (mCons (mCall F_pattern_of (mCons (mVar 5) (mCons (mVar 6) mNil))) (mCons (mCall F_L_pattern (mCons (mVar 5) (mCons (mVar 6) mNil))) mNil)))
  (mSeq (mIfS (mOr (mNot (mT (mCall F_L_alike (mCons (mVar 7) (mCons (mVar 8) mNil))))) (mNot (mT (mCall F_L_alike (mCons (mCall F_pattern_of (mCons (mOp dIx (mVar 8) (mC (.int 0))) (mCons (mOp dIx (mVar 8) (mC (.int 1))) mNil))) (mCons (mVar 8) mNil)))))) (mRet (mC (.bl false))) mSkip)
  (mSeq (mNew (mCallL F_ticks (mCons (mVar 7) mNil)) 9)
  (mSeq (mIfS (mNot (mT (mCall F_L_alike (mCons (mVar 9) (mCons (mCall F_L_ticks (mCons (mVar 8) mNil)) mNil))))) (mRet (mC (.bl false))) mSkip)
  (mSeq (mAsg (mOfL (mLc (mItR1 (mCons (mC (.int 30)) mNil)) (mName 10) (mT (mOp dNotIn (mVar 10) (mOp dAdd (mVar 5) (mVar 6)))) (mVar 10) [10])) (mName 11))
  (mSeq (mNew (mOpL dCatL (mOp dMul (mOfL (mLst (mCons (mC .non) mNil))) (mLenSet (mOp dAdd (mVar 5) (mVar 6)))) (mOfL (mSlL (mVar 11) mON (mOS (mC (.int 2)))))) 12)
  (mSeq (mFor (mEnumT (mCons (mOp dAdd (mOp dIx (mVar 8) (mC (.int 0))) (mOp dIx (mVar 8) (mC (.int 1)))) mNil)) (mTg 2 (mgCons (mName 13) (mgCons (mName 10) mgNil))) (mAsg (mOp dIx (mOp dAdd (mVar 5) (mVar 6)) (mVar 13)) (mSetL (mVar 12) (mVar 10))))
  (mSeq (mNew (mLst mNil) 14)
  (mSeq (mFor (mItL (mVar 9)) (mTg 2 (mgCons (mName 15) (mgCons (mName 16) mgNil))) bTold)
  (mSeq (mFor (mItR1 (mCons (mC (.int 4)) mNil)) (mName 3) bDraw)
  (mSeq (mFor (mItR1 (mCons (mC (.int 3)) mNil)) (mName 3) bCut)
  (mSeq (mExpr (mMeth0 lClear (mVar 9)))
  (mSeq (mExpr (mMeth lAppend (mVar 9) (mCons (mTup (mCons (mC (.int 0)) (mCons (mC (.int 0)) mNil))) mNil)))
  (mIfS (mOr (mNot (mT (mCall F_L_alike (mCons (mOfL (mCallL F_ticks (mCons (mVar 7) mNil))) (mCons (mCall F_L_ticks (mCons (mVar 8) mNil)) mNil))))) (mNot (mT (mCall F_L_alike (mCons (mVar 7) (mCons (mVar 8) mNil)))))) (mRet (mC (.bl false))) mSkip))))))))))))))))
/-- the store between two turns -/
def Ok (S : Sto) : Prop := Gd S ∧ ∃ c, S[0]? = some c ∧ BagC c
theorem turn_eq (hl : ρ.length = 22) (h1 : ρ[1]? = some (some (.obj 0))) (ok : Ok S) : ∃ ρ' S', bTurn ρ S = some (.nx ρ', S') ∧ ρ'.length = 22 ∧ ρ'[1]? = some (some (.obj 0)) ∧ Ok S' := by
  obtain ⟨g, c, hS, hc⟩ := ok
  have i0 : 0 < S.length := (List.getElem?_eq_some_iff.mp hS).1
  obtain ⟨ls, c1, hls0, hls1, hb1, e1⟩ := letters_eq (by omega) h1 g hS hc
  have x1 := set_eq (j := 4) e1
  -- the texts
  obtain ⟨ρ1, hρ1⟩ : ∃ ρ1, ρ1 = ρ.set 4 (some (.lst (ID ls))) := ⟨_, rfl⟩
  have l1 : ρ1.length = 22 := by rw [hρ1, List.length_set]; exact hl
  have a1 : ρ1[1]? = some (some (.obj 0)) := by rw [hρ1]; exact set_oth (by decide) h1
  have a4 : ρ1[4]? = some (some (.lst (ID ls))) := by rw [hρ1]; exact set_me (by omega)
  rw [← hρ1] at x1
  obtain ⟨l, c2, hl5, hb2, e2⟩ := text_eq (S := S.set 0 c1) (most := 5) (ls := ls) (set_at i0) hb1 hls0 (by omega) (by decide)
  rw [List.set_set] at e2
  obtain ⟨r, c3, hr5, hb3, e3⟩ := text_eq (S := S.set 0 c2) (most := 5) (ls := ls) (set_at i0) hb2 hls0 (by omega) (by decide)
  rw [List.set_set] at e3
  have hn : l.length + r.length ≤ 10 := by omega
  have g3 : Gd (S.set 0 c3) := g.set (below_bag hb3)
  have hS3 : (S.set 0 c3)[0]? = some c3 := set_at i0
  have x2 : mAsg (mTup (mCons (mCall F_L_text (mCons (mVar 1) (mCons (mVar 4) (mCons (mC (.int 5)) mNil)))) (mCons (mCall F_L_text (mCons (mVar 1) (mCons (mVar 4) (mCons (mC (.int 5)) mNil)))) mNil))) (mTg 2 (mgCons (mName 5) (mgCons (mName 6) mgNil))) ρ1 (S.set 0 c1) = some (.nx ((ρ1.set 5 (some (.ftp (ID l)))).set 6 (some (.ftp (ID r)))), S.set 0 c3) :=
    asg_eq (tup_eq (cons_eq ((call_eq (cons_eq (var_eq a1) (cons_eq (var_eq a4) (cons_eq (f := mC (.int 5)) (w := mNil) rfl rfl)))).trans e2) (cons_eq (w := mNil) ((call_eq (cons_eq (var_eq a1) (cons_eq (var_eq a4) (cons_eq (f := mC (.int 5)) (w := mNil) rfl rfl)))).trans e3) rfl)) sz2) rfl
  generalize S.set 0 c3 = S3 at x2 g3 hS3
  -- the patterns
  obtain ⟨ρ2, hρ2⟩ : ∃ ρ2, ρ2 = (ρ1.set 5 (some (.ftp (ID l)))).set 6 (some (.ftp (ID r))) := ⟨_, rfl⟩
  have l2 : ρ2.length = 22 := by rw [hρ2, List.length_set, List.length_set]; exact l1
  have b1 : ρ2[1]? = some (some (.obj 0)) := by rw [hρ2]; exact set_oth (by decide) (set_oth (by decide) a1)
  have b4 : ρ2[4]? = some (some (.lst (ID ls))) := by rw [hρ2]; exact set_oth (by decide) (set_oth (by decide) a4)
  have b5 : ρ2[5]? = some (some (.ftp (ID l))) := by rw [hρ2]; exact set_oth (by decide) (set_me (by omega))
  have b6 : ρ2[6]? = some (some (.ftp (ID r))) := by rw [hρ2]; exact set_me (by rw [List.length_set]; omega)
  rw [← hρ2] at x2
  have x3 := par2_eq (i := 7) (j := 8) (S := S3) (ρ := ρ2) (cons_eq ((call_eq (F := F_pattern_of) (cons_eq (var_eq b5) (cons_eq (w := mNil) (var_eq b6) rfl))).trans (pattern_of_eq (.inr rfl) (.inr rfl) g3 (by omega))) (cons_eq (w := mNil) ((call_eq (F := F_L_pattern) (cons_eq (var_eq b5) (cons_eq (w := mNil) (var_eq b6) rfl))).trans (L_pattern_eq (.inr rfl) (.inr rfl) g3 (by omega))) rfl))
  obtain ⟨ρ3, hρ3⟩ : ∃ ρ3, ρ3 = (ρ2.set 7 (some (pD (pat l r)))).set 8 (some (pD (pat l r))) := ⟨_, rfl⟩
  have l3 : ρ3.length = 22 := by rw [hρ3, List.length_set, List.length_set]; exact l2
  have c_1 : ρ3[1]? = some (some (.obj 0)) := by rw [hρ3]; exact set_oth (by decide) (set_oth (by decide) b1)
  have c_4 : ρ3[4]? = some (some (.lst (ID ls))) := by rw [hρ3]; exact set_oth (by decide) (set_oth (by decide) b4)
  have c_5 : ρ3[5]? = some (some (.ftp (ID l))) := by rw [hρ3]; exact set_oth (by decide) (set_oth (by decide) b5)
  have c_6 : ρ3[6]? = some (some (.ftp (ID r))) := by rw [hρ3]; exact set_oth (by decide) (set_oth (by decide) b6)
  have c_7 : ρ3[7]? = some (some (pD (pat l r))) := by rw [hρ3]; exact set_oth (by decide) (set_me (by omega))
  have c_8 : ρ3[8]? = some (some (pD (pat l r))) := by rw [hρ3]; exact set_me (by rw [List.length_set]; omega)
  rw [← hρ3] at x3
  have nice := pat_nice (pat_sm (l := l) (r := r) (by omega))
  have k1 : ∀ {T : Sto} {ρ' : Mi.Env}, ρ'[7]? = some (some (pD (pat l r))) → ρ'[8]? = some (some (pD (pat l r))) → mNot (mT (mCall F_L_alike (mCons (mVar 7) (mCons (mVar 8) mNil)))) ρ' T = some (false, T) := fun q1 q2 => check (var_eq q1) (var_eq q2) (py_pD _) (py_pD _) nice
  have k2 : mNot (mT (mCall F_L_alike (mCons (mCall F_pattern_of (mCons (mOp dIx (mVar 8) (mC (.int 0))) (mCons (mOp dIx (mVar 8) (mC (.int 1))) mNil))) (mCons (mVar 8) mNil)))) ρ3 S3 = some (false, S3) := by
    refine check ((call_eq (F := F_pattern_of) (cons_eq (mop_eq (var_eq c_8) (h := mC (.int 0)) rfl (pD_0 _)) (cons_eq (w := mNil) (mop_eq (var_eq c_8) (h := mC (.int 1)) rfl (pD_1 _)) rfl))).trans ?_) (var_eq c_8) (py_pD _) (py_pD _) nice
    have := pattern_of_eq (S := S3) (l := (pat l r).1) (r := (pat l r).2) (.inr rfl) (.inr rfl) g3 (by
      show (pt _ _).length + (pt _ _).length ≤ _
      rw [pt_len, pt_len]
      omega)
    rw [pat_same] at this
    exact this
  -- the ticks
  have hun := un_len (l := l) (r := r)
  have hsm := tks_sm (n := (un l r).length) (by omega)
  have tnice := tiks_nice hsm (by have := tks_len (n := (un l r).length) (by omega); omega)
  have x4 := new_eq (j := 9) ((callL_eq (F := F_ticks) (S := S3) (ρ := ρ3) (cons_eq (w := mNil) (var_eq c_7) rfl)).trans (ticks_eq (by omega)))
  have g4 : Gd (S3 ++ [.lst ((tks (un l r).length).map tD)]) := g3.add below_told
  have t4 : (S3 ++ [C.lst ((tks (un l r).length).map tD)])[S3.length]? = some (.lst ((tks (un l r).length).map tD)) := at_last
  have i3 : 0 < S3.length := (List.getElem?_eq_some_iff.mp hS3).1
  have hS4 : (S3 ++ [C.lst ((tks (un l r).length).map tD)])[0]? = some c3 := by rw [List.getElem?_append_left i3]; exact hS3
  have hk0 : S3.length ≠ 0 := by omega
  generalize hkt : S3.length = kt at x4 t4 hk0
  generalize S3 ++ [C.lst ((tks (un l r).length).map tD)] = S4 at x4 g4 t4 hS4
  obtain ⟨ρ4, hρ4⟩ : ∃ ρ4, ρ4 = ρ3.set 9 (some (.obj kt)) := ⟨_, rfl⟩
  have l4 : ρ4.length = 22 := by rw [hρ4, List.length_set]; exact l3
  have d_1 : ρ4[1]? = some (some (.obj 0)) := by rw [hρ4]; exact set_oth (by decide) c_1
  have d_4 : ρ4[4]? = some (some (.lst (ID ls))) := by rw [hρ4]; exact set_oth (by decide) c_4
  have d_5 : ρ4[5]? = some (some (.ftp (ID l))) := by rw [hρ4]; exact set_oth (by decide) c_5
  have d_6 : ρ4[6]? = some (some (.ftp (ID r))) := by rw [hρ4]; exact set_oth (by decide) c_6
  have d_7 : ρ4[7]? = some (some (pD (pat l r))) := by rw [hρ4]; exact set_oth (by decide) c_7
  have d_8 : ρ4[8]? = some (some (pD (pat l r))) := by rw [hρ4]; exact set_oth (by decide) c_8
  have d_9 : ρ4[9]? = some (some (.obj kt)) := by rw [hρ4]; exact set_me (by omega)
  rw [← hρ4] at x4
  have k3 := check (S := S4) (ρ := ρ4) (f := mVar 9) (h := mCall F_L_ticks (mCons (mVar 8) mNil)) (var_eq d_9) ((call_eq (cons_eq (w := mNil) (var_eq d_8) rfl)).trans (L_ticks_eq g4 (by omega))) (py_told t4) py_tlst tnice
  -- new letters
  obtain ⟨a, b, rest, ha, hb, hab, hrest, e5⟩ := news_eq (S := S4) d_5 d_6 (by omega) (by omega)
  have x5 := set_eq (j := 11) e5
  obtain ⟨ρ5, hρ5⟩ : ∃ ρ5, ρ5 = ρ4.set 11 (some (.lst (ID (a :: b :: rest)))) := ⟨_, rfl⟩
  rw [← hρ5] at x5
  have s5 : Sam [11] ρ4 ρ5 := by rw [hρ5]; exact (Sam.refl _).set (by simp)
  have f_11 : ρ5[11]? = some (some (.lst (ID (a :: b :: rest)))) := by rw [hρ5]; exact set_me (by omega)
  have x6 := new_eq (j := 12) (names0_eq (S := S4) (s5.get d_5 (by decide)) (s5.get d_6 (by decide)) f_11 (by omega))
  obtain ⟨ρ6, hρ6⟩ : ∃ ρ6, ρ6 = ρ5.set 12 (some (.obj S4.length)) := ⟨_, rfl⟩
  rw [← hρ6] at x6
  have l5 : ρ5.length = 22 := s5.1.trans l4
  have s6 : Sam [12] ρ5 ρ6 := by rw [hρ6]; exact (Sam.refl _).set (by simp)
  have f_12 : ρ6[12]? = some (some (.obj S4.length)) := by rw [hρ6]; exact set_me (by omega)
  have l6 : ρ6.length = 22 := s6.1.trans l5
  have get6 : ∀ {j : Nat} {v : Option (Option D)}, j ≠ 11 → j ≠ 12 → ρ4[j]? = v → ρ6[j]? = v := fun {j v} q1 q2 q => s6.get (s5.get q (by simp [q1])) (by simp [q2])
  obtain ⟨ρ7, s7, x7⟩ := names_loop (S := S4) (ρ := ρ6) (a := a) (b := b) (get6 (by decide) (by decide) d_5) (get6 (by decide) (by decide) d_6) (get6 (by decide) (by decide) d_8) f_12 (by omega) (by omega)
  have l7 : ρ7.length = 22 := s7.1.trans l6
  have x8 := new_eq (j := 14) (fl := mLst mNil) (ρ := ρ7) (S := S4 ++ [.lst (ID (nam l r a b))]) (c := .lst []) rfl
  have g7 : Gd (S4 ++ [.lst (ID (nam l r a b))]) := g4.add (belows_ID _)
  have n7 : (S4 ++ [C.lst (ID (nam l r a b))])[S4.length]? = some (.lst (ID (nam l r a b))) := at_last
  have i4 : kt < S4.length := (List.getElem?_eq_some_iff.mp t4).1
  have t7 : (S4 ++ [C.lst (ID (nam l r a b))])[kt]? = some (.lst ((tks (un l r).length).map tD)) := by rw [List.getElem?_append_left i4]; exact t4
  have hS7 : (S4 ++ [C.lst (ID (nam l r a b))])[0]? = some c3 := by rw [List.getElem?_append_left (by omega)]; exact hS4
  generalize hkn : S4.length = kn at f_12 n7
  generalize S4 ++ [C.lst (ID (nam l r a b))] = S7 at x7 x8 g7 n7 t7 hS7
  obtain ⟨ρ8, hρ8⟩ : ∃ ρ8, ρ8 = ρ7.set 14 (some (.obj S7.length)) := ⟨_, rfl⟩
  rw [← hρ8] at x8
  have s8 : Sam [14] ρ7 ρ8 := by rw [hρ8]; exact (Sam.refl _).set (by simp)
  have f_14 : ρ8[14]? = some (some (.obj S7.length)) := by rw [hρ8]; exact set_me (by omega)
  have l8 : ρ8.length = 22 := s8.1.trans l7
  have get8 : ∀ {j : Nat} {v : Option (Option D)}, j ≠ 13 → j ≠ 10 → j ≠ 14 → ρ6[j]? = v → ρ8[j]? = v := fun {j v} q1 q2 q3 q => s8.get (s7.get q (by simp [q1, q2])) (by simp [q3])
  have get48 : ∀ {j : Nat} {v : Option (Option D)}, j < 10 → ρ4[j]? = v → ρ8[j]? = v := fun {j v} q1 q => get8 (by omega) (by omega) (by omega) (get6 (by omega) (by omega) q)
  have m_11 : ρ8[11]? = some (some (.lst (ID (a :: b :: rest)))) := get8 (by decide) (by decide) (by decide) (s6.get f_11 (by decide))
  -- every tick
  obtain ⟨ρ9, c9, s9, hc9, x9⟩ := told_loop (S := S7) (ρ := ρ8) (k := kn) (kt := kt) (get48 (by decide) d_5) (get48 (by decide) d_6) (get48 (by decide) d_8) (get48 (by decide) d_9) (get8 (by decide) (by decide) (by decide) f_12) f_14 l8 (by omega) g7 n7 t7 ha hb hab
  have l9 : ρ9.length = 22 := s9.1.trans l8
  have g9 : Gd (S7 ++ [c9]) := g7.add hc9
  have i7 : kt < S7.length := (List.getElem?_eq_some_iff.mp t7).1
  have t9 : (S7 ++ [c9])[kt]? = some (.lst ((tks (un l r).length).map tD)) := by rw [List.getElem?_append_left i7]; exact t7
  have hS9 : (S7 ++ [c9])[0]? = some c3 := by rw [List.getElem?_append_left (by omega)]; exact hS7
  generalize S7 ++ [c9] = S9 at x9 g9 t9 hS9
  have get9 : ∀ {j : Nat} {v : Option (Option D)}, j < 10 → ρ4[j]? = v → ρ9[j]? = v := fun {j v} q1 q => s9.get (get48 q1 q) (by simp; omega)
  have i9 : 0 < S9.length := (List.getElem?_eq_some_iff.mp hS9).1
  -- drawn letters
  obtain ⟨ρ10, c10, s10, hb10, x10⟩ := rng_loop (S := S9) (ρ := ρ9) (n := 4) (j := 3) (J := [3, 15, 16, 19]) (body := bDraw) (by decide) (by simp) hS9 hb3 (fun i ρ' c hc hs => by
    obtain ⟨ρ2, c', q1, q2, q3⟩ := draw_body (S := S9.set 0 c) (ρ := ρ') (l := l) (r := r) (ls := ls) (nw := a :: b :: rest) (kt := kt) (c := c) (hs.get (get9 (by decide) d_1) (by decide)) (hs.get (get9 (by decide) d_4) (by decide)) (hs.get (s9.get m_11 (by decide)) (by decide)) (hs.get (get9 (by decide) d_5) (by decide)) (hs.get (get9 (by decide) d_6) (by decide)) (hs.get (get9 (by decide) d_7) (by decide)) (hs.get (get9 (by decide) d_9) (by decide))
      (hs.1.trans l9) (by omega) (g9.set (below_bag hc)) (set_at i9) hc (by rw [List.getElem?_set_ne (Ne.symm hk0)]; exact t9) hk0 ⟨hls0, hls1⟩ (by simp only [List.length_cons]; omega)
    exact ⟨ρ2, c', ⟨q1.1, fun j hj => q1.2 j (fun z => hj (by simp at z ⊢; omega))⟩, q2, q3⟩)
  have l10 : ρ10.length = 22 := s10.1.trans l9
  have get10 : ∀ {j : Nat} {v : Option (Option D)}, j < 10 → j ≠ 3 → ρ4[j]? = v → ρ10[j]? = v := fun {j v} q1 q2 q => s10.get (get9 q1 q) (by simp; omega)
  have g10 : Gd (S9.set 0 c10) := g9.set (below_bag hb10)
  have t10 : (S9.set 0 c10)[kt]? = some (.lst ((tks (un l r).length).map tD)) := by rw [List.getElem?_set_ne (Ne.symm hk0)]; exact t9
  have hS10 : (S9.set 0 c10)[0]? = some c10 := set_at i9
  generalize S9.set 0 c10 = S10 at x10 g10 t10 hS10
  have i10 : 0 < S10.length := (List.getElem?_eq_some_iff.mp hS10).1
  -- cuts
  obtain ⟨ρ11, c11, s11, hb11, x11⟩ := rng_loop (S := S10) (ρ := ρ10) (n := 3) (j := 3) (J := [3, 20, 21]) (body := bCut) (by decide) (by simp) hS10 hb10 (fun i ρ' c hc hs => by
    obtain ⟨ρ2, c', q1, q2, q3⟩ := cut_body (S := S10.set 0 c) (ρ := ρ') (l := l) (r := r) (c := c) (hs.get (get10 (by decide) (by decide) d_1) (by decide)) (hs.get (get10 (by decide) (by decide) d_5) (by decide)) (hs.get (get10 (by decide) (by decide) d_6) (by decide)) (hs.get (get10 (by decide) (by decide) d_7) (by decide)) (hs.1.trans l10) (by omega) (g10.set (below_bag hc)) (set_at i10) hc
    exact ⟨ρ2, c', ⟨q1.1, fun j hj => q1.2 j (fun z => hj (by simp at z ⊢; omega))⟩, q2, q3⟩)
  have l11 : ρ11.length = 22 := s11.1.trans l10
  have get11 : ∀ {j : Nat} {v : Option (Option D)}, j < 10 → j ≠ 3 → ρ4[j]? = v → ρ11[j]? = v := fun {j v} q1 q2 q => s11.get (get10 q1 q2 q) (by simp; omega)
  have g11 : Gd (S10.set 0 c11) := g10.set (below_bag hb11)
  have t11 : (S10.set 0 c11)[kt]? = some (.lst ((tks (un l r).length).map tD)) := by rw [List.getElem?_set_ne (Ne.symm hk0)]; exact t10
  have hS11 : (S10.set 0 c11)[0]? = some c11 := set_at i10
  generalize S10.set 0 c11 = S11 at x11 g11 t11 hS11
  -- the told list spoilt
  have i11 : kt < S11.length := (List.getElem?_eq_some_iff.mp t11).1
  have x12 := expr_eq (meth0_eq (F := lClear) (S := S11) (var_eq (get11 (by decide) (by decide) d_9)) (cellL_obj t11) (ds' := []) (z := .non) rfl)
  have t12 : (S11.set kt (.lst []))[kt]? = some (.lst []) := List.getElem?_set_self i11
  have x13 := expr_eq (meth_eq (F := lAppend) (S := S11.set kt (.lst [])) (f := mVar 9) (w := mCons (mTup (mCons (mC (.int 0)) (mCons (mC (.int 0)) mNil))) mNil) (var_eq (get11 (by decide) (by decide) d_9)) (cellL_obj t12) (as := [tD (0, 0)]) (cons_eq (w := mNil) (tup_eq (w := mCons (mC (.int 0)) (mCons (mC (.int 0)) mNil)) rfl sz2) rfl) (cellL_obj t12) (lAppend_eq (show 0 < sizeLine by decide)))
  have hS13 : ((S11.set kt (.lst [])).set kt (.lst ([] ++ [tD (0, 0)])))[0]? = some c11 := by
    rw [List.getElem?_set_ne hk0, List.getElem?_set_ne hk0]
    exact hS11
  have g13 : Gd ((S11.set kt (.lst [])).set kt (.lst ([] ++ [tD (0, 0)]))) := (g11.set (c := .lst []) (belows_ID (n := 0) [])).set (c := .lst ([] ++ [tD (0, 0)])) (below_tDs [(0, 0)])
  generalize (S11.set kt (.lst [])).set kt (.lst ([] ++ [tD (0, 0)])) = S13 at x13 hS13 g13
  have k4 := check (S := S13) (ρ := ρ11) (f := mOfL (mCallL F_ticks (mCons (mVar 7) mNil))) (h := mCall F_L_ticks (mCons (mVar 8) mNil)) (ofL_eq ((callL_eq (cons_eq (w := mNil) (var_eq (get11 (by decide) (by decide) d_7)) rfl)).trans (ticks_eq (by omega)))) ((call_eq (cons_eq (w := mNil) (var_eq (get11 (by decide) (by decide) d_8)) rfl)).trans (L_ticks_eq g13 (by omega))) py_tlst py_tlst tnice
  have k5 := k1 (T := S13) (get11 (by decide) (by decide) d_7) (get11 (by decide) (by decide) d_8)
  refine ⟨ρ11, S13, ?_, l11, get11 (by decide) (by decide) d_1, g13, c11, hS13, hb11⟩
  unfold bTurn
  rw [seq_nx x1, seq_nx x2, seq_nx x3, seq_nx ((ifs_f ((or_f (k1 c_7 c_8)).trans k2)).trans rfl), seq_nx x4, seq_nx ((ifs_f k3).trans rfl), seq_nx x5, seq_nx x6, seq_nx x7, seq_nx x8, seq_nx x9]
  refine (seq_nx x10).trans ?_
  refine (seq_nx x11).trans ?_
  rw [seq_nx x12, seq_nx x13]
  exact (ifs_f ((or_f k4).trans k5)).trans rfl
theorem law_true (ns : List Int) (_ : ns.length ≤ 63) (_ : ∀ z ∈ ns, PySem.Builtin.Int.intBits z ≤ 1048576) : ∃ S, F_law [.fzl (ns.map D.int)] [] = some (.bl true, S) := by
  obtain ⟨c, hc, e0⟩ := bag_eq ns
  have x0 := new_eq (j := 1) ((callL_eq (F := F_L_bag) (S := []) (ρ := some (.fzl (ID ns)) :: List.replicate 21 none) (cons_eq (f := mVar 0) (w := mNil) rfl rfl)).trans e0)
  obtain ⟨ρ2, S2, e, h1, h2, ok⟩ := forL_inv (S := [] ++ [c]) (ρ := (some (.fzl (ID ns)) :: List.replicate 21 none).set 1 (some (.obj 0))) (gt := mName 2) (body := bTurn) (rngD 0 3) (fun _ ρ' S' => ρ'.length = 22 ∧ ρ'[1]? = some (some (.obj 0)) ∧ Ok S') (fun i hi ρ' S' p => by
    obtain ⟨q1, q2, q3⟩ := p
    obtain ⟨ρ3, S3, e3, k1, k2, k3⟩ := turn_eq (ρ := ρ'.set 2 (some (rngD 0 3)[i])) (by rw [List.length_set]; exact q1) (set_oth (by decide) q2) q3
    exact ⟨_, _, ρ3, S3, rfl, e3, k1, k2, k3⟩) ⟨rfl, rfl, Gd.nil.add (below_bag hc), c, rfl, hc⟩
  refine ⟨[], fun_eq (T := []) (S1 := S2) (d := .bl true) rfl ?_ (retD_pure (S := []) (T := S2) Gd.nil (by unfold below; rfl))⟩
  show B_law (some (.fzl (ID ns)) :: List.replicate 21 none) [] = _
  unfold B_law
  refine (seq_nx x0).trans ?_
  refine (seq_nx ((for_eq (mItR1_eq (n := 3) (S1 := [] ++ [c]) rfl (by decide)) e))).trans ?_
  rfl
end
end K65
namespace K65
open PySem PySem.Spec PyProof.Rows L2 Mi
theorem all_mk {l : PySem.W.OpenLaw} {w : World} {K : PySem.W.Frag} {h : Heap} {mg : Str → Option Value} {fa f1 f2 f3 f4 f5 f6 f7 f8 f9 f10 f11 f12 f13 f14 f15 f16 f17 : Addr} (X : K.In h) (G : h.Ns mainGlobals mg) (hfa : mg "law" = some (.ref fa))
    {od1 an1 od2 an2 od3 an3 od4 an4 od5 an5 od6 an6 od7 an7 od8 an8 od9 an9 od10 an10 od11 an11 od12 an12 od13 an13 od14 an14 od15 an15 od16 an16 od17 an17 : Option Addr} {sl1 sl2 sl3 sl4 sl5 sl6 sl7 sl8 sl9 sl10 sl11 sl12 sl13 sl14 sl15 sl16 sl17 : Array (Option Value)} {oc1 kV1 dc1 pm1 cd1 ct1 oc2 kV2 dc2 pm2 cd2 ct2 oc3 kV3 dc3 pm3 cd3 ct3 oc4 kV4 dc4 pm4 cd4 ct4 oc5 kV5 dc5 pm5 cd5 ct5 oc6 kV6 dc6 pm6 cd6 ct6 oc7 kV7 dc7 pm7 cd7 ct7 oc8 kV8 dc8 pm8 cd8 ct8 oc9 kV9 dc9 pm9 cd9 ct9 oc10 kV10 dc10 pm10 cd10 ct10 oc11 kV11 dc11 pm11 cd11 ct11 oc12 kV12 dc12 pm12 cd12 ct12 oc13 kV13 dc13 pm13 cd13 ct13 oc14 kV14 dc14 pm14 cd14 ct14 oc15 kV15 dc15 pm15 cd15 ct15 oc16 kV16 dc16 pm16 cd16 ct16 oc17 kV17 dc17 pm17 cd17 ct17 : Value}
    (a1 : PySem.W.nsIn K mainGlobals "pattern_of" = some (some (.ref f1))) (l1 : K.lookup f1 = some ⟨oc1, od1, .func (PySem.W.fnOf "pattern_of" "pattern_of" (defArgs s_pattern_of) (defBody s_pattern_of) (defScope s_pattern_of) .none kV1 dc1 pm1 an1 cd1 ct1), sl1⟩) (c1 : PySem.W.codeIn K cd1 "pattern_of" = true) (k1 : PySem.W.keepIn K (.ref f1) = true)
    (a2 : PySem.W.nsIn K mainGlobals "size_of" = some (some (.ref f2))) (l2 : K.lookup f2 = some ⟨oc2, od2, .func (PySem.W.fnOf "size_of" "size_of" (defArgs s_size_of) (defBody s_size_of) (defScope s_size_of) .none kV2 dc2 pm2 an2 cd2 ct2), sl2⟩) (c2 : PySem.W.codeIn K cd2 "size_of" = true) (k2 : PySem.W.keepIn K (.ref f2) = true)
    (a3 : PySem.W.nsIn K mainGlobals "ticks" = some (some (.ref f3))) (l3 : K.lookup f3 = some ⟨oc3, od3, .func (PySem.W.fnOf "ticks" "ticks" (defArgs s_ticks) (defBody s_ticks) (defScope s_ticks) .none kV3 dc3 pm3 an3 cd3 ct3), sl3⟩) (c3 : PySem.W.codeIn K cd3 "ticks" = true) (k3 : PySem.W.keepIn K (.ref f3) = true)
    (a4 : PySem.W.nsIn K mainGlobals "tick_of" = some (some (.ref f4))) (l4 : K.lookup f4 = some ⟨oc4, od4, .func (PySem.W.fnOf "tick_of" "tick_of" (defArgs s_tick_of) (defBody s_tick_of) (defScope s_tick_of) .none kV4 dc4 pm4 an4 cd4 ct4), sl4⟩) (c4 : PySem.W.codeIn K cd4 "tick_of" = true) (k4 : PySem.W.keepIn K (.ref f4) = true)
    (a5 : PySem.W.nsIn K mainGlobals "grown" = some (some (.ref f5))) (l5 : K.lookup f5 = some ⟨oc5, od5, .func (PySem.W.fnOf "grown" "grown" (defArgs s_grown) (defBody s_grown) (defScope s_grown) .none kV5 dc5 pm5 an5 cd5 ct5), sl5⟩) (c5 : PySem.W.codeIn K cd5 "grown" = true) (k5 : PySem.W.keepIn K (.ref f5) = true)
    (a6 : PySem.W.nsIn K mainGlobals "cut" = some (some (.ref f6))) (l6 : K.lookup f6 = some ⟨oc6, od6, .func (PySem.W.fnOf "cut" "cut" (defArgs s_cut) (defBody s_cut) (defScope s_cut) .none kV6 dc6 pm6 an6 cd6 ct6), sl6⟩) (c6 : PySem.W.codeIn K cd6 "cut" = true) (k6 : PySem.W.keepIn K (.ref f6) = true)
    (a7 : PySem.W.nsIn K mainGlobals "_law_bag" = some (some (.ref f7))) (l7 : K.lookup f7 = some ⟨oc7, od7, .func (PySem.W.fnOf "_law_bag" "_law_bag" (defArgs s_L_bag) (defBody s_L_bag) (defScope s_L_bag) .none kV7 dc7 pm7 an7 cd7 ct7), sl7⟩) (c7 : PySem.W.codeIn K cd7 "_law_bag" = true) (k7 : PySem.W.keepIn K (.ref f7) = true)
    (a8 : PySem.W.nsIn K mainGlobals "_law_take" = some (some (.ref f8))) (l8 : K.lookup f8 = some ⟨oc8, od8, .func (PySem.W.fnOf "_law_take" "_law_take" (defArgs s_L_take) (defBody s_L_take) (defScope s_L_take) .none kV8 dc8 pm8 an8 cd8 ct8), sl8⟩) (c8 : PySem.W.codeIn K cd8 "_law_take" = true) (k8 : PySem.W.keepIn K (.ref f8) = true)
    (a9 : PySem.W.nsIn K mainGlobals "_law_one" = some (some (.ref f9))) (l9 : K.lookup f9 = some ⟨oc9, od9, .func (PySem.W.fnOf "_law_one" "_law_one" (defArgs s_L_one) (defBody s_L_one) (defScope s_L_one) .none kV9 dc9 pm9 an9 cd9 ct9), sl9⟩) (c9 : PySem.W.codeIn K cd9 "_law_one" = true) (k9 : PySem.W.keepIn K (.ref f9) = true)
    (a10 : PySem.W.nsIn K mainGlobals "_law_mixed" = some (some (.ref f10))) (l10 : K.lookup f10 = some ⟨oc10, od10, .func (PySem.W.fnOf "_law_mixed" "_law_mixed" (defArgs s_L_mixed) (defBody s_L_mixed) (defScope s_L_mixed) .none kV10 dc10 pm10 an10 cd10 ct10), sl10⟩) (c10 : PySem.W.codeIn K cd10 "_law_mixed" = true) (k10 : PySem.W.keepIn K (.ref f10) = true)
    (a11 : PySem.W.nsIn K mainGlobals "_law_alphabet" = some (some (.ref f11))) (l11 : K.lookup f11 = some ⟨oc11, od11, .func (PySem.W.fnOf "_law_alphabet" "_law_alphabet" (defArgs s_L_alphabet) (defBody s_L_alphabet) (defScope s_L_alphabet) .none kV11 dc11 pm11 an11 cd11 ct11), sl11⟩) (c11 : PySem.W.codeIn K cd11 "_law_alphabet" = true) (k11 : PySem.W.keepIn K (.ref f11) = true)
    (a12 : PySem.W.nsIn K mainGlobals "_law_text" = some (some (.ref f12))) (l12 : K.lookup f12 = some ⟨oc12, od12, .func (PySem.W.fnOf "_law_text" "_law_text" (defArgs s_L_text) (defBody s_L_text) (defScope s_L_text) .none kV12 dc12 pm12 an12 cd12 ct12), sl12⟩) (c12 : PySem.W.codeIn K cd12 "_law_text" = true) (k12 : PySem.W.keepIn K (.ref f12) = true)
    (a13 : PySem.W.nsIn K mainGlobals "_law_alike" = some (some (.ref f13))) (l13 : K.lookup f13 = some ⟨oc13, od13, .func (PySem.W.fnOf "_law_alike" "_law_alike" (defArgs s_L_alike) (defBody s_L_alike) (defScope s_L_alike) .none kV13 dc13 pm13 an13 cd13 ct13), sl13⟩) (c13 : PySem.W.codeIn K cd13 "_law_alike" = true) (k13 : PySem.W.keepIn K (.ref f13) = true)
    (a14 : PySem.W.nsIn K mainGlobals "_law_pattern" = some (some (.ref f14))) (l14 : K.lookup f14 = some ⟨oc14, od14, .func (PySem.W.fnOf "_law_pattern" "_law_pattern" (defArgs s_L_pattern) (defBody s_L_pattern) (defScope s_L_pattern) .none kV14 dc14 pm14 an14 cd14 ct14), sl14⟩) (c14 : PySem.W.codeIn K cd14 "_law_pattern" = true) (k14 : PySem.W.keepIn K (.ref f14) = true)
    (a15 : PySem.W.nsIn K mainGlobals "_law_ticks" = some (some (.ref f15))) (l15 : K.lookup f15 = some ⟨oc15, od15, .func (PySem.W.fnOf "_law_ticks" "_law_ticks" (defArgs s_L_ticks) (defBody s_L_ticks) (defScope s_L_ticks) .none kV15 dc15 pm15 an15 cd15 ct15), sl15⟩) (c15 : PySem.W.codeIn K cd15 "_law_ticks" = true) (k15 : PySem.W.keepIn K (.ref f15) = true)
    (a16 : PySem.W.nsIn K mainGlobals "_law_tick" = some (some (.ref f16))) (l16 : K.lookup f16 = some ⟨oc16, od16, .func (PySem.W.fnOf "_law_tick" "_law_tick" (defArgs s_L_tick) (defBody s_L_tick) (defScope s_L_tick) .none kV16 dc16 pm16 an16 cd16 ct16), sl16⟩) (c16 : PySem.W.codeIn K cd16 "_law_tick" = true) (k16 : PySem.W.keepIn K (.ref f16) = true)
    (a17 : PySem.W.nsIn K mainGlobals "law" = some (some (.ref f17))) (l17 : K.lookup f17 = some ⟨oc17, od17, .func (PySem.W.fnOf "law" "law" (defArgs s_law) (defBody s_law) (defScope s_law) .none kV17 dc17 pm17 an17 cd17 ct17), sl17⟩) (c17 : PySem.W.codeIn K cd17 "law" = true) (k17 : PySem.W.keepIn K (.ref f17) = true)
    (z_abs : PySem.W.nsIn K mainGlobals "abs" = some none)
    (z_enumerate : PySem.W.nsIn K mainGlobals "enumerate" = some none)
    (z_int : PySem.W.nsIn K mainGlobals "int" = some none)
    (z_len : PySem.W.nsIn K mainGlobals "len" = some none)
    (z_max : PySem.W.nsIn K mainGlobals "max" = some none)
    (z_range : PySem.W.nsIn K mainGlobals "range" = some none)
    (z_repr : PySem.W.nsIn K mainGlobals "repr" = some none)
    (z_set : PySem.W.nsIn K mainGlobals "set" = some none)
    (z_tuple : PySem.W.nsIn K mainGlobals "tuple" = some none)
    : ∃ fd : FuncData, (∀ (s : Shared) (v : Value), BindsTo s fd ⟨[v], []⟩ [("_law_script", v)]) ∧ ∀ base : Heap, K.In base → base.Ns mainGlobals mg → FnG ⟨l.prog, w, K, mg, base⟩ 4 fa fd ["_law_script"] (spF K F_law) := by
  have e := hfa.symm.trans (PySem.W.mg_of X G a17)
  cases e
  refine ⟨PySem.W.fnOf "law" "law" (defArgs s_law) (defBody s_law) (defScope s_law) .none kV17 dc17 pm17 an17 cd17 ct17, fun s v => .of_eq rfl, fun base _ _ => ?_⟩
  have b_abs := PySem.W.mg_none_of X G z_abs
  have b_enumerate := PySem.W.mg_none_of X G z_enumerate
  have b_int := PySem.W.mg_none_of X G z_int
  have b_len := PySem.W.mg_none_of X G z_len
  have b_max := PySem.W.mg_none_of X G z_max
  have b_range := PySem.W.mg_none_of X G z_range
  have b_repr := PySem.W.mg_none_of X G z_repr
  have b_set := PySem.W.mg_none_of X G z_set
  have b_tuple := PySem.W.mg_none_of X G z_tuple
  have F1 := fun_mk (st := s_pattern_of) l1 c1 k1
  have B1 := F1.binds (ps := ["left", "right"]) fun _ _ _ _ _ _ us hl => match us, hl with | [_, _], _ => rfl
  have K_pattern_of := k_pattern_of (W := ⟨l.prog, w, K, mg, base⟩) b_len b_tuple F1 (PySem.W.mg_of X G a1) B1
  have F2 := fun_mk (st := s_size_of) l2 c2 k2
  have B2 := F2.binds (ps := ["pattern"]) fun _ _ _ _ _ _ us hl => match us, hl with | [_], _ => rfl
  have K_size_of := k_size_of (W := ⟨l.prog, w, K, mg, base⟩) b_max F2 (PySem.W.mg_of X G a2) B2
  have F3 := fun_mk (st := s_ticks) l3 c3 k3
  have B3 := F3.binds (ps := ["pattern"]) fun _ _ _ _ _ _ us hl => match us, hl with | [_], _ => rfl
  have K_ticks := k_ticks (W := ⟨l.prog, w, K, mg, base⟩) b_int b_range K_size_of F3 (PySem.W.mg_of X G a3) B3
  have F4 := fun_mk (st := s_tick_of) l4 c4 k4
  have B4 := F4.binds (ps := ["left", "right", "x", "y"]) fun _ _ _ _ _ _ us hl => match us, hl with | [_, _, _, _], _ => rfl
  have K_tick_of := k_tick_of (W := ⟨l.prog, w, K, mg, base⟩) b_len F4 (PySem.W.mg_of X G a4) B4
  have F5 := fun_mk (st := s_grown) l5 c5 k5
  have B5 := F5.binds (ps := ["pattern", "tick"]) fun _ _ _ _ _ _ us hl => match us, hl with | [_, _], _ => rfl
  have K_grown := k_grown (W := ⟨l.prog, w, K, mg, base⟩) K_pattern_of F5 (PySem.W.mg_of X G a5) B5
  have F6 := fun_mk (st := s_cut) l6 c6 k6
  have B6 := F6.binds (ps := ["pattern", "left", "right"]) fun _ _ _ _ _ _ us hl => match us, hl with | [_, _, _], _ => rfl
  have K_cut := k_cut (W := ⟨l.prog, w, K, mg, base⟩) K_pattern_of F6 (PySem.W.mg_of X G a6) B6
  have F7 := fun_mk (st := s_L_bag) l7 c7 k7
  have B7 := F7.binds (ps := ["_law_script"]) fun _ _ _ _ _ _ us hl => match us, hl with | [_], _ => rfl
  have K_L_bag := k_L_bag (W := ⟨l.prog, w, K, mg, base⟩) b_abs F7 (PySem.W.mg_of X G a7) B7
  have F8 := fun_mk (st := s_L_take) l8 c8 k8
  have B8 := F8.binds (ps := ["_law_bag_here", "_law_many"]) fun _ _ _ _ _ _ us hl => match us, hl with | [_, _], _ => rfl
  have K_L_take := k_L_take (W := ⟨l.prog, w, K, mg, base⟩) b_int F8 (PySem.W.mg_of X G a8) B8
  have F9 := fun_mk (st := s_L_one) l9 c9 k9
  have B9 := F9.binds (ps := ["_law_bag_here", "_law_some"]) fun _ _ _ _ _ _ us hl => match us, hl with | [_, _], _ => rfl
  have K_L_one := k_L_one (W := ⟨l.prog, w, K, mg, base⟩) b_len K_L_take F9 (PySem.W.mg_of X G a9) B9
  have F10 := fun_mk (st := s_L_mixed) l10 c10 k10
  have B10 := F10.binds (ps := ["_law_bag_here", "_law_things"]) fun _ _ _ _ _ _ us hl => match us, hl with | [_, _], _ => rfl
  have K_L_mixed := k_L_mixed (W := ⟨l.prog, w, K, mg, base⟩) b_len K_L_take F10 (PySem.W.mg_of X G a10) B10
  have F11 := fun_mk (st := s_L_alphabet) l11 c11 k11
  have B11 := F11.binds (ps := ["_law_bag_here"]) fun _ _ _ _ _ _ us hl => match us, hl with | [_], _ => rfl
  have K_L_alphabet := k_L_alphabet (W := ⟨l.prog, w, K, mg, base⟩) K_L_one K_L_mixed F11 (PySem.W.mg_of X G a11) B11
  have F12 := fun_mk (st := s_L_text) l12 c12 k12
  have B12 := F12.binds (ps := ["_law_bag_here", "_law_letters", "_law_most"]) fun _ _ _ _ _ _ us hl => match us, hl with | [_, _, _], _ => rfl
  have K_L_text := k_L_text (W := ⟨l.prog, w, K, mg, base⟩) b_range b_tuple K_L_take K_L_one F12 (PySem.W.mg_of X G a12) B12
  have F13 := fun_mk (st := s_L_alike) l13 c13 k13
  have B13 := F13.binds (ps := ["_law_found", "_law_due"]) fun _ _ _ _ _ _ us hl => match us, hl with | [_, _], _ => rfl
  have K_L_alike := k_L_alike (W := ⟨l.prog, w, K, mg, base⟩) b_repr F13 (PySem.W.mg_of X G a13) B13
  have F14 := fun_mk (st := s_L_pattern) l14 c14 k14
  have B14 := F14.binds (ps := ["_law_left", "_law_right"]) fun _ _ _ _ _ _ us hl => match us, hl with | [_, _], _ => rfl
  have K_L_pattern := k_L_pattern (W := ⟨l.prog, w, K, mg, base⟩) b_tuple F14 (PySem.W.mg_of X G a14) B14
  have F15 := fun_mk (st := s_L_ticks) l15 c15 k15
  have B15 := F15.binds (ps := ["_law_pattern_here"]) fun _ _ _ _ _ _ us hl => match us, hl with | [_], _ => rfl
  have K_L_ticks := k_L_ticks (W := ⟨l.prog, w, K, mg, base⟩) b_int b_len b_range b_set F15 (PySem.W.mg_of X G a15) B15
  have F16 := fun_mk (st := s_L_tick) l16 c16 k16
  have B16 := F16.binds (ps := ["_law_left", "_law_right", "_law_x", "_law_y"]) fun _ _ _ _ _ _ us hl => match us, hl with | [_, _, _, _], _ => rfl
  have K_L_tick := k_L_tick (W := ⟨l.prog, w, K, mg, base⟩) b_len b_set K_L_pattern F16 (PySem.W.mg_of X G a16) B16
  exact fn_of (fun_mk (st := s_law) l17 c17 k17) sc_law (d_law (W := ⟨l.prog, w, K, mg, base⟩) b_enumerate b_len b_range b_set K_pattern_of K_ticks K_tick_of K_grown K_cut K_L_bag K_L_take K_L_one K_L_alphabet K_L_text K_L_alike K_L_pattern K_L_ticks K_L_tick)
end K65
open PySem PySem.W PyProof.Rows
set_option maxHeartbeats 0 in
theorem PySem.Challenge.cw_saidearly_k65_patterns_of_letters_that_c_holds : PySem.Challenge.rw_saidearly_k65_patterns_of_letters_that_c.Holds := by
  w_on; o_law; k_head; (case hw => w_witness2)
  k_fill
  refine Mi.walk_G (l := PySem.Challenge.rw_saidearly_k65_patterns_of_letters_that_c) (k := 4) (x := "_law_script") rfl rfl ⟨rfl, by decide, by decide⟩ (fun w h Y => PySem.W.kIn_of Y) (fun _ => K65.F_law) ?F (fun w ns h1 h2 => K65.law_true ns h1 h2)
  case F =>
    intro w mg fa h KX G hmg
    refine' K65.all_mk KX G hmg ?a1 ?l1 ?c1 ?k1 ?a2 ?l2 ?c2 ?k2 ?a3 ?l3 ?c3 ?k3 ?a4 ?l4 ?c4 ?k4 ?a5 ?l5 ?c5 ?k5 ?a6 ?l6 ?c6 ?k6 ?a7 ?l7 ?c7 ?k7 ?a8 ?l8 ?c8 ?k8 ?a9 ?l9 ?c9 ?k9 ?a10 ?l10 ?c10 ?k10 ?a11 ?l11 ?c11 ?k11 ?a12 ?l12 ?c12 ?k12 ?a13 ?l13 ?c13 ?k13 ?a14 ?l14 ?c14 ?k14 ?a15 ?l15 ?c15 ?k15 ?a16 ?l16 ?c16 ?k16 ?a17 ?l17 ?c17 ?k17 ?z_abs ?z_enumerate ?z_int ?z_len ?z_max ?z_range ?z_repr ?z_set ?z_tuple
    (case a1 => k_is); (case l1 => k_is); (case c1 => k_is); (case k1 => k_is)
    (case a2 => k_is); (case l2 => k_is); (case c2 => k_is); (case k2 => k_is)
    (case a3 => k_is); (case l3 => k_is); (case c3 => k_is); (case k3 => k_is)
    (case a4 => k_is); (case l4 => k_is); (case c4 => k_is); (case k4 => k_is)
    (case a5 => k_is); (case l5 => k_is); (case c5 => k_is); (case k5 => k_is)
    (case a6 => k_is); (case l6 => k_is); (case c6 => k_is); (case k6 => k_is)
    (case a7 => k_is); (case l7 => k_is); (case c7 => k_is); (case k7 => k_is)
    (case a8 => k_is); (case l8 => k_is); (case c8 => k_is); (case k8 => k_is)
    (case a9 => k_is); (case l9 => k_is); (case c9 => k_is); (case k9 => k_is)
    (case a10 => k_is); (case l10 => k_is); (case c10 => k_is); (case k10 => k_is)
    (case a11 => k_is); (case l11 => k_is); (case c11 => k_is); (case k11 => k_is)
    (case a12 => k_is); (case l12 => k_is); (case c12 => k_is); (case k12 => k_is)
    (case a13 => k_is); (case l13 => k_is); (case c13 => k_is); (case k13 => k_is)
    (case a14 => k_is); (case l14 => k_is); (case c14 => k_is); (case k14 => k_is)
    (case a15 => k_is); (case l15 => k_is); (case c15 => k_is); (case k15 => k_is)
    (case a16 => k_is); (case l16 => k_is); (case c16 => k_is); (case k16 => k_is)
    (case a17 => k_is); (case l17 => k_is); (case c17 => k_is); (case k17 => k_is)
    (case z_abs => k_is); (case z_enumerate => k_is); (case z_int => k_is); (case z_len => k_is); (case z_max => k_is); (case z_range => k_is); (case z_repr => k_is); (case z_set => k_is); (case z_tuple => k_is)
