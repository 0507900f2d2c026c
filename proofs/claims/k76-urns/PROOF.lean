import PyProof.Rows.All
import HandS.ForMost
import HandS.Wide
import HandS.Zip
import HandS.Style
import HandS.IsInst
import HandS.TupAny
import HandS.RaiseMore
import KE.KRevSl
import PyProof.ReprRoads
import PyProof.WalksMore
import PyProof.SumWalkG
import HandS.SetFor
import PyProof.ReprLen
import PyProof.ReprText
import PyProof.P3Eq
import HandS.Ends
import PySem.Challenge.RW_nosurewin_k76_urns_whose_draws_may_be_ex
set_option Elab.async false
set_option linter.all false
set_option maxRecDepth 100000
set_option maxHeartbeats 4000000
namespace Nz
open PySem PySem.Spec PyProof.Rows L2

/-! ### heaps: growth, hiding -/
def Ex (H H' : Hp) : Prop := ∀ a o, H a = some o → H' a = some o
theorem Ex.refl (H : Hp) : Ex H H := fun _ _ h => h
theorem Ex.trans {H H1 H2 : Hp} (a : Ex H H1) (b : Ex H1 H2) : Ex H H2 := fun x o h => b x o (a x o h)
theorem Ex.new {H : Hp} {p : Addr} {o : HO} (h : H p = none) : Ex H (upd H p o) := fun a u e => by
  rw [upd_ne (ne_of_none e h)]; exact e
def hide (S : List Addr) (H : Hp) : Hp := fun a => if a ∈ S then none else H a
theorem hide_some {S : List Addr} {H : Hp} {a : Addr} {o : HO} (h : hide S H a = some o) : a ∉ S ∧ H a = some o := by
  unfold hide at h
  by_cases e : a ∈ S
  · rw [if_pos e] at h; cases h
  · rw [if_neg e] at h; exact ⟨e, h⟩
theorem hide_of {S : List Addr} {H : Hp} {a : Addr} {o : HO} (n : a ∉ S) (h : H a = some o) : hide S H a = some o := by
  unfold hide; rw [if_neg n]; exact h
theorem hide_ex (S : List Addr) (H : Hp) : Ex (hide S H) H := fun _ _ h => (hide_some h).2
/-- less hidden, more there -/
theorem hide_mono {S S' : List Addr} {H H' : Hp} (h : ∀ a o, a ∉ S → H a = some o → a ∉ S' ∧ H' a = some o) : Ex (hide S H) (hide S' H') := fun a o e =>
  have ⟨n, e⟩ := hide_some e
  have ⟨n', e'⟩ := h a o n e
  hide_of n' e'

/-- a tuple with no dict of its own -/
def Pt (K : PySem.W.Frag) (H : Hp) (a : Addr) (xs : List V) : Prop :=
  (∃ o, H a = some (.frz o (.tup xs)) ∧ o.dict = none) ∨
    ∃ (o : Obj) (its : Array Value) (n : Nat), K.lookup a = some o ∧ o.cls = .type "tuple" ∧ o.dict = none ∧ o.data = .seq its n ∧ its.size ≤ sizeLine ∧ Vals xs its.toList
theorem Pt.sq {K : PySem.W.Frag} {H : Hp} {a : Addr} {xs : List V} (h : Pt K H a xs) : SqT K H a xs := by
  rcases h with ⟨o, h, _⟩ | ⟨o, its, n, h1, h2, _, h4, h5, h6⟩
  · exact .inl (.inr ⟨o, h⟩)
  · exact .inr ⟨o, its, n, h1, h2, h4, h5, h6⟩
/-! data at any depth; tuples have no dict of their own -/
mutual
inductive Dz (K : PySem.W.Frag) (H : Hp) : V → PyData → Prop
  | non : Dz K H .non .none
  | bl (b : Bool) : Dz K H (.bl b) (.bool b)
  | int (i : Int) : Dz K H (.int i) (.int i)
  | str (x : Str) : Dz K H (.str x) (.str x)
  | lst {a : Addr} {xs : List V} {ds : List PyData} : SqL K H a xs → DzAll K H xs ds → Dz K H (.ref a) (.list ds)
  | tup {a : Addr} {xs : List V} {ds : List PyData} : Pt K H a xs → DzAll K H xs ds → Dz K H (.ref a) (.tuple ds)
inductive DzAll (K : PySem.W.Frag) (H : Hp) : List V → List PyData → Prop
  | nil : DzAll K H [] []
  | cons {v : V} {vs : List V} {d : PyData} {ds : List PyData} : Dz K H v d → DzAll K H vs ds → DzAll K H (v :: vs) (d :: ds)
end
section
variable {K : PySem.W.Frag} {H H' : Hp}
mutual
theorem dz_dp : ∀ (d : PyData) (v : V), Dz K H v d → Dp K H v d
  | .none, _, h => by cases h; exact .non
  | .bool b, _, h => by cases h; exact .bl b
  | .int i, _, h => by cases h; exact .int i
  | .str x, _, h => by cases h; exact .str x
  | .list ds, _, h => by
    cases h with
    | lst hs ha => exact .lst hs (dza_dpa ds _ ha)
  | .tuple ds, _, h => by
    cases h with
    | tup hs ha => exact .tup hs.sq (dza_dpa ds _ ha)
  | .dict _, _, h => by cases h
theorem dza_dpa : ∀ (ds : List PyData) (vs : List V), DzAll K H vs ds → DpAll K H vs ds
  | [], _, h => by cases h; exact .nil
  | d :: ds, _, h => by
    cases h with
    | cons h1 h2 => exact .cons (dz_dp d _ h1) (dza_dpa ds _ h2)
end
end

section
variable {K : PySem.W.Frag} {H H' : Hp}
theorem ex_rd {a : Addr} {u : HO} (e : Ex H H') (h : Rd H a u) : Rd H' a u := by
  rcases h with h | ⟨o, h⟩
  · exact Or.inl (e a _ h)
  · exact Or.inr ⟨o, e a _ h⟩
theorem ex_l {a : Addr} {xs : List V} (e : Ex H H') (h : SqL K H a xs) : SqL K H' a xs := by
  rcases h with h | h
  · exact Or.inl (ex_rd e h)
  · exact Or.inr h
theorem ex_t {a : Addr} {xs : List V} (e : Ex H H') (h : SqT K H a xs) : SqT K H' a xs := by
  rcases h with h | h
  · exact Or.inl (ex_rd e h)
  · exact Or.inr h
theorem ex_p {a : Addr} {xs : List V} (e : Ex H H') (h : Pt K H a xs) : Pt K H' a xs := by
  rcases h with ⟨o, h, z⟩ | h
  · exact .inl ⟨o, e a _ h, z⟩
  · exact .inr h
theorem sq_of {a : Addr} {xs : List V} (h : H a = some (.lst xs)) : SqL K H a xs := Or.inl (Or.inl h)
theorem pt_of {a : Addr} {o : Obj} {xs : List V} (h : H a = some (.frz o (.tup xs))) (z : o.dict = none) : Pt K H a xs := .inl ⟨o, h, z⟩
mutual
theorem dp_mono (e : Ex H H') : ∀ (d : PyData) (v : V), Dz K H v d → Dz K H' v d
  | .none, _, h => by cases h; exact .non
  | .bool b, _, h => by cases h; exact .bl b
  | .int i, _, h => by cases h; exact .int i
  | .str x, _, h => by cases h; exact .str x
  | .list ds, _, h => by
    cases h with
    | lst hs ha => exact .lst (ex_l e hs) (dpa_mono e ds _ ha)
  | .tuple ds, _, h => by
    cases h with
    | tup hs ha => exact .tup (ex_p e hs) (dpa_mono e ds _ ha)
  | .dict _, _, h => by cases h
theorem dpa_mono (e : Ex H H') : ∀ (ds : List PyData) (vs : List V), DzAll K H vs ds → DzAll K H' vs ds
  | [], _, h => by cases h; exact .nil
  | d :: ds, _, h => by
    cases h with
    | cons h1 h2 => exact .cons (dp_mono e d _ h1) (dpa_mono e ds _ h2)
end
theorem dpm (e : Ex H H') {d : PyData} {v : V} (h : Dz K H v d) : Dz K H' v d := dp_mono e d v h
theorem dpam (e : Ex H H') {ds : List PyData} {vs : List V} (h : DzAll K H vs ds) : DzAll K H' vs ds := dpa_mono e ds vs h
theorem dp_int {v : V} {i : Int} (h : Dz K H v (.int i)) : v = .int i := by cases h; rfl
theorem dp_bl {v : V} {b : Bool} (h : Dz K H v (.bool b)) : v = .bl b := by cases h; rfl
theorem dp_str {v : V} {x : Str} (h : Dz K H v (.str x)) : v = .str x := by cases h; rfl
theorem dp_non {v : V} (h : Dz K H v .none) : v = .non := by cases h; rfl
theorem dp_tup {v : V} {ds : List PyData} (h : Dz K H v (.tuple ds)) : ∃ a xs, v = .ref a ∧ Pt K H a xs ∧ DzAll K H xs ds := by
  cases h with
  | tup hs ha => exact ⟨_, _, rfl, hs, ha⟩
theorem dp_lst {v : V} {ds : List PyData} (h : Dz K H v (.list ds)) : ∃ a xs, v = .ref a ∧ SqL K H a xs ∧ DzAll K H xs ds := by
  cases h with
  | lst hs ha => exact ⟨_, _, rfl, hs, ha⟩
theorem dpa_length : ∀ {ds : List PyData} {xs : List V}, DzAll K H xs ds → xs.length = ds.length
  | [], _, h => by cases h; rfl
  | _ :: _, _, h => by
    cases h with
    | cons _ h2 => rw [List.length_cons, List.length_cons, dpa_length h2]
theorem dpa_get : ∀ {ds : List PyData} {xs : List V} {i : Nat} {d : PyData}, DzAll K H xs ds → ds[i]? = some d → ∃ v, xs[i]? = some v ∧ Dz K H v d
  | [], _, _, _, h, e => by simp at e
  | d :: ds, _, 0, _, h, e => by
    cases h with
    | cons h1 h2 =>
      have e' := Option.some.inj e
      subst e'
      exact ⟨_, rfl, h1⟩
  | d :: ds, _, i + 1, d', h, e => by
    cases h with
    | cons h1 h2 =>
      obtain ⟨v, a, b⟩ := dpa_get (i := i) (d := d') h2 (by simpa using e)
      exact ⟨v, by simpa using a, b⟩
theorem dpa_getV : ∀ {ds : List PyData} {xs : List V} {i : Nat} {v : V}, DzAll K H xs ds → xs[i]? = some v → ∃ d, ds[i]? = some d ∧ Dz K H v d := fun {ds xs i v} h e => by
  have hl := dpa_length h
  have hi : i < xs.length := (List.getElem?_eq_some_iff.mp e).1
  have hi' : i < ds.length := by omega
  have ⟨w, a, b⟩ := dpa_get h (List.getElem?_eq_getElem hi')
  rw [a] at e; cases e
  exact ⟨_, List.getElem?_eq_getElem hi', b⟩
theorem dpa_append : ∀ {ds es : List PyData} {xs ys : List V}, DzAll K H xs ds → DzAll K H ys es → DzAll K H (xs ++ ys) (ds ++ es)
  | [], _, _, _, h, h2 => by cases h; exact h2
  | _ :: _, _, _, _, h, h2 => by
    cases h with
    | cons a b => exact .cons a (dpa_append b h2)
theorem dpa_set : ∀ {ds : List PyData} {xs : List V} {v : V} {d : PyData} (i : Nat), DzAll K H xs ds → Dz K H v d → DzAll K H (xs.set i v) (ds.set i d)
  | [], _, _, _, _, h, _ => by cases h; exact .nil
  | _ :: _, _, _, _, 0, h, h2 => by
    cases h with
    | cons a b => exact .cons h2 b
  | _ :: _, _, _, _, i + 1, h, h2 => by
    cases h with
    | cons a b => exact .cons a (dpa_set i b h2)
theorem dpa_take : ∀ {ds : List PyData} {xs : List V} (n : Nat), DzAll K H xs ds → DzAll K H (xs.take n) (ds.take n)
  | _, _, 0, _ => by simp; exact .nil
  | [], _, _ + 1, h => by cases h; exact .nil
  | _ :: _, _, n + 1, h => by
    cases h with
    | cons a b => exact .cons a (dpa_take n b)
theorem dpa_drop : ∀ {ds : List PyData} {xs : List V} (n : Nat), DzAll K H xs ds → DzAll K H (xs.drop n) (ds.drop n)
  | _, _, 0, h => h
  | [], _, _ + 1, h => by cases h; exact .nil
  | _ :: _, _, n + 1, h => by
    cases h with
    | cons a b => exact dpa_drop n b
theorem dpa_rev {ds : List PyData} {xs : List V} (h : DzAll K H xs ds) : DzAll K H xs.reverse ds.reverse := by
  induction ds generalizing xs with
  | nil => cases h; exact .nil
  | cons d ds ih =>
    cases h with
    | cons a b =>
      rw [List.reverse_cons, List.reverse_cons]
      exact dpa_append (ih b) (.cons a .nil)
theorem dpa_rep {ds : List PyData} {xs : List V} (h : DzAll K H xs ds) : ∀ k : Nat, DzAll K H (List.replicate k xs).flatten (List.replicate k ds).flatten
  | 0 => by simp; exact .nil
  | k + 1 => by
    rw [List.replicate_succ, List.replicate_succ, List.flatten_cons, List.flatten_cons]
    exact dpa_append h (dpa_rep h k)
theorem dpaInts : ∀ {ns : List Int} {xs : List V}, DzAll K H xs (ns.map .int) → xs = ns.map V.int
  | [], _, h => by cases h; rfl
  | n :: ns, _, h => by
    cases h with
    | cons a b => rw [dp_int a, dpaInts b]; rfl
theorem dpa_ints : ∀ (ns : List Int), DzAll K H (ns.map V.int) (ns.map .int)
  | [] => .nil
  | n :: ns => .cons (.int n) (dpa_ints ns)
theorem dpaBools : ∀ {ns : List Bool} {xs : List V}, DzAll K H xs (ns.map .bool) → xs = ns.map V.bl
  | [], _, h => by cases h; rfl
  | n :: ns, _, h => by
    cases h with
    | cons a b => rw [dp_bl a, dpaBools b]; rfl
end

/-! ### what a frame holds -/
inductive MO where
  | lst (ds : List PyData)
  | dK (kvs : List (Key × PyData))
  | dT (kvs : List (List Key × PyData))
  /-- a list, of which P is known -/
  | any (P : List PyData → Prop)
inductive Sl where
  /-- nothing is known -/
  | no
  /-- data, never changed -/
  | da (d : PyData)
  /-- a thing that may change: of the frame's own (l), or borrowed -/
  | mu (l : Bool) (a : Addr) (o : MO)
  /-- just this value -/
  | vl (v : V)
structure Cz where
  K : PySem.W.Frag
  /-- the heap at the entry -/
  B : Hp
  /-- what is borrowed and may be changed -/
  M : List Addr
  /-- what the caller hides -/
  S0 : List Addr
def mutA : Sl → Option Addr
  | .mu _ a _ => some a
  | _ => none
def muts (ρ : List Sl) : List Addr := ρ.filterMap mutA
abbrev hid (c : Cz) (ρ : List Sl) : List Addr := c.S0 ++ muts ρ
theorem mem_muts {ρ : List Sl} {a : Addr} : a ∈ muts ρ ↔ ∃ (i : Nat) (l : Bool) (o : MO), ρ[i]? = some (Sl.mu l a o) := by
  unfold muts
  rw [List.mem_filterMap]
  constructor
  · rintro ⟨s, hs, e⟩
    obtain ⟨i, hi⟩ := List.mem_iff_getElem?.mp hs
    cases s <;> simp [mutA] at e
    subst e
    exact ⟨i, _, _, hi⟩
  · rintro ⟨i, l, o, h⟩
    exact ⟨_, List.mem_of_getElem? h, rfl⟩
def KVd {κ : Type} (K : PySem.W.Frag) (H : Hp) : List (κ × V) → List (κ × PyData) → Prop := Paired fun p q => p.1 = q.1 ∧ Dz K H p.2 q.2
def MoOk (K : PySem.W.Frag) (S : List Addr) (H : Hp) (a : Addr) : MO → Prop
  | .lst ds => ∃ xs, H a = some (.lst xs) ∧ DzAll K (hide S H) xs ds
  | .dK kvs => ∃ xs, H a = some (.dK xs) ∧ KVd K (hide S H) xs kvs
  | .dT kvs => ∃ xs, H a = some (.dT xs) ∧ KVd K (hide S H) xs kvs
  | .any P => ∃ xs, H a = some (.lst xs) ∧ ∃ ds, P ds ∧ DzAll K (hide S H) xs ds
def SlOk (c : Cz) (S : List Addr) (H : Hp) (x : Option (Option V)) : Sl → Prop
  | .no => True
  | .da d => ∃ v, x = some (some v) ∧ Dz c.K (hide S H) v d
  | .mu l a o => x = some (some (.ref a)) ∧ (if l = true then c.B a = none else a ∈ c.M) ∧ MoOk c.K S H a o
  | .vl v => x = some (some v)
theorem MoOk.there {K : PySem.W.Frag} {S : List Addr} {H : Hp} {a : Addr} {o : MO} (h : MoOk K S H a o) : ∃ u, H a = some u := by
  cases o <;> exact ⟨_, h.choose_spec.1⟩
theorem KVd.mono {κ : Type} {K : PySem.W.Frag} {H H' : Hp} {xs : List (κ × V)} {kvs : List (κ × PyData)} (e : Ex H H') (h : KVd K H xs kvs) : KVd K H' xs kvs :=
  Paired.mapP h fun _ _ z => ⟨z.1, dpm e z.2⟩
theorem MoOk.mono {K : PySem.W.Frag} {S S' : List Addr} {H H' : Hp} {a : Addr} {o : MO} (e : Ex (hide S H) (hide S' H')) (he : H' a = H a) (h : MoOk K S H a o) : MoOk K S' H' a o := by
  cases o with
  | lst ds => obtain ⟨xs, h1, h2⟩ := h; exact ⟨xs, he.trans h1, dpam e h2⟩
  | dK ds => obtain ⟨xs, h1, h2⟩ := h; exact ⟨xs, he.trans h1, h2.mono e⟩
  | dT ds => obtain ⟨xs, h1, h2⟩ := h; exact ⟨xs, he.trans h1, h2.mono e⟩
  | any P => obtain ⟨xs, h1, ds, h3, h2⟩ := h; exact ⟨xs, he.trans h1, ds, h3, dpam e h2⟩

abbrev Tm := List (V × PyData)
structure Wd (c : Cz) (T : Tm) (H : Hp) (σ : L2.St) (ρ : List Sl) : Prop where
  len : σ.length = ρ.length
  keep : ∀ a o, a ∉ c.M → c.B a = some o → H a = some o
  sub : ∀ a ∈ c.M, a ∈ c.S0
  dom : ∀ a ∈ c.S0, ∃ o, H a = some o
  tmp : ∀ p ∈ T, Dz c.K (hide (hid c ρ) H) p.1 p.2
  inj : ∀ (i j : Nat) (l m : Bool) (a : Addr) (o u : MO), ρ[i]? = some (Sl.mu l a o) → ρ[j]? = some (Sl.mu m a u) → i = j
  ap : ∀ (i : Nat) (a : Addr) (o : MO), ρ[i]? = some (Sl.mu true a o) → a ∉ c.S0
  ok : ∀ (i : Nat) (s : Sl), ρ[i]? = some s → SlOk c (hid c ρ) H σ[i]? s

section
variable {c : Cz} {T : Tm} {H H' : Hp} {σ σ' : L2.St} {ρ ρ' : List Sl}
theorem Wd.there (W : Wd c T H σ ρ) {a : Addr} (h : a ∈ hid c ρ) : ∃ o, H a = some o := by
  rcases List.mem_append.mp h with h | h
  · exact W.dom a h
  · obtain ⟨i, l, o, e⟩ := mem_muts.mp h
    exact (W.ok i _ e).2.2.there
theorem Wd.fresh (W : Wd c T H σ ρ) {p : Addr} (h : H p = none) : p ∉ hid c ρ := fun m => by
  obtain ⟨o, e⟩ := W.there m
  rw [h] at e; cases e
theorem Wd.freshB (W : Wd c T H σ ρ) {p : Addr} (h : H p = none) : c.B p = none := by
  cases e : c.B p with
  | none => rfl
  | some o =>
    have n : p ∉ c.M := fun m => W.fresh h (List.mem_append_left _ (W.sub p m))
    have := W.keep p o n e
    rw [h] at this; cases this
/-- the heap has grown -/
theorem Wd.grow (W : Wd c T H σ ρ) (e : Ex H H') : Wd c T H' σ ρ := by
  have e2 : Ex (hide (hid c ρ) H) (hide (hid c ρ) H') := hide_mono fun a o n h => ⟨n, e a o h⟩
  refine ⟨W.len, fun a o n h => e _ _ (W.keep a o n h), W.sub, fun a h => ?_, fun p hp => dpm e2 (W.tmp p hp), W.inj, W.ap, fun i s h => ?_⟩
  · obtain ⟨o, h1⟩ := W.dom a h
    exact ⟨o, e _ _ h1⟩
  · have h1 := W.ok i s h
    cases s with
    | no => exact h1
    | da d => obtain ⟨v, a, b⟩ := h1; exact ⟨v, a, dpm e2 b⟩
    | mu l a o =>
      obtain ⟨x, y, z⟩ := h1
      obtain ⟨u, hu⟩ := z.there
      exact ⟨x, y, z.mono e2 (by rw [hu, e _ _ hu])⟩
    | vl v => exact h1
theorem Wd.push (W : Wd c T H σ ρ) {v : V} {d : PyData} (h : Dz c.K (hide (hid c ρ) H) v d) : Wd c ((v, d) :: T) H σ ρ :=
  ⟨W.len, W.keep, W.sub, W.dom, fun p hp => by
    rcases List.mem_cons.mp hp with e | e
    · subst e; exact h
    · exact W.tmp p e, W.inj, W.ap, W.ok⟩
theorem Wd.tmps {T' : Tm} (W : Wd c T H σ ρ) (h : ∀ p ∈ T', p ∈ T) : Wd c T' H σ ρ := ⟨W.len, W.keep, W.sub, W.dom, fun p hp => W.tmp p (h p hp), W.inj, W.ap, W.ok⟩
theorem Wd.pop {p : V × PyData} (W : Wd c (p :: T) H σ ρ) : Wd c T H σ ρ := W.tmps fun _ h => List.mem_cons_of_mem _ h
theorem Wd.top {v : V} {d : PyData} (W : Wd c ((v, d) :: T) H σ ρ) : Dz c.K H v d := dpm (hide_ex _ _) (W.tmp (v, d) (List.mem_cons_self ..))
theorem Wd.at {v : V} {d : PyData} (W : Wd c T H σ ρ) (h : (v, d) ∈ T) : Dz c.K H v d := dpm (hide_ex _ _) (W.tmp _ h)
theorem slOk_mono {S S' : List Addr} {x : Option (Option V)} {s : Sl} (e : Ex (hide S H) (hide S' H')) (he : ∀ a, mutA s = some a → H' a = H a) (h : SlOk c S H x s) : SlOk c S' H' x s := by
  cases s with
  | no => exact h
  | da d => obtain ⟨v, a, b⟩ := h; exact ⟨v, a, dpm e b⟩
  | mu l a o => obtain ⟨x, y, z⟩ := h; exact ⟨x, y, z.mono e (he a rfl)⟩
  | vl v => exact h
theorem get_set {α : Type} {l : List α} {i j : Nat} {x y : α} (h : (l.set i x)[j]? = some y) : (i = j ∧ i < l.length ∧ y = x) ∨ (i ≠ j ∧ l[j]? = some y) := by
  by_cases q : i = j
  · subst q
    have hi := (List.getElem?_eq_some_iff.mp h).1
    rw [List.length_set] at hi
    rw [List.getElem?_set_self hi] at h
    cases h
    exact .inl ⟨rfl, hi, rfl⟩
  · rw [List.getElem?_set_ne q] at h
    exact .inr ⟨q, h⟩
/-- a slot is stored, nothing that may change -/
theorem Wd.setN (W : Wd c T H σ ρ) (i : Nat) (x : Option V) (s : Sl) (hs : mutA s = none) (h : SlOk c (hid c ρ) H (some x) s) : Wd c T H (σ.set i x) (ρ.set i s) := by
  have r : ∀ {j : Nat} {l : Bool} {a : Addr} {o : MO}, (ρ.set i s)[j]? = some (.mu l a o) → i ≠ j ∧ ρ[j]? = some (.mu l a o) := fun {j l a o} h => by
    rcases get_set h with ⟨_, _, e⟩ | e
    · rw [← e] at hs; cases hs
    · exact e
  have sub : ∀ a, a ∈ hid c (ρ.set i s) → a ∈ hid c ρ := fun a m => by
    rcases List.mem_append.mp m with m | m
    · exact List.mem_append_left _ m
    · obtain ⟨j, l, o, e⟩ := mem_muts.mp m
      exact List.mem_append_right _ (mem_muts.mpr ⟨j, l, o, (r e).2⟩)
  have e2 : Ex (hide (hid c ρ) H) (hide (hid c (ρ.set i s)) H) := hide_mono fun a o n h => ⟨fun m => n (sub a m), h⟩
  refine ⟨by rw [List.length_set, List.length_set]; exact W.len, W.keep, W.sub, W.dom, fun p hp => dpm e2 (W.tmp p hp), fun j k l m a o u h1 h2 => W.inj j k l m a o u (r h1).2 (r h2).2, fun j a o h1 => W.ap j a o (r h1).2, fun j z hz => ?_⟩
  rcases get_set hz with ⟨q, hi, e⟩ | ⟨q, e⟩
  · subst q; subst e
    rw [List.getElem?_set_self (by rw [W.len]; exact hi)]
    exact slOk_mono e2 (fun _ _ => rfl) h
  · rw [List.getElem?_set_ne q]
    exact slOk_mono e2 (fun _ _ => rfl) (W.ok j z e)
theorem Wd.setD {v : V} {d : PyData} (W : Wd c T H σ ρ) (i : Nat) (h : Dz c.K (hide (hid c ρ) H) v d) : Wd c T H (σ.set i (some v)) (ρ.set i (.da d)) :=
  W.setN i (some v) (.da d) rfl ⟨v, rfl, h⟩
/-- what stands at p is hidden too -/
abbrev Cz.hidden (c : Cz) (p : Addr) : Cz := { c with S0 := p :: c.S0 }
theorem Wd.unhide {p : Addr} (W : Wd (c.hidden p) T H σ ρ) (hs : ∀ a ∈ c.M, a ∈ c.S0) : Wd c T H σ ρ := by
  have e2 : Ex (hide (hid (c.hidden p) ρ) H) (hide (hid c ρ) H) := hide_mono fun a o n h => ⟨fun m => n (List.mem_cons_of_mem _ m), h⟩
  exact ⟨W.len, W.keep, hs, fun a h => W.dom a (List.mem_cons_of_mem _ h), fun q hq => dpm e2 (W.tmp q hq), W.inj, fun i a o h m => W.ap i a o h (List.mem_cons_of_mem _ m), fun i s h => by
    have := slOk_mono (H' := H) e2 (fun _ _ => rfl) (W.ok i s h)
    cases s <;> exact this⟩
/-- a fresh thing is hidden -/
theorem Wd.hideNew {p : Addr} {o : HO} (W : Wd c T H σ ρ) (h : H p = none) : Wd (c.hidden p) T (upd H p o) σ ρ := by
  have W2 := W.grow (Ex.new (o := o) h)
  have n := W.fresh h
  have e2 : Ex (hide (hid c ρ) H) (hide (hid (c.hidden p) ρ) (upd H p o)) := hide_mono fun a u m e => ⟨fun q => by
    rcases List.mem_cons.mp q with q | q
    · rw [q, h] at e; cases e
    · exact m q, Ex.new h a u e⟩
  refine ⟨W.len, W2.keep, fun a m => List.mem_cons_of_mem _ (W.sub a m), fun a m => ?_, fun q hq => dpm e2 (W.tmp q hq), W.inj, fun i a u e m => ?_, fun i s m => ?_⟩
  · rcases List.mem_cons.mp m with m | m
    · rw [m]; exact ⟨o, upd_same⟩
    · exact W2.dom a m
  · rcases List.mem_cons.mp m with m | m
    · obtain ⟨z, hz⟩ := (W.ok i _ e).2.2.there
      rw [m, h] at hz; cases hz
    · exact W.ap i a u e m
  · have := slOk_mono (c := c) (H' := upd H p o) e2 (fun a e => by
      cases s with
      | mu l b o' =>
        cases e
        obtain ⟨u, hu⟩ := (W.ok i _ m).2.2.there
        exact upd_ne (ne_of_none hu h)
      | _ => cases e) (W.ok i s m)
    cases s <;> exact this
theorem Wd.notin {p : Addr} (W : Wd (c.hidden p) T H σ ρ) (h0 : p ∉ c.S0) (hs : ∀ a ∈ c.M, a ∈ c.S0) : p ∉ hid c ρ := fun m => by
  rcases List.mem_append.mp m with m | m
  · exact h0 m
  · obtain ⟨i, l, o, e⟩ := mem_muts.mp m
    cases l with
    | true => exact W.ap i p o e (List.mem_cons_self ..)
    | false =>
      have := (W.ok i _ e).2.1
      rw [if_neg (by decide)] at this
      exact h0 (hs p this)
/-- a slot takes a thing that may change -/
theorem Wd.setM {p : Addr} {l : Bool} {o : MO} (W : Wd (c.hidden p) T H σ ρ) (hs : ∀ a ∈ c.M, a ∈ c.S0) (i : Nat) (hB : if l = true then c.B p = none else p ∈ c.M) (hn : p ∉ hid c ρ) (h : MoOk c.K (p :: hid c ρ) H p o) :
    Wd c T H (σ.set i (some (.ref p))) (ρ.set i (.mu l p o)) := by
  have nm : ∀ (j : Nat) (m : Bool) (u : MO), ρ[j]? ≠ some (.mu m p u) := fun j m u e => hn (List.mem_append_right _ (mem_muts.mpr ⟨j, m, u, e⟩))
  have sub : ∀ a, a ∈ hid c (ρ.set i (.mu l p o)) → a ∈ hid (c.hidden p) ρ := fun a m => by
    rcases List.mem_append.mp m with m | m
    · exact List.mem_append_left _ (List.mem_cons_of_mem _ m)
    · obtain ⟨j, l', u, e⟩ := mem_muts.mp m
      rcases get_set e with ⟨_, _, e⟩ | ⟨_, e⟩
      · cases e; exact List.mem_append_left _ (List.mem_cons_self ..)
      · exact List.mem_append_right _ (mem_muts.mpr ⟨j, l', u, e⟩)
  have e2 : Ex (hide (hid (c.hidden p) ρ) H) (hide (hid c (ρ.set i (.mu l p o))) H) := hide_mono fun a o n h => ⟨fun m => n (sub a m), h⟩
  refine ⟨by rw [List.length_set, List.length_set]; exact W.len, W.keep, hs, fun a h => W.dom a (List.mem_cons_of_mem _ h), fun q hq => dpm e2 (W.tmp q hq), fun j k l1 l2 a u u' h1 h2 => ?_, fun j a u h1 => ?_, fun j z hz => ?_⟩
  · rcases get_set h1 with ⟨q, _, e⟩ | ⟨q, e⟩
    · rcases get_set h2 with ⟨q2, _, e'⟩ | ⟨q2, e'⟩
      · exact q.symm.trans q2
      · cases e; exact absurd e' (nm k l2 u')
    · rcases get_set h2 with ⟨q2, _, e'⟩ | ⟨q2, e'⟩
      · cases e'; exact absurd e (nm j l1 u)
      · exact W.inj j k l1 l2 a u u' e e'
  · rcases get_set h1 with ⟨_, _, e⟩ | ⟨_, e⟩
    · cases e; exact fun m => hn (List.mem_append_left _ m)
    · exact fun m => W.ap j a u e (List.mem_cons_of_mem _ m)
  · rcases get_set hz with ⟨q, hi, e⟩ | ⟨q, e⟩
    · subst q; subst e
      rw [List.getElem?_set_self (by rw [W.len]; exact hi)]
      exact ⟨rfl, hB, h.mono e2 rfl⟩
    · rw [List.getElem?_set_ne q]
      have := slOk_mono (H' := H) e2 (fun _ _ => rfl) (W.ok j z e)
      cases z <;> exact this
/-- what may change has changed -/
theorem Wd.chg {a : Addr} {l : Bool} {o o' : MO} {i : Nat} (W : Wd c T H σ ρ) (hi : ρ[i]? = some (.mu l a o)) (hk : ∀ b u, b ≠ a → H b = some u → H' b = some u) (h : MoOk c.K (hid c ρ) H' a o') : Wd c T H' σ (ρ.set i (.mu l a o')) := by
  obtain ⟨h1, h2, h3⟩ := W.ok i _ hi
  have hm : a ∈ hid c ρ := List.mem_append_right _ (mem_muts.mpr ⟨i, l, o, hi⟩)
  have r : ∀ {j : Nat} {m : Bool} {b : Addr} {u : MO}, (ρ.set i (.mu l a o'))[j]? = some (.mu m b u) → ∃ u', ρ[j]? = some (.mu m b u') := fun {j m b u} h => by
    rcases get_set h with ⟨q, _, e⟩ | ⟨_, e⟩
    · cases e; subst q; exact ⟨_, hi⟩
    · exact ⟨_, e⟩
  have sub : ∀ b, b ∈ hid c (ρ.set i (.mu l a o')) → b ∈ hid c ρ := fun b m => by
    rcases List.mem_append.mp m with m | m
    · exact List.mem_append_left _ m
    · obtain ⟨j, m', v, e⟩ := mem_muts.mp m
      obtain ⟨v', e⟩ := r e
      exact List.mem_append_right _ (mem_muts.mpr ⟨j, m', v', e⟩)
  have e2 : Ex (hide (hid c ρ) H) (hide (hid c (ρ.set i (.mu l a o'))) H') := hide_mono fun b v n h => ⟨fun m => n (sub b m), hk b v (fun q => by rw [q] at n; exact n hm) h⟩
  have e3 : Ex (hide (hid c ρ) H') (hide (hid c (ρ.set i (.mu l a o'))) H') := hide_mono fun b v n h => ⟨fun m => n (sub b m), h⟩
  refine ⟨by rw [List.length_set]; exact W.len, fun b v n e => ?_, W.sub, fun b hb => ?_, fun q hq => dpm e2 (W.tmp q hq), fun j k m m' b v v' g1 g2 => ?_, fun j b v g => ?_, fun j z hz => ?_⟩
  · refine hk b v ?_ (W.keep b v n e)
    intro q
    subst q
    cases l with
    | true => rw [if_pos rfl] at h2; rw [h2] at e; cases e
    | false => rw [if_neg (by decide)] at h2; exact n h2
  · by_cases q : b = a
    · subst q; exact h.there
    · obtain ⟨o, e⟩ := W.dom b hb
      exact ⟨o, hk b o q e⟩
  · obtain ⟨w, g1⟩ := r g1
    obtain ⟨w', g2⟩ := r g2
    exact W.inj j k m m' b w w' g1 g2
  · obtain ⟨w, g⟩ := r g
    exact W.ap j b w g
  · rcases get_set hz with ⟨q, _, e⟩ | ⟨q, e⟩
    · subst q; subst e
      exact ⟨h1, h2, h.mono e3 rfl⟩
    · refine slOk_mono e2 (fun b eb => ?_) (W.ok j z e)
      cases z with
      | mu m b' v =>
        cases eb
        have nb : b ≠ a := fun eab => q (by rw [eab] at e; exact W.inj i j l m a _ _ hi e)
        obtain ⟨u, hu⟩ := (W.ok j _ e).2.2.there
        rw [hu, hk _ _ nb hu]
      | _ => cases eb
theorem Wd.updM {a : Addr} {l : Bool} {o o' : MO} {i : Nat} {u : HO} (W : Wd c T H σ ρ) (hi : ρ[i]? = some (.mu l a o)) (h : MoOk c.K (hid c ρ) (upd H a u) a o') : Wd c T (upd H a u) σ (ρ.set i (.mu l a o')) :=
  W.chg hi (fun b v n e => by rw [upd_ne n]; exact e) h
end
def MoLe (o u : MO) : Prop := o = u ∨ ∃ ds P, o = .lst ds ∧ u = .any P ∧ P ds
theorem MoOk.le {K : PySem.W.Frag} {S : List Addr} {H : Hp} {a : Addr} {o u : MO} (h : MoOk K S H a o) (l : MoLe o u) : MoOk K S H a u := by
  rcases l with rfl | ⟨ds, P, rfl, rfl, p⟩
  · exact h
  · obtain ⟨xs, h1, h2⟩ := h
    exact ⟨xs, h1, ds, p, h2⟩
/-- weaker: slots forgotten, things frozen -/
def slLe : Sl → Sl → Prop
  | _, .no => True
  | .da d, .da e => d = e
  | .mu l _ (.lst ds), .da e => l = true ∧ .list ds = e
  | .mu l a o, .mu m b u => l = m ∧ a = b ∧ MoLe o u
  | .vl v, .vl w => v = w
  | _, _ => False
theorem Wd.weak {c : Cz} {T : Tm} {H : Hp} {σ : L2.St} {ρ ρ' : List Sl} (W : Wd c T H σ ρ) (hl : ρ.length = ρ'.length) (h : ∀ (i : Nat) (s s' : Sl), ρ[i]? = some s → ρ'[i]? = some s' → slLe s s') : Wd c T H σ ρ' := by
  have gt : ∀ {i : Nat} {s' : Sl}, ρ'[i]? = some s' → ∃ s, ρ[i]? = some s ∧ slLe s s' := fun {i s'} e => by
    have hi := (List.getElem?_eq_some_iff.mp e).1
    have hi' : i < ρ.length := by omega
    exact ⟨_, List.getElem?_eq_getElem hi', h i _ _ (List.getElem?_eq_getElem hi') e⟩
  have r : ∀ {j : Nat} {m : Bool} {b : Addr} {u : MO}, ρ'[j]? = some (.mu m b u) → ∃ o, ρ[j]? = some (.mu m b o) := fun {j m b u} e => by
    obtain ⟨s, e1, l⟩ := gt e
    cases s with
    | mu l' a' o' =>
      obtain ⟨rfl, rfl, _⟩ : l' = m ∧ a' = b ∧ MoLe o' u := l
      exact ⟨_, e1⟩
    | _ => exact l.elim
  have sub : ∀ b, b ∈ hid c ρ' → b ∈ hid c ρ := fun b m => by
    rcases List.mem_append.mp m with m | m
    · exact List.mem_append_left _ m
    · obtain ⟨j, l, v, e⟩ := mem_muts.mp m
      obtain ⟨o, e⟩ := r e
      exact List.mem_append_right _ (mem_muts.mpr ⟨j, l, o, e⟩)
  have e2 : Ex (hide (hid c ρ) H) (hide (hid c ρ') H) := hide_mono fun a o n h => ⟨fun m => n (sub a m), h⟩
  refine ⟨W.len.trans hl, W.keep, W.sub, W.dom, fun q hq => dpm e2 (W.tmp q hq), fun i j l m a o u h1 h2 => W.inj i j l m a _ _ (r h1).choose_spec (r h2).choose_spec, fun i a o h => W.ap i a _ (r h).choose_spec, fun i s' e => ?_⟩
  obtain ⟨s, e1, le⟩ := gt e
  have ok := slOk_mono (H' := H) e2 (fun _ _ => rfl) (W.ok i s e1)
  cases s' with
  | no => exact trivial
  | da d =>
    cases s with
    | da e =>
      have le : e = d := le
      subst le
      exact ok
    | mu l a o =>
      cases o with
      | lst ds =>
        obtain ⟨rfl, rfl⟩ : l = true ∧ PyData.list ds = d := le
        obtain ⟨x, y, xs, z1, z2⟩ := ok
        rw [if_pos rfl] at y
        refine ⟨.ref a, x, .lst (sq_of (hide_of (fun m => ?_) z1)) z2⟩
        rcases List.mem_append.mp m with m | m
        · exact W.ap i a _ e1 m
        · obtain ⟨j, m', v, e'⟩ := mem_muts.mp m
          have := W.inj i j _ _ _ _ _ e1 (r e').choose_spec
          subst this
          rw [e] at e'
          cases e'
      | dK _ => exact le.elim
      | dT _ => exact le.elim
      | any _ => exact le.elim
    | no => exact le.elim
    | vl _ => exact le.elim
  | mu m b u =>
    cases s with
    | mu l a o =>
      obtain ⟨rfl, rfl, le⟩ : l = m ∧ a = b ∧ MoLe o u := le
      obtain ⟨x, y, z⟩ := ok
      exact ⟨x, y, z.le le⟩
    | _ => exact le.elim
  | vl w =>
    cases s with
    | vl v =>
      have le : v = w := le
      subst le
      exact ok
    | _ => exact le.elim

theorem set_no {ρ : List Sl} {j : Nat} (h : ρ[j]? = some .no) : ρ.set j .no = ρ := by
  apply List.ext_getElem?
  intro k
  by_cases q : j = k
  · subst q
    rw [List.getElem?_set_self (List.getElem?_eq_some_iff.mp h).1, h]
  · rw [List.getElem?_set_ne q]
theorem Wd.wipe {c : Cz} {T : Tm} {H : Hp} {σ : L2.St} {ρ : List Sl} : ∀ {vs : List Nat}, Wd c T H σ ρ → (∀ j ∈ vs, ρ[j]? = some .no) → Wd c T H (L2.wipe σ vs) ρ
  | [], W, _ => W
  | v :: vs, W, h => by
    have W1 := Wd.wipe (vs := vs) W fun j hj => h j (List.mem_cons_of_mem _ hj)
    have W2 := W1.setN v none .no rfl trivial
    rw [set_no (h v (List.mem_cons_self ..))] at W2
    exact W2
theorem wipe_get {σ : L2.St} {i : Nat} : ∀ {vs : List Nat}, i ∉ vs → (L2.wipe σ vs)[i]? = σ[i]?
  | [], _ => rfl
  | v :: vs, h => by
    show ((L2.wipe σ vs).set v none)[i]? = _
    have n : v ≠ i := fun e => h (by rw [e]; exact List.mem_cons_self ..)
    rw [List.getElem?_set_ne n, wipe_get fun m => h (List.mem_cons_of_mem _ m)]
theorem Wd.unwipe {c : Cz} {T : Tm} {H : Hp} {σ : L2.St} {ρ : List Sl} {vs : List Nat} (W : Wd c T H (L2.wipe σ vs) ρ) (h : ∀ j ∈ vs, ρ[j]? = some .no) : Wd c T H σ ρ := by
  refine ⟨by rw [← W.len, L2.wipe_length], W.keep, W.sub, W.dom, W.tmp, W.inj, W.ap, fun i s e => ?_⟩
  by_cases q : i ∈ vs
  · rw [h i q] at e; cases e; exact trivial
  · have := W.ok i s e
    rw [wipe_get q] at this
    exact this
end Nz

namespace Nz
open PySem PySem.Spec PyProof.Rows L2

/-! ### what evaluates to what -/
def Ed (c : Cz) (ρ : List Sl) (te : TE) (d : PyData) (ρ' : List Sl) : Prop := ∀ (T : Tm) (σ : L2.St) (H : Hp), Wd c T H σ ρ → ∀ Q : VK, (∀ v H', Wd c ((v, d) :: T) H' σ ρ' → Q v H') → te σ H Q
def Et (c : Cz) (ρ : List Sl) (tt : TT) (b : Bool) (ρ' : List Sl) : Prop := ∀ (T : Tm) (σ : L2.St) (H : Hp), Wd c T H σ ρ → ∀ Q : Bool → Hp → Prop, (∀ H', Wd c T H' σ ρ' → Q b H') → tt σ H Q
/-- a new list -/
def EdL (c : Cz) (ρ : List Sl) (te : TE) (ds : List PyData) (ρ' : List Sl) : Prop := ∀ (T : Tm) (σ : L2.St) (H : Hp), Wd c T H σ ρ → ∀ Q : VK,
  (∀ p H', c.B p = none → p ∉ hid c ρ' → MoOk c.K (p :: hid c ρ') H' p (.lst ds) → Wd (c.hidden p) T H' σ ρ' → Q (.ref p) H') → te σ H Q
inductive Ar where
  | raw (v : V)
  | dat (d : PyData)
inductive AA (K : PySem.W.Frag) (H : Hp) : List V → List Ar → Prop
  | nil : AA K H [] []
  | raw {v : V} {vs : List V} {as : List Ar} : AA K H vs as → AA K H (v :: vs) (.raw v :: as)
  | dat {v : V} {d : PyData} {vs : List V} {as : List Ar} : Dz K H v d → AA K H vs as → AA K H (v :: vs) (.dat d :: as)
def Ea (c : Cz) (ρ : List Sl) (ta : TA) (as : List Ar) (ρ' : List Sl) : Prop := ∀ (T : Tm) (σ : L2.St) (H : Hp), Wd c T H σ ρ → ∀ Q : List V → Hp → Prop,
  (∀ vs H', AA c.K (hide (hid c ρ') H') vs as → Wd c T H' σ ρ' → Q vs H') → ta σ H Q
/-- a part of a slice -/
def Eo (c : Cz) (ρ : List Sl) (to : TO) (o : Option Int) (ρ' : List Sl) : Prop := ∀ (T : Tm) (σ : L2.St) (H : Hp), Wd c T H σ ρ → ∀ Q : Option Int → Hp → Prop, (∀ H', Wd c T H' σ ρ' → Q o H') → to σ H Q

section
variable {c : Cz} {ρ ρ1 ρ2 ρ3 : List Sl} {ta tb te tx : TE} {t u : TT} {d d1 d2 d3 : PyData} {T : Tm} {H H' : Hp} {σ : L2.St}
theorem Wd.dp {v : V} {d : PyData} {ρ : List Sl} (W : Wd c ((v, d) :: T) H σ ρ) : Dz c.K (hide (hid c ρ) H) v d := W.tmp (v, d) (List.mem_cons_self ..)
theorem ed_is (h : Ed c ρ te d ρ1) (e : d = d1) : Ed c ρ te d1 ρ1 := e ▸ h
theorem et_is {b b1 : Bool} (h : Et c ρ t b ρ1) (e : b = b1) : Et c ρ t b1 ρ1 := e ▸ h
theorem el_is {ds ds1 : List PyData} (h : EdL c ρ te ds ρ1) (e : ds = ds1) : EdL c ρ te ds1 ρ1 := e ▸ h
theorem ed_var {i : Nat} (h : ρ[i]? = some (.da d)) : Ed c ρ (tVar i) d ρ := fun T σ H W Q q => by
  obtain ⟨v, e, dp⟩ := W.ok i _ h
  exact ⟨v, e, q v H (W.push dp)⟩
theorem ed_int {i : Int} : Ed c ρ (tC (.int i)) (.int i) ρ := fun T σ H W Q q => q _ H (W.push (.int i))
theorem ed_bl {b : Bool} : Ed c ρ (tC (.bl b)) (.bool b) ρ := fun T σ H W Q q => q _ H (W.push (.bl b))
theorem ed_str {x : Str} : Ed c ρ (tC (.str x)) (.str x) ρ := fun T σ H W Q q => q _ H (W.push (.str x))
theorem ed_non : Ed c ρ (tC .non) .none ρ := fun T σ H W Q q => q _ H (W.push .non)
/-- a constant of the module -/
theorem ed_ref {a : Addr} (h : ∀ H, Dz c.K H (.ref a) d) : Ed c ρ (tC (.ref a)) d ρ := fun T σ H W Q q => q _ H (W.push (h _))
theorem ed_ofL {ds : List PyData} (h : EdL c ρ te ds ρ1) (hs : ∀ a ∈ c.M, a ∈ c.S0) : Ed c ρ te (.list ds) ρ1 := fun T σ H W Q q => h T σ H W Q fun p H' hB hn hm W' => by
  have W2 := W'.unhide hs
  obtain ⟨xs, h1, h2⟩ := hm
  have e2 : Ex (hide (p :: hid c ρ1) H') (hide (hid c ρ1) H') := hide_mono fun a o n h => ⟨fun m => n (List.mem_cons_of_mem _ m), h⟩
  exact q _ H' (W2.push (.lst (sq_of (hide_of hn h1)) (dpam e2 h2)))
theorem ed_L {ds : List PyData} (h : EdL c ρ te ds ρ1) : Ed c ρ te (.list ds) ρ1 := fun T σ H W => ed_ofL h W.sub T σ H W
/-! #### operators -/
theorem ed_op {r : R2} (ha : Ed c ρ ta d1 ρ1) (hb : Ed c ρ1 tb d2 ρ2)
    (hr : ∀ (T : Tm) (σ : L2.St) (H : Hp) (x y : V), Wd c T H σ ρ2 → Dz c.K (hide (hid c ρ2) H) x d1 → Dz c.K (hide (hid c ρ2) H) y d2 → ∀ Q : VK, (∀ v H', Wd c ((v, d) :: T) H' σ ρ2 → Q v H') → r x y H Q) : Ed c ρ (tOp r ta tb) d ρ2 :=
  fun T σ H W Q q => ha T σ H W _ fun v H1 W1 => hb _ σ H1 W1 _ fun w H2 W2 => hr T σ H2 v w W2.pop.pop W2.pop.dp W2.dp Q q
theorem ed_I0 {f : Int → Int → Int} {i j : Int} (ha : Ed c ρ ta (.int i) ρ1) (hb : Ed c ρ1 tb (.int j) ρ2) : Ed c ρ (tOp (rI0 fun i j => .int (f i j)) ta tb) (.int (f i j)) ρ2 :=
  ed_op ha hb fun T σ H x y W hx hy Q q => ⟨i, j, dp_int hx, dp_int hy, q _ H (W.push (.int _))⟩
theorem ed_B0 {f : Int → Int → Bool} {i j : Int} (ha : Ed c ρ ta (.int i) ρ1) (hb : Ed c ρ1 tb (.int j) ρ2) : Ed c ρ (tOp (rI0 fun i j => .bl (f i j)) ta tb) (.bool (f i j)) ρ2 :=
  ed_op ha hb fun T σ H x y W hx hy Q q => ⟨i, j, dp_int hx, dp_int hy, q _ H (W.push (.bl _))⟩
theorem ed_I {C : Int → Int → Prop} {f : Int → Int → Int} {i j : Int} (ha : Ed c ρ ta (.int i) ρ1) (hb : Ed c ρ1 tb (.int j) ρ2) (hc : C i j) : Ed c ρ (tOp (rI C fun i j => .int (f i j)) ta tb) (.int (f i j)) ρ2 :=
  ed_op ha hb fun T σ H x y W hx hy Q q => ⟨i, j, dp_int hx, dp_int hy, hc, q _ H (W.push (.int _))⟩
theorem ed_neg {f : Int → Int} {i : Int} (ha : Ed c ρ ta (.int i) ρ1) : Ed c ρ (tUn (rU fun i => .int (f i)) ta) (.int (f i)) ρ1 := fun T σ H W Q q => ha T σ H W _ fun v H1 W1 => ⟨i, dp_int W1.dp, q _ H1 (W1.pop.push (.int _))⟩
theorem ed_eq (ha : Ed c ρ ta d1 ρ1) (hb : Ed c ρ1 tb d2 ρ2) (s1 : SeqAt.shaped d1 = true) (s2 : SeqAt.shaped d2 = true) : Ed c ρ (tOp (rEqD c.K) ta tb) (.bool (PyData.eqv d1 d2)) ρ2 :=
  ed_op ha hb fun T σ H x y W hx hy Q q => ⟨d1, d2, dz_dp _ _ (dpm (hide_ex _ _) hx), dz_dp _ _ (dpm (hide_ex _ _) hy), s1, s2, q _ H (W.push (.bl _))⟩
theorem ed_ne (ha : Ed c ρ ta d1 ρ1) (hb : Ed c ρ1 tb d2 ρ2) (s1 : SeqAt.shaped d1 = true) (s2 : SeqAt.shaped d2 = true) : Ed c ρ (tOp (rNeD c.K) ta tb) (.bool (!PyData.eqv d1 d2)) ρ2 :=
  ed_op ha hb fun T σ H x y W hx hy Q q => ⟨d1, d2, dz_dp _ _ (dpm (hide_ex _ _) hx), dz_dp _ _ (dpm (hide_ex _ _) hy), s1, s2, q _ H (W.push (.bl _))⟩
/-- is None, is not None -/
def isNone : PyData → Bool
  | .none => true
  | _ => false
theorem dp_isN {K : PySem.W.Frag} {v : V} (h : Dz K H v d) : decide (v = .non) = isNone d := by
  cases h <;> first | rfl | exact decide_eq_false (fun e => by cases e)
theorem ed_isN (ha : Ed c ρ ta d ρ1) : Ed c ρ (tOp (fun x y H Q => y = .non ∧ Q (.bl (decide (x = .non))) H) ta (tC .non)) (.bool (isNone d)) ρ1 := fun T σ H W Q q => ha T σ H W _ fun v H1 W1 => ⟨rfl, by
  rw [dp_isN W1.dp]
  exact q _ H1 (W1.pop.push (.bl _))⟩
theorem ed_notN (ha : Ed c ρ ta d ρ1) : Ed c ρ (tOp (fun x y H Q => y = .non ∧ Q (.bl (!decide (x = .non))) H) ta (tC .non)) (.bool (!isNone d)) ρ1 := fun T σ H W Q q => ha T σ H W _ fun v H1 W1 => ⟨rfl, by
  rw [dp_isN W1.dp]
  exact q _ H1 (W1.pop.push (.bl _))⟩
/-! #### displays, arguments -/
theorem ea_nil : Ea c ρ tNil [] ρ := fun T σ H W Q q => q [] H .nil W
theorem ea_cons {ts : TA} {as : List Ar} (h : Ed c ρ te d ρ1) (hr : Ea c ρ1 ts as ρ2) : Ea c ρ (tCons te ts) (.dat d :: as) ρ2 := fun T σ H W Q q => h T σ H W _ fun v H1 W1 => hr _ σ H1 W1 _ fun vs H2 a W2 => q _ H2 (.dat W2.dp a) W2.pop
theorem ea_raw {ts : TA} {as : List Ar} {i : Nat} {a : Addr} {l : Bool} {o : MO} (h : ρ[i]? = some (.mu l a o)) (hr : Ea c ρ ts as ρ2) : Ea c ρ (tCons (tVar i) ts) (.raw (.ref a) :: as) ρ2 := fun T σ H W Q q =>
  ⟨.ref a, (W.ok i _ h).1, hr T σ H W _ fun vs H2 a W2 => q _ H2 (.raw a) W2⟩
theorem ea_vl {ts : TA} {as : List Ar} {i : Nat} {v : V} (h : ρ[i]? = some (.vl v)) (hr : Ea c ρ ts as ρ2) : Ea c ρ (tCons (tVar i) ts) (.raw v :: as) ρ2 := fun T σ H W Q q =>
  ⟨v, W.ok i _ h, hr T σ H W _ fun vs H2 a W2 => q _ H2 (.raw a) W2⟩
theorem ea_c {ts : TA} {as : List Ar} {v : V} (hr : Ea c ρ ts as ρ2) : Ea c ρ (tCons (tC v) ts) (.raw v :: as) ρ2 := fun T σ H W Q q => hr T σ H W _ fun vs H2 a W2 => q _ H2 (.raw a) W2
theorem aa_dats {K : PySem.W.Frag} : ∀ {ds : List PyData} {vs : List V}, AA K H vs (ds.map .dat) → DzAll K H vs ds
  | [], _, h => by cases h; exact .nil
  | d :: ds, _, h => by
    cases h with
    | dat h1 h2 => exact .cons h1 (aa_dats h2)
theorem dpa_sz {K : PySem.W.Frag} {ds : List PyData} {vs : List V} (h : DzAll K H vs ds) (hl : ds.length ≤ 100000) : vs.length ≤ sizeLine := by
  rw [dpa_length h]; exact Nat.le_trans hl (by decide)
/-- (a, b, ..): a new tuple with no dict -/
def tTupF (t : TA) : TE := fun σ H Q => t σ H fun xs H1 => xs.length ≤ sizeLine ∧ ∀ p o, o.dict = none → H1 p = none → Q (.ref p) (upd H1 p (.frz o (.tup xs)))
theorem tup_new {ds : List PyData} {vs : List V} {p : Addr} {o : Obj} (W : Wd c T H σ ρ) (a : DzAll c.K (hide (hid c ρ) H) vs ds) (z : o.dict = none) (hp : H p = none) : Wd c ((.ref p, .tuple ds) :: T) (upd H p (.frz o (.tup vs))) σ ρ := by
  have W2 := W.grow (Ex.new (o := .frz o (.tup vs)) hp)
  have e2 : Ex (hide (hid c ρ) H) (hide (hid c ρ) (upd H p (.frz o (.tup vs)))) := hide_mono fun a o n h => ⟨n, Ex.new hp a o h⟩
  exact W2.push (.tup (pt_of (hide_of (W.fresh hp) upd_same) z) (dpam e2 a))
theorem ed_tup {ts : TA} {ds : List PyData} (h : Ea c ρ ts (ds.map .dat) ρ1) (hl : Nat.ble ds.length 100000 = true := by rfl) : Ed c ρ (tTupF ts) (.tuple ds) ρ1 := fun T σ H W Q q => h T σ H W _ fun vs H1 a W1 => ⟨dpa_sz (aa_dats a) (Nat.le_of_ble_eq_true hl), fun p o z hp =>
  q _ _ (tup_new W1 (aa_dats a) z hp)⟩
theorem el_new {ds : List PyData} {vs : List V} {p : Addr} (W : Wd c T H σ ρ) (a : DzAll c.K (hide (hid c ρ) H) vs ds) (hp : H p = none) :
    c.B p = none ∧ p ∉ hid c ρ ∧ MoOk c.K (p :: hid c ρ) (upd H p (.lst vs)) p (.lst ds) ∧ Wd (c.hidden p) T (upd H p (.lst vs)) σ ρ := by
  have e2 : Ex (hide (hid c ρ) H) (hide (p :: hid c ρ) (upd H p (.lst vs))) := hide_mono fun b u m e => ⟨fun q => by
    rcases List.mem_cons.mp q with q | q
    · rw [q, hp] at e; cases e
    · exact m q, Ex.new hp b u e⟩
  exact ⟨W.freshB hp, W.fresh hp, ⟨vs, upd_same, dpam e2 a⟩, W.hideNew hp⟩
theorem el_lst {ts : TA} {ds : List PyData} (h : Ea c ρ ts (ds.map .dat) ρ1) (hl : Nat.ble ds.length 100000 = true := by rfl) : EdL c ρ (tLst ts) ds ρ1 := fun T σ H W Q q => h T σ H W _ fun vs H1 a W1 => ⟨dpa_sz (aa_dats a) (Nat.le_of_ble_eq_true hl), fun p hp => by
  obtain ⟨x1, x2, x3, x4⟩ := el_new W1 (aa_dats a) hp
  exact q p _ x1 x2 x3 x4⟩
/-! #### subscripts, slices -/
theorem atI_dp {K : PySem.W.Frag} {ds : List PyData} {xs : List V} {i : Int} (h : DzAll K H xs ds) (e : atI ds i = some d) : ∃ v, atI xs i = some v ∧ Dz K H v d := by
  unfold atI at e ⊢
  rw [dpa_length h]
  cases q : ixN ds.length i with
  | none => rw [q] at e; cases e
  | some j =>
    rw [q] at e
    exact dpa_get h e
theorem ed_ixT {i : Int} {ds : List PyData} (ha : Ed c ρ ta (.tuple ds) ρ1) (hb : Ed c ρ1 tb (.int i) ρ2) (e : atI ds i = some d) : Ed c ρ (tOp (rIxT c.K) ta tb) d ρ2 :=
  ed_op ha hb fun T σ H x y W hx hy Q q => by
    obtain ⟨a, xs, rfl, hs, h2⟩ := dp_tup hx
    obtain ⟨v, h3, h4⟩ := atI_dp h2 e
    exact ⟨a, xs, i, v, rfl, dp_int hy, (ex_p (hide_ex _ _) hs).sq, h3, q _ H (W.push h4)⟩
theorem ed_ixL {i : Int} {ds : List PyData} (ha : Ed c ρ ta (.list ds) ρ1) (hb : Ed c ρ1 tb (.int i) ρ2) (e : atI ds i = some d) : Ed c ρ (tOp (rIxL c.K) ta tb) d ρ2 :=
  ed_op ha hb fun T σ H x y W hx hy Q q => by
    obtain ⟨a, xs, rfl, hs, h2⟩ := dp_lst hx
    obtain ⟨v, h3, h4⟩ := atI_dp h2 e
    exact ⟨a, xs, i, v, rfl, dp_int hy, ex_l (hide_ex _ _) hs, h3, q _ H (W.push h4)⟩
/-- of a list that may change -/
theorem ed_ixM {i : Int} {ds : List PyData} {j : Nat} {l : Bool} {a : Addr} (hb : Ed c ρ tb (.int i) ρ1) (ha : ρ1[j]? = some (.mu l a (.lst ds))) (ha0 : ∃ l o, ρ[j]? = some (.mu l a o)) (e : atI ds i = some d) : Ed c ρ (tOp (rIxL c.K) (tVar j) tb) d ρ1 := fun T σ H W Q q => by
  obtain ⟨l0, o0, h0⟩ := ha0
  refine ⟨.ref a, (W.ok j _ h0).1, hb T σ H W _ fun v H1 W1 => ?_⟩
  obtain ⟨_, _, xs, h1, h2⟩ := W1.ok j _ ha
  obtain ⟨w, h3, h4⟩ := atI_dp h2 e
  exact ⟨a, xs, i, w, rfl, dp_int W1.dp, sq_of h1, h3, q _ H1 (W1.pop.push h4)⟩
theorem eo_no : Eo c ρ tNoPart none ρ := fun T σ H W Q q => q H W
theorem eo_some {i : Int} (h : Ed c ρ te (.int i) ρ1) : Eo c ρ (tPart te) (some i) ρ1 := fun T σ H W Q q => h T σ H W _ fun v H1 W1 => ⟨i, dp_int W1.dp, q H1 W1.pop⟩
def cutD (ds : List PyData) (lo hi : Option Int) : List PyData := (ds.drop (HT.sIx ds.length 0 lo)).take (HT.sIx ds.length ds.length hi - HT.sIx ds.length 0 lo)
theorem cut_dp {K : PySem.W.Frag} {ds : List PyData} {xs : List V} (h : DzAll K H xs ds) (lo hi : Option Int) : DzAll K H (cutV xs lo hi) (cutD ds lo hi) := by
  unfold cutV cutD
  rw [dpa_length h]
  exact dpa_take _ (dpa_drop _ h)
theorem el_slice {ds : List PyData} {tl th : TO} {lo hi : Option Int} (ha : Ed c ρ ta (.list ds) ρ1) (hl : Eo c ρ1 tl lo ρ2) (hh : Eo c ρ2 th hi ρ3) : EdL c ρ (tSl (rSlL c.K) ta tl th) (cutD ds lo hi) ρ3 := fun T σ H W Q q =>
  ha T σ H W _ fun v H1 W1 => hl _ σ H1 W1 _ fun H2 W2 => hh _ σ H2 W2 _ fun H3 W3 => by
    obtain ⟨a, xs, rfl, hs, h2⟩ := dp_lst W3.dp
    refine ⟨a, xs, rfl, ex_l (hide_ex _ _) hs, fun p hp => ?_⟩
    obtain ⟨x1, x2, x3, x4⟩ := el_new W3.pop (cut_dp h2 lo hi) hp
    exact q p _ x1 x2 x3 x4
/-! #### tests -/
theorem et_test {b : Bool} (h : Ed c ρ te (.bool b) ρ1) : Et c ρ (tTest te) b ρ1 := fun T σ H W Q q => h T σ H W _ fun v H1 W1 => ⟨b, dp_bl W1.dp, q H1 W1.pop⟩
theorem et_B {b : Bool} (h : Ed c ρ te (.bool b) ρ1) : Et c ρ (tB te) b ρ1 := fun T σ H W Q q => h T σ H W _ fun v H1 W1 => ⟨b, dp_bl W1.dp, q H1 W1.pop⟩
def truD : PyData → Bool
  | .none => false
  | .bool b => b
  | .int i => i != 0
  | .list ds => !ds.isEmpty
  | .tuple ds => !ds.isEmpty
  | _ => false
def truOk : PyData → Bool
  | .str _ => false
  | .dict _ => false
  | _ => true
theorem isEmpty_dp {K : PySem.W.Frag} {ds : List PyData} {xs : List V} (h : DzAll K H xs ds) : xs.isEmpty = ds.isEmpty := by cases h <;> rfl
theorem tru_dp {K : PySem.W.Frag} {v : V} (h : Dz K H v d) (ok : truOk d = true) : TruV K v H (truD d) := by
  cases h with
  | non => rfl
  | bl b => rfl
  | int i => rfl
  | str x => cases ok
  | lst hs ha => exact .inl ⟨_, hs, by rw [isEmpty_dp ha]; rfl⟩
  | tup hs ha => exact .inr (.inl ⟨_, hs.sq, by rw [isEmpty_dp ha]; rfl⟩)
theorem et_tru (h : Ed c ρ te d ρ1) (ok : truOk d = true := by rfl) : Et c ρ (fun σ H Q => te σ H fun x H' => ∃ k, TruV c.K x H' k ∧ Q k H') (truD d) ρ1 := fun T σ H W Q q => h T σ H W _ fun v H1 W1 => ⟨_, tru_dp (dpm (hide_ex _ _) W1.dp) ok, q H1 W1.pop⟩
theorem et_and {a b : Bool} (h1 : Et c ρ t a ρ1) (h2 : a = true → Et c ρ1 u b ρ1) : Et c ρ (tAnd t u) (a && b) ρ1 := fun T σ H W Q q => h1 T σ H W _ fun H1 W1 => by
  cases a with
  | true => exact h2 rfl T σ H1 W1 Q q
  | false => exact q H1 W1
theorem et_or {a b : Bool} (h1 : Et c ρ t a ρ1) (h2 : a = false → Et c ρ1 u b ρ1) : Et c ρ (tOr t u) (a || b) ρ1 := fun T σ H W Q q => h1 T σ H W _ fun H1 W1 => by
  cases a with
  | true => exact q H1 W1
  | false => exact h2 rfl T σ H1 W1 Q q
theorem et_not {a : Bool} (h1 : Et c ρ t a ρ1) : Et c ρ (tNot t) (!a) ρ1 := fun T σ H W Q q => h1 T σ H W _ fun H1 W1 => q H1 W1
theorem ed_and {a b : Bool} (h1 : Ed c ρ ta (.bool a) ρ1) (h2 : a = true → Ed c ρ1 tb (.bool b) ρ1) : Ed c ρ (tAndV ta tb) (.bool (a && b)) ρ1 := fun T σ H W Q q => h1 T σ H W _ fun v H1 W1 => ⟨a, dp_bl W1.dp, by
  cases a with
  | true => exact h2 rfl T σ H1 W1.pop Q q
  | false => exact q _ H1 (W1.pop.push (.bl _))⟩
theorem ed_or {a b : Bool} (h1 : Ed c ρ ta (.bool a) ρ1) (h2 : a = false → Ed c ρ1 tb (.bool b) ρ1) : Ed c ρ (tOrV ta tb) (.bool (a || b)) ρ1 := fun T σ H W Q q => h1 T σ H W _ fun v H1 W1 => ⟨a, dp_bl W1.dp, by
  cases a with
  | true => exact q _ H1 (W1.pop.push (.bl _))
  | false => exact h2 rfl T σ H1 W1.pop Q q⟩
theorem ed_not {a : Bool} (h1 : Ed c ρ ta (.bool a) ρ1) : Ed c ρ (tNotV ta) (.bool (!a)) ρ1 := fun T σ H W Q q => h1 T σ H W _ fun v H1 W1 => ⟨a, dp_bl W1.dp, q _ H1 (W1.pop.push (.bl _))⟩
theorem ed_if {b : Bool} (h : Et c ρ t b ρ1) (h1 : b = true → Ed c ρ1 ta d ρ2) (h2 : b = false → Ed c ρ1 tb d ρ2) : Ed c ρ (tIf t ta tb) d ρ2 := fun T σ H W Q q => h T σ H W _ fun H1 W1 => by
  cases b with
  | true => exact h1 rfl T σ H1 W1 Q q
  | false => exact h2 rfl T σ H1 W1 Q q
/-- a op b op c of ints -/
theorem ed_chain {f g : Int → Int → Bool} {i j k : Int} {tc : TE} (ha : Ed c ρ ta (.int i) ρ1) (hb : Ed c ρ1 tb (.int j) ρ2) (hc : f i j = true → Ed c ρ2 tc (.int k) ρ2) :
    Ed c ρ (tChain (rI0 fun i j => .bl (f i j)) (rI0 fun i j => .bl (g i j)) ta tb tc) (.bool (f i j && g j k)) ρ2 := fun T σ H W Q q => ha T σ H W _ fun v H1 W1 => hb _ σ H1 W1 _ fun w H2 W2 =>
  ⟨i, j, dp_int W2.pop.dp, dp_int W2.dp, f i j, rfl, by
    cases e : f i j with
    | true =>
      refine hc e _ σ H2 W2 _ fun z H3 W3 => ⟨j, k, dp_int W3.pop.dp, dp_int W3.dp, ?_⟩
      rw [e, Bool.true_and] at q
      exact q _ H3 (W3.pop.pop.pop.push (.bl _))
    | false =>
      rw [e, Bool.false_and] at q
      exact q _ H2 (W2.pop.pop.push (.bl _))⟩
/-! #### calls -/
/-- a pure def's promise: from data to data, by R -/
def SpP (K : PySem.W.Frag) (R : List PyData → PyData → Prop) : Sp := fun vs H Q _ => ∃ (S : List Addr) (ds : List PyData) (d : PyData), (∀ a ∈ S, ∃ o, H a = some o) ∧ DzAll K (hide S H) vs ds ∧ R ds d ∧
  ∀ v H', Ex H H' → Dz K (hide S H') v d → Q v H'
theorem ed_call {R : List PyData → PyData → Prop} {ts : TA} {ds : List PyData} {E : XK} (h : Ea c ρ ts (ds.map .dat) ρ1) (hR : R ds d) : Ed c ρ (tCall (SpP c.K R) [] E ts) d ρ1 := fun T σ H W Q q => h T σ H W _ fun vs H1 a W1 => by
  rw [List.append_nil]
  exact ⟨hid c ρ1, ds, d, fun a h => W1.there h, aa_dats a, hR, fun v H' e dp => q v H' ((W1.grow e).push dp)⟩
/-- a def's promise that changes its first argument -/
def SpS (K : PySem.W.Frag) (R : MO → List PyData → MO → PyData → Prop) : Sp := fun vs H Q _ => ∃ (S : List Addr) (a : Addr) (st st' : MO) (vs' : List V) (ds : List PyData) (d : PyData), vs = .ref a :: vs' ∧ a ∈ S ∧ (∀ b ∈ S, ∃ o, H b = some o) ∧
  MoOk K S H a st ∧ DzAll K (hide S H) vs' ds ∧ R st ds st' d ∧ ∀ v H', (∀ b o, b ≠ a → H b = some o → H' b = some o) → MoOk K S H' a st' → Dz K (hide S H') v d → Q v H'
theorem ed_callS {R : MO → List PyData → MO → PyData → Prop} {ts : TA} {ds : List PyData} {E : XK} {i : Nat} {l : Bool} {a : Addr} {st st' : MO} (h : Ea c ρ ts (.raw (.ref a) :: ds.map .dat) ρ1) (hi : ρ1[i]? = some (.mu l a st)) (hR : R st ds st' d) :
    Ed c ρ (tCall (SpS c.K R) [] E ts) d (ρ1.set i (.mu l a st')) := fun T σ H W Q q => h T σ H W _ fun vs H1 aa W1 => by
  rw [List.append_nil]
  cases aa with
  | raw aa =>
    have hm : a ∈ hid c ρ1 := List.mem_append_right _ (mem_muts.mpr ⟨i, l, st, hi⟩)
    refine ⟨hid c ρ1, a, st, st', _, ds, d, rfl, hm, fun a h => W1.there h, (W1.ok i _ hi).2.2, aa_dats aa, hR, fun v H' hk mo dp => q v H' ((W1.chg hi hk mo).push ?_)⟩
    refine dpm (hide_mono fun b o n e => ⟨fun m => n ?_, e⟩) dp
    rcases List.mem_append.mp m with m | m
    · exact List.mem_append_left _ m
    · obtain ⟨j, m', u, e⟩ := mem_muts.mp m
      rcases get_set e with ⟨_, _, e⟩ | ⟨_, e⟩
      · cases e; exact hm
      · exact List.mem_append_right _ (mem_muts.mpr ⟨j, m', u, e⟩)
/-! #### built-ins -/
theorem ed_cb {r : List V → Hp → VK → Prop} {ts : TA} {as : List Ar} (h : Ea c ρ ts as ρ1)
    (hr : ∀ (T : Tm) (σ : L2.St) (H : Hp) (vs : List V), Wd c T H σ ρ1 → AA c.K (hide (hid c ρ1) H) vs as → ∀ Q : VK, (∀ v H', Wd c ((v, d) :: T) H' σ ρ1 → Q v H') → r vs H Q) : Ed c ρ (tCB r ts) d ρ1 :=
  fun T σ H W Q q => h T σ H W _ fun vs H1 a W1 => hr T σ H1 vs W1 a Q q
theorem aa1 {K : PySem.W.Frag} {vs : List V} (a : AA K H vs [.dat d]) : ∃ v, vs = [v] ∧ Dz K H v d := by
  cases a with
  | dat h t => cases t; exact ⟨_, rfl, h⟩
theorem aa2 {K : PySem.W.Frag} {vs : List V} (a : AA K H vs [.dat d, .dat d1]) : ∃ v w, vs = [v, w] ∧ Dz K H v d ∧ Dz K H w d1 := by
  cases a with
  | dat h t =>
    obtain ⟨w, rfl, h2⟩ := aa1 t
    exact ⟨_, w, rfl, h, h2⟩
def rLenS (K : PySem.W.Frag) : List V → Hp → VK → Prop := fun xs H Q => ∃ p ys, xs = [.ref p] ∧ (SqL K H p ys ∨ SqT K H p ys) ∧ Q (.int ys.length) H
theorem ed_lenT {ds : List PyData} (h : Ed c ρ te (.tuple ds) ρ1) : Ed c ρ (tCB (rLenS c.K) (tCons te tNil)) (.int (ds.length : Int)) ρ1 := fun T σ H W Q q => h T σ H W _ fun v H1 W1 => by
  obtain ⟨a, xs, rfl, hs, h2⟩ := dp_tup W1.dp
  refine ⟨a, xs, rfl, .inr (ex_p (hide_ex _ _) hs).sq, ?_⟩
  rw [dpa_length h2]
  exact q _ H1 (W1.pop.push (.int _))
theorem ed_lenL {ds : List PyData} (h : Ed c ρ te (.list ds) ρ1) : Ed c ρ (tCB (rLenS c.K) (tCons te tNil)) (.int (ds.length : Int)) ρ1 := fun T σ H W Q q => h T σ H W _ fun v H1 W1 => by
  obtain ⟨a, xs, rfl, hs, h2⟩ := dp_lst W1.dp
  refine ⟨a, xs, rfl, .inl (ex_l (hide_ex _ _) hs), ?_⟩
  rw [dpa_length h2]
  exact q _ H1 (W1.pop.push (.int _))
theorem ed_lenM {ds : List PyData} {j : Nat} {l : Bool} {a : Addr} (ha : ρ[j]? = some (.mu l a (.lst ds))) : Ed c ρ (tCB (rLenS c.K) (tCons (tVar j) tNil)) (.int (ds.length : Int)) ρ := fun T σ H W Q q => by
  obtain ⟨h0, _, xs, h1, h2⟩ := W.ok j _ ha
  refine ⟨.ref a, h0, a, xs, rfl, .inl (sq_of h1), ?_⟩
  rw [dpa_length h2]
  exact q _ H (W.push (.int _))
theorem ed_abs {i : Int} (h : Ed c ρ te (.int i) ρ1) : Ed c ρ (tCB (fun xs H Q => ∃ i, xs = [.int i] ∧ Q (.int (if i < 0 then -i else i)) H) (tCons te tNil)) (.int (i.natAbs : Int)) ρ1 := fun T σ H W Q q => h T σ H W _ fun v H1 W1 => by
  refine ⟨i, by rw [dp_int W1.dp], ?_⟩
  have e : (if i < 0 then -i else i) = (i.natAbs : Int) := by split <;> omega
  rw [e]
  exact q _ H1 (W1.pop.push (.int _))
theorem ed_intI {i : Int} (h : Ed c ρ te (.int i) ρ1) : Ed c ρ (tCB (fun xs H Q => (∃ i, xs = [.int i] ∧ Q (.int i) H) ∨ ∃ k, xs = [.bl k] ∧ Q (.int (if k then 1 else 0)) H) (tCons te tNil)) (.int i) ρ1 := fun T σ H W Q q => h T σ H W _ fun v H1 W1 =>
  .inl ⟨i, by rw [dp_int W1.dp], q _ H1 (W1.pop.push (.int _))⟩
theorem ed_intB {b : Bool} (h : Ed c ρ te (.bool b) ρ1) : Ed c ρ (tCB (fun xs H Q => (∃ i, xs = [.int i] ∧ Q (.int i) H) ∨ ∃ k, xs = [.bl k] ∧ Q (.int (if k then 1 else 0)) H) (tCons te tNil)) (.int (if b then 1 else 0)) ρ1 := fun T σ H W Q q => h T σ H W _ fun v H1 W1 =>
  .inr ⟨b, by rw [dp_bl W1.dp], q _ H1 (W1.pop.push (.int _))⟩
theorem el_listOf {te : TE} {ds : List PyData} (h : Ed c ρ te (.list ds) ρ1 ∨ Ed c ρ te (.tuple ds) ρ1) :
    EdL c ρ (tCB (fun xs H Q => ∃ p ys, xs = [.ref p] ∧ (SqL c.K H p ys ∨ SqT c.K H p ys) ∧ ∀ l, H l = none → Q (.ref l) (upd H l (.lst ys))) (tCons te tNil)) ds ρ1 := fun T σ H W Q q => by
  rcases h with h | h
  · refine h T σ H W _ fun v H1 W1 => ?_
    obtain ⟨a, xs, rfl, hs, h2⟩ := dp_lst W1.dp
    refine ⟨a, xs, rfl, .inl (ex_l (hide_ex _ _) hs), fun p hp => ?_⟩
    obtain ⟨x1, x2, x3, x4⟩ := el_new W1.pop h2 hp
    exact q p _ x1 x2 x3 x4
  · refine h T σ H W _ fun v H1 W1 => ?_
    obtain ⟨a, xs, rfl, hs, h2⟩ := dp_tup W1.dp
    refine ⟨a, xs, rfl, .inr (ex_p (hide_ex _ _) hs).sq, fun p hp => ?_⟩
    obtain ⟨x1, x2, x3, x4⟩ := el_new W1.pop h2 hp
    exact q p _ x1 x2 x3 x4
/-- tuple(..) of a list: a new one; of a tuple: itself -/
def rTupOf (K : PySem.W.Frag) : List V → Hp → VK → Prop := fun xs H Q => ∃ p ys, xs = [.ref p] ∧ ((SqL K H p ys ∧ ∀ l o, o.dict = none → H l = none → Q (.ref l) (upd H l (.frz o (.tup ys)))) ∨ (SqT K H p ys ∧ Q (.ref p) H))
theorem ed_tupleL {ds : List PyData} (h : Ed c ρ te (.list ds) ρ1) : Ed c ρ (tCB (rTupOf c.K) (tCons te tNil)) (.tuple ds) ρ1 := fun T σ H W Q q =>
  h T σ H W _ fun v H1 W1 => by
    obtain ⟨a, xs, rfl, hs, h2⟩ := dp_lst W1.dp
    exact ⟨a, xs, rfl, .inl ⟨ex_l (hide_ex _ _) hs, fun p o z hp => q _ _ (tup_new W1.pop h2 z hp)⟩⟩
theorem ed_tupleT {ds : List PyData} (h : Ed c ρ te (.tuple ds) ρ1) : Ed c ρ (tCB (rTupOf c.K) (tCons te tNil)) (.tuple ds) ρ1 := fun T σ H W Q q =>
  h T σ H W _ fun v H1 W1 => by
    obtain ⟨a, xs, rfl, hs, h2⟩ := dp_tup W1.dp
    exact ⟨a, xs, rfl, .inr ⟨(ex_p (hide_ex _ _) hs).sq, q _ _ W1⟩⟩
end
end Nz

namespace Nz
open PySem PySem.Spec PyProof.Rows L2 RZ

/-! ### what is walked -/
/-- an item that comes: data; a pair that was just made, of data (to be unpacked at once) -/
inductive Itm where
  | hard (d : PyData)
  | soft (ds : List PyData)
def YOk (c : Cz) (T : Tm) (H : Hp) (σ : L2.St) (ρ : List Sl) (x : V) : Itm → Prop
  | .hard d => Wd c ((x, d) :: T) H σ ρ
  | .soft ds => ∃ a xs, x = .ref a ∧ SqT c.K H a xs ∧ xs.length = ds.length ∧ Wd c (xs.zip ds ++ T) H σ ρ
def Walks (K : PySem.W.Frag) (J : It) (T1 : Tm) (ds : List Itm) : Prop := ∀ (c : Cz) (T : Tm) (σ : L2.St) (H : Hp) (ρ : List Sl), c.K = K → Wd c (T1 ++ T) H σ ρ →
  (∀ i, i < ds.length → J.go i H ∧ ∀ x H', J.yld i H x H' → ∃ d, ds[i]? = some d ∧ YOk c (T1 ++ T) H' σ ρ x d) ∧ ∀ i, ds.length ≤ i → J.stop i H
def Ei (c : Cz) (ρ : List Sl) (wi : TI) (ds : List Itm) (ρ' : List Sl) : Prop := ∀ (T : Tm) (σ : L2.St) (H : Hp), Wd c T H σ ρ → ∀ R : It → Hp → Prop, (∀ J H' T1, Wd c (T1 ++ T) H' σ ρ' → Walks c.K J T1 ds → R J H') → wi σ H R
/-- a target takes an item; ws: the slots that it may store -/
def Eg (c : Cz) (g : TG) (d : Itm) (ρ ρ' : List Sl) (ws : List Nat) : Prop := ∀ (T : Tm) (σ : L2.St) (H : Hp) (v : V), YOk c T H σ ρ v d → ∀ Q : L2.St → Hp → Prop, (∀ σ' H', Wd c T H' σ' ρ' → L2.wipe σ' ws = L2.wipe σ ws → Q σ' H') → g v σ H Q

section
variable {c : Cz} {ρ ρ1 ρ2 ρ3 : List Sl} {ta tb te tx : TE} {t u : TT} {d d1 d2 d3 : PyData} {T : Tm} {H H' : Hp} {σ : L2.St}
abbrev hards (ds : List PyData) : List Itm := ds.map .hard
theorem hards_get {ds : List PyData} {i : Nat} (h : i < ds.length) : (hards ds)[i]? = some (.hard ds[i]) := by rw [List.getElem?_map, List.getElem?_eq_getElem h]; rfl
theorem ei_list {ds : List PyData} (h : Ed c ρ te (.list ds) ρ1) : Ei c ρ (iList c.K te) (hards ds) ρ1 := fun T σ H W R q => h T σ H W _ fun v H1 W1 => by
  obtain ⟨a, xs, rfl, hs, h2⟩ := dp_lst W1.dp
  refine ⟨a, rfl, ⟨xs, ex_l (hide_ex _ _) hs⟩, q _ H1 [(.ref a, .list ds)] W1 ?_⟩
  rintro c' T' σ' H' ρ' hK W'
  obtain ⟨b, ys, e, hs', h2'⟩ := dp_lst W'.dp
  cases e
  have hs2 : SqL c.K H' a ys := hK ▸ ex_l (hide_ex _ _) hs'
  have hl := dpa_length h2'
  rw [List.length_map]
  refine ⟨fun i hi => ?_, fun i hi => ⟨ys, hs2, by omega⟩⟩
  obtain ⟨x, hx, dx⟩ := dpa_get h2' (List.getElem?_eq_getElem hi)
  refine ⟨⟨ys, x, hs2, hx⟩, fun y H2 hy => ?_⟩
  obtain ⟨rfl, hy⟩ := hy
  have := (hy ys hs2).symm.trans hx
  cases this
  exact ⟨_, hards_get hi, W'.push dx⟩
theorem ei_tup {ds : List PyData} (h : Ed c ρ te (.tuple ds) ρ1) : Ei c ρ (iTup c.K te) (hards ds) ρ1 := fun T σ H W R q => h T σ H W _ fun v H1 W1 => by
  obtain ⟨a, xs, rfl, hs, h2⟩ := dp_tup W1.dp
  refine ⟨a, rfl, ⟨xs, (ex_p (hide_ex _ _) hs).sq⟩, q _ H1 [(.ref a, .tuple ds)] W1 ?_⟩
  rintro c' T' σ' H' ρ' hK W'
  obtain ⟨b, ys, e, hs', h2'⟩ := dp_tup W'.dp
  cases e
  have hs2 : SqT c.K H' a ys := hK ▸ (ex_p (hide_ex _ _) hs').sq
  have hl := dpa_length h2'
  rw [List.length_map]
  refine ⟨fun i hi => ?_, fun i hi => ⟨ys, hs2, by omega⟩⟩
  obtain ⟨x, hx, dx⟩ := dpa_get h2' (List.getElem?_eq_getElem hi)
  refine ⟨⟨ys, x, hs2, hx⟩, fun y H2 hy => ?_⟩
  obtain ⟨rfl, hy⟩ := hy
  have := (hy ys hs2).symm.trans hx
  cases this
  exact ⟨_, hards_get hi, W'.push dx⟩
/-- lo, lo + 1, .. -/
def rngD (lo : Int) (n : Nat) : List PyData := (List.range n).map fun (i : Nat) => PyData.int (lo + (i : Int))
theorem rngD_len (lo : Int) (n : Nat) : (rngD lo n).length = n := by unfold rngD; rw [List.length_map, List.length_range]
theorem rngD_get {lo : Int} {n i : Nat} (h : i < n) : (rngD lo n)[i]? = some (.int (lo + (i : Int))) := by
  unfold rngD; rw [List.getElem?_map, List.getElem?_range h]; rfl
theorem walks_rng (K : PySem.W.Frag) (lo : Int) (n : Nat) : Walks K (Itr lo n) [] (hards (rngD lo n)) := fun c T σ H ρ hK W => by
  rw [List.length_map, rngD_len]
  refine ⟨fun i hi => ⟨hi, fun x H' hy => ?_⟩, fun i hi => hi⟩
  obtain ⟨rfl, rfl⟩ := hy
  exact ⟨.hard (.int (lo + (i : Int))), by rw [List.getElem?_map, rngD_get hi]; rfl, W.push (.int _)⟩
theorem ei_rng1 {n : Int} (h : Ed c ρ te (.int n) ρ1) (hn : -4000000000 ≤ n ∧ n ≤ 4000000000) : Ei c ρ (iRng1 (tCons te tNil)) (hards (rngD 0 n.toNat)) ρ1 := fun T σ H W R q => h T σ H W _ fun v H1 W1 =>
  ⟨n, by rw [dp_int W1.dp], by omega, by omega, q _ H1 [] W1.pop (walks_rng _ _ _)⟩
theorem ei_rng2 {lo n : Int} (h : Ed c ρ te (.int lo) ρ1) (h2 : Ed c ρ1 tb (.int n) ρ2) (hn : (-4000000000 ≤ lo ∧ lo ≤ 4000000000) ∧ -4000000000 ≤ n ∧ n ≤ 4000000000) : Ei c ρ (iRng2 (tCons te (tCons tb tNil))) (hards (rngD lo (n - lo).toNat)) ρ2 := fun T σ H W R q => h T σ H W _ fun v H1 W1 => h2 _ σ H1 W1 _ fun w H2 W2 =>
  ⟨lo, n, by rw [dp_int W2.pop.dp, dp_int W2.dp], ⟨by omega, by omega, by omega, by omega⟩, q _ H2 [] W2.pop.pop (walks_rng _ _ _)⟩
/-- pairs of place and item -/
def enumD (ds : List PyData) : List Itm := (ds.zipIdx).map fun p => .soft [.int (p.2 : Int), p.1]
theorem enumD_len (ds : List PyData) : (enumD ds).length = ds.length := by unfold enumD; rw [List.length_map, List.length_zipIdx]
theorem enumD_get {ds : List PyData} {i : Nat} {d : PyData} (h : ds[i]? = some d) : (enumD ds)[i]? = some (.soft [.int (i : Int), d]) := by
  unfold enumD; rw [List.getElem?_map, List.getElem?_zipIdx, h]; simp
theorem ei_enum {ds : List PyData} (h : Ed c ρ te (.list ds) ρ1) : Ei c ρ (iEnum c.K (tCons te tNil)) (enumD ds) ρ1 := fun T σ H W R q => h T σ H W _ fun v H1 W1 => by
  obtain ⟨a, xs, rfl, hs, h2⟩ := dp_lst W1.dp
  refine ⟨a, xs, rfl, ex_l (hide_ex _ _) hs, q _ H1 [(.ref a, .list ds)] W1 ?_⟩
  rintro c' T' σ' H' ρ' hK W'
  obtain ⟨b, ys, e, hs', h2'⟩ := dp_lst W'.dp
  cases e
  have hs2 : SqL c.K H' a ys := hK ▸ ex_l (hide_ex _ _) hs'
  have hl := dpa_length h2'
  rw [enumD_len]
  refine ⟨fun i hi => ?_, fun i hi => ⟨ys, hs2, by omega⟩⟩
  obtain ⟨x, hx, dx⟩ := dpa_get h2' (List.getElem?_eq_getElem hi)
  refine ⟨⟨ys, x, hs2, hx⟩, fun y H2 hy => ?_⟩
  obtain ⟨p, z, rfl, hp, rfl, hy⟩ := hy
  have ez := (hy ys hs2).symm.trans hx
  rw [Option.some.inj ez]
  have W2 := W'.grow (Ex.new (o := .tup [.int (i : Nat), x]) hp)
  have e2 : Ex (hide (hid c' ρ') H') (hide (hid c' ρ') (upd H' p (.tup [.int (i : Nat), x]))) := hide_mono fun a o n h => ⟨n, Ex.new hp a o h⟩
  exact ⟨_, enumD_get (List.getElem?_eq_getElem hi), p, [.int (i : Nat), x], rfl, .inl (.inl upd_same), rfl, (W2.push (dpm e2 dx)).push (.int _)⟩
def zipD (ds es : List PyData) : List Itm := List.zipWith (fun d e => .soft [d, e]) ds es
theorem zipD_len (ds es : List PyData) : (zipD ds es).length = min ds.length es.length := by unfold zipD; rw [List.length_zipWith]
theorem zipD_get {ds es : List PyData} {i : Nat} {d e : PyData} (h : ds[i]? = some d) (h2 : es[i]? = some e) : (zipD ds es)[i]? = some (.soft [d, e]) := by
  unfold zipD; rw [List.getElem?_zipWith, h, h2]
theorem walks_zip {K : PySem.W.Frag} {a b : Addr} {ds es : List PyData} : Walks K (Itz K a b) [(.ref b, .list es), (.ref a, .list ds)] (zipD ds es) := fun c' T' σ' H' ρ' hK W' => by
  obtain ⟨b', zs, e, hz, h3⟩ := dp_lst W'.dp
  cases e
  obtain ⟨a', ys, e, hs', h2'⟩ := dp_lst W'.pop.dp
  cases e
  have hs2 : SqL K H' a ys := hK ▸ ex_l (hide_ex _ _) hs'
  have hz2 : SqL K H' b zs := hK ▸ ex_l (hide_ex _ _) hz
  have hl := dpa_length h2'
  have hl3 := dpa_length h3
  rw [zipD_len]
  refine ⟨fun i hi => ?_, fun i hi => ⟨ys, zs, hs2, hz2, by omega⟩⟩
  obtain ⟨x, hx, dx⟩ := dpa_get h2' (List.getElem?_eq_getElem (show i < ds.length by omega))
  obtain ⟨y, hy, dy⟩ := dpa_get h3 (List.getElem?_eq_getElem (show i < es.length by omega))
  refine ⟨⟨ys, zs, x, y, hs2, hz2, hx, hy⟩, fun v H2 hv => ?_⟩
  obtain ⟨p, x', y', rfl, hp, rfl, q1, q2⟩ := hv
  have e1 := (q1 ys hs2).symm.trans hx
  have e2' := (q2 zs hz2).symm.trans hy
  rw [Option.some.inj e1, Option.some.inj e2']
  have W2 := W'.grow (Ex.new (o := .tup [x, y]) hp)
  have e2 : Ex (hide (hid c' ρ') H') (hide (hid c' ρ') (upd H' p (.tup [x, y]))) := hide_mono fun a o n h => ⟨n, Ex.new hp a o h⟩
  exact ⟨_, zipD_get (List.getElem?_eq_getElem (show i < ds.length by omega)) (List.getElem?_eq_getElem (show i < es.length by omega)), p, [x, y], rfl, .inl (.inl upd_same), rfl, (W2.push (dpm e2 dy)).push (dpm e2 dx)⟩
theorem walks_zipT {K : PySem.W.Frag} {a b : Addr} {ds es : List PyData} : Walks K (ItzT K a b) [(.ref b, .tuple es), (.ref a, .tuple ds)] (zipD ds es) := fun c' T' σ' H' ρ' hK W' => by
  obtain ⟨b', zs, e, hz, h3⟩ := dp_tup W'.dp
  cases e
  obtain ⟨a', ys, e, hs', h2'⟩ := dp_tup W'.pop.dp
  cases e
  have hs2 : SqT K H' a ys := hK ▸ (ex_p (hide_ex _ _) hs').sq
  have hz2 : SqT K H' b zs := hK ▸ (ex_p (hide_ex _ _) hz).sq
  have hl := dpa_length h2'
  have hl3 := dpa_length h3
  rw [zipD_len]
  refine ⟨fun i hi => ?_, fun i hi => ⟨ys, zs, hs2, hz2, by omega⟩⟩
  obtain ⟨x, hx, dx⟩ := dpa_get h2' (List.getElem?_eq_getElem (show i < ds.length by omega))
  obtain ⟨y, hy, dy⟩ := dpa_get h3 (List.getElem?_eq_getElem (show i < es.length by omega))
  refine ⟨⟨ys, zs, x, y, hs2, hz2, hx, hy⟩, fun v H2 hv => ?_⟩
  obtain ⟨p, x', y', rfl, hp, rfl, q1, q2⟩ := hv
  have e1 := (q1 ys hs2).symm.trans hx
  have e2' := (q2 zs hz2).symm.trans hy
  rw [Option.some.inj e1, Option.some.inj e2']
  have W2 := W'.grow (Ex.new (o := .tup [x, y]) hp)
  have e2 : Ex (hide (hid c' ρ') H') (hide (hid c' ρ') (upd H' p (.tup [x, y]))) := hide_mono fun a o n h => ⟨n, Ex.new hp a o h⟩
  exact ⟨_, zipD_get (List.getElem?_eq_getElem (show i < ds.length by omega)) (List.getElem?_eq_getElem (show i < es.length by omega)), p, [x, y], rfl, .inl (.inl upd_same), rfl, (W2.push (dpm e2 dy)).push (dpm e2 dx)⟩
theorem ei_zip {ds es : List PyData} (h : Ed c ρ te (.list ds) ρ1) (h2 : Ed c ρ1 tb (.list es) ρ2) : Ei c ρ (iZipA c.K (tCons te (tCons tb tNil))) (zipD ds es) ρ2 := fun T σ H W R q => h T σ H W _ fun v H1 W1 => h2 _ σ H1 W1 _ fun w H2 W2 => by
  obtain ⟨a, xs, rfl, hs, ha⟩ := dp_lst W2.pop.dp
  obtain ⟨b, ys, rfl, hs2, hb⟩ := dp_lst W2.dp
  exact ⟨a, b, xs, ys, rfl, .inl ⟨ex_l (hide_ex _ _) hs, ex_l (hide_ex _ _) hs2, q _ H2 [(.ref b, .list es), (.ref a, .list ds)] W2 walks_zip⟩⟩
theorem ei_zipT {ds es : List PyData} (h : Ed c ρ te (.tuple ds) ρ1) (h2 : Ed c ρ1 tb (.tuple es) ρ2) : Ei c ρ (iZipA c.K (tCons te (tCons tb tNil))) (zipD ds es) ρ2 := fun T σ H W R q => h T σ H W _ fun v H1 W1 => h2 _ σ H1 W1 _ fun w H2 W2 => by
  obtain ⟨a, xs, rfl, hs, ha⟩ := dp_tup W2.pop.dp
  obtain ⟨b, ys, rfl, hs2, hb⟩ := dp_tup W2.dp
  exact ⟨a, b, xs, ys, rfl,   .inr ⟨(ex_p (hide_ex _ _) hs).sq, (ex_p (hide_ex _ _) hs2).sq, q _ H2 [(.ref b, .tuple es), (.ref a, .tuple ds)] W2 walks_zipT⟩⟩
/-! ### targets -/
theorem wipe_set {σ : L2.St} {x : Option V} {j : Nat} : ∀ {ws : List Nat}, j ∈ ws → L2.wipe (σ.set j x) ws = L2.wipe σ ws
  | w :: ws, h => by
    show (L2.wipe (σ.set j x) ws).set w none = (L2.wipe σ ws).set w none
    by_cases m : j ∈ ws
    · rw [wipe_set m]
    · have e : j = w := by
        rcases List.mem_cons.mp h with h | h
        · exact h
        · exact absurd h m
      subst e
      apply List.ext_getElem?
      intro k
      by_cases q : j = k
      · subst q
        rw [List.getElem?_set, List.getElem?_set, L2.wipe_length, L2.wipe_length, List.length_set, if_pos rfl, if_pos rfl]
      · rw [List.getElem?_set_ne q, List.getElem?_set_ne q]
        by_cases m2 : k ∈ ws
        · have w0 : ∀ {τ : L2.St} {ws : List Nat}, k ∈ ws → (L2.wipe τ ws)[k]? = (τ.map fun _ => (none : Option V))[k]? := fun {τ ws} hm => by
            induction ws with
            | nil => cases hm
            | cons y ys ih =>
              show ((L2.wipe τ ys).set y none)[k]? = _
              by_cases qq : y = k
              · subst qq
                rw [List.getElem?_set, L2.wipe_length, List.getElem?_map]
                simp
                by_cases hk : y < τ.length
                · simp [hk]
                · simp [hk]
              · rw [List.getElem?_set_ne qq]
                exact ih (by
                  rcases List.mem_cons.mp hm with hm | hm
                  · exact absurd hm.symm qq
                  · exact hm)
          rw [w0 m2, w0 m2, List.getElem?_map, List.getElem?_map, List.getElem?_set_ne q]
        · rw [wipe_get m2, wipe_get m2, List.getElem?_set_ne q]
theorem eg_name {j : Nat} {ws : List Nat} (h : j ∈ ws) : Eg c (gName j) (.hard d) ρ (ρ.set j (.da d)) ws := fun T σ H v W Q q => q _ H (Wd.setD (Wd.pop W) j (Wd.dp W)) (wipe_set h)
/-- several targets -/
def Egs (c : Cz) (g : TGs) (ds : List PyData) (ρ ρ' : List Sl) (ws : List Nat) : Prop := ∀ (T : Tm) (σ : L2.St) (H : Hp) (vs : List V), Wd c T H σ ρ → DzAll c.K (hide (hid c ρ) H) vs ds → ∀ Q : L2.St → Hp → Prop, (∀ σ' H', Wd c T H' σ' ρ' → L2.wipe σ' ws = L2.wipe σ ws → Q σ' H') → g vs σ H Q
theorem egs_nil {ws : List Nat} : Egs c gNil [] ρ ρ ws := fun T σ H vs W a Q q => by
  cases a
  exact ⟨rfl, q σ H W rfl⟩
/-- the values of the rest are kept as temporary data -/
theorem Wd.pushAll {vs : List V} {ds : List PyData} (W : Wd c T H σ ρ) (h : DzAll c.K (hide (hid c ρ) H) vs ds) : Wd c (vs.zip ds ++ T) H σ ρ := by
  induction ds generalizing vs with
  | nil => cases h; exact W
  | cons d ds ih =>
    cases h with
    | cons a b =>
      show Wd c ((_, d) :: (_ ++ T)) H σ ρ
      exact (ih b).push a
theorem Wd.allOf {ds : List PyData} : ∀ {vs : List V}, vs.length = ds.length → Wd c (vs.zip ds ++ T) H σ ρ → DzAll c.K (hide (hid c ρ) H) vs ds := by
  induction ds with
  | nil => intro vs h W; cases vs with
    | nil => exact .nil
    | cons _ _ => simp at h
  | cons d ds ih =>
    intro vs h W
    cases vs with
    | nil => simp at h
    | cons v vs =>
      exact .cons (W.tmp (v, d) (by simp)) (ih (by simpa using h) W.pop)
theorem egs_cons {g : TG} {gs : TGs} {ds : List PyData} {ws : List Nat} (h1 : Eg c g (.hard d) ρ ρ1 ws) (h2 : Egs c gs ds ρ1 ρ2 ws) : Egs c (gCons g gs) (d :: ds) ρ ρ2 ws := fun T σ H vs W a Q q => by
  cases a with
  | cons a1 a2 =>
    refine ⟨_, _, rfl, h1 _ σ H _ ((W.pushAll a2).push a1) _ fun σ1 H1 W1 e1 => ?_⟩
    have a3 := Wd.allOf (dpa_length a2) W1
    exact h2 T σ1 H1 _ (W1.tmps fun p hp => List.mem_append_right _ hp) a3 Q fun σ2 H2 W2 e2 => q σ2 H2 W2 (e2.trans e1)
theorem eg_tup {gs : TGs} {ds : List PyData} {n : Nat} {ws : List Nat} (h : Egs c gs ds ρ ρ1 ws) (hn : ds.length = n := by rfl) : Eg c (gTup c.K n gs) (.hard (.tuple ds)) ρ ρ1 ws := fun T σ H v W Q q => by
  obtain ⟨a, xs, rfl, hs, h2⟩ := dp_tup (Wd.dp W)
  exact ⟨a, xs, rfl, (ex_p (hide_ex _ _) hs).sq, by rw [dpa_length h2, hn], h T σ H xs (Wd.pop W) h2 Q q⟩
theorem eg_soft {gs : TGs} {ds : List PyData} {n : Nat} {ws : List Nat} (h : Egs c gs ds ρ ρ1 ws) (hn : ds.length = n := by rfl) : Eg c (gTup c.K n gs) (.soft ds) ρ ρ1 ws := fun T σ H v W Q q => by
  obtain ⟨a, xs, rfl, hs, hl, W⟩ := W
  exact ⟨a, xs, rfl, hs, by rw [hl, hn], h T σ H xs (W.tmps fun p hp => List.mem_append_right _ hp) (Wd.allOf hl W) Q q⟩
/-! ### list comprehensions -/
abbrev Cz.at (c : Cz) (S : List Addr) (B : Hp) : Cz := { c with S0 := S, B := B }
theorem Wd.pin {p : Addr} {u : HO} (W : Wd (c.hidden p) T H σ ρ) (h : H p = some u) (hB : c.B p = none) (hs : ∀ a ∈ c.M, a ∈ c.S0) (h0 : p ∉ c.S0) : Wd (c.at (p :: c.S0) (upd c.B p u)) T H σ ρ := by
  have hn := W.notin h0 hs
  refine ⟨W.len, fun a o n e => ?_, W.sub, W.dom, W.tmp, W.inj, W.ap, fun i s e => ?_⟩
  · by_cases q : a = p
    · rw [q] at e ⊢
      have e : upd c.B p u p = some o := e
      rw [upd_same] at e
      rw [h, e]
    · have e : upd c.B p u a = some o := e
      rw [upd_ne q] at e
      exact W.keep a o n e
  · have ok := W.ok i s e
    cases s with
    | mu l a o =>
      obtain ⟨x, y, z⟩ := ok
      refine ⟨x, ?_, z⟩
      cases l with
      | true =>
        rw [if_pos rfl] at y ⊢
        have na : a ≠ p := fun q => W.ap i a o e (by rw [q]; exact List.mem_cons_self ..)
        show upd c.B p u a = none
        rw [upd_ne na]; exact y
      | false => rw [if_neg (by decide)] at y ⊢; exact y
    | _ => exact ok
theorem Wd.unpin {p : Addr} {u : HO} (W : Wd (c.at (p :: c.S0) (upd c.B p u)) T H σ ρ) (hB : c.B p = none) (hM : p ∉ c.M) : H p = some u ∧ Wd (c.hidden p) T H σ ρ := by
  refine ⟨W.keep p u hM upd_same, W.len, fun a o n e => W.keep a o n ?_, W.sub, W.dom, W.tmp, W.inj, W.ap, fun i s e => ?_⟩
  · show upd c.B p u a = some o
    rw [upd_ne (fun q => by
      have e : c.B a = some o := e
      rw [q, hB] at e; cases e)]
    exact e
  · have ok := W.ok i s e
    cases s with
    | mu l a o =>
      obtain ⟨x, y, z⟩ := ok
      refine ⟨x, ?_, z⟩
      cases l with
      | true =>
        rw [if_pos rfl] at y ⊢
        have na : a ≠ p := fun q => W.ap i a o e (by rw [q]; exact List.mem_cons_self ..)
        have y : upd c.B p u a = none := y
        rw [upd_ne na] at y; exact y
      | false => rw [if_neg (by decide)] at y ⊢; exact y
    | _ => exact ok
/-- what is hidden changes -/
theorem Wd.updHid {p : Addr} {u : HO} (W : Wd (c.hidden p) T H σ ρ) (hB : c.B p = none) (hn : p ∉ hid c ρ) : Wd (c.hidden p) T (upd H p u) σ ρ := by
  have e2 : Ex (hide (hid (c.hidden p) ρ) H) (hide (hid (c.hidden p) ρ) (upd H p u)) := hide_mono fun b o n e => ⟨n, by
    rw [upd_ne (fun q => n (by rw [q]; exact List.mem_cons_self ..))]; exact e⟩
  refine ⟨W.len, fun a o n e => ?_, W.sub, fun a m => ?_, fun q hq => dpm e2 (W.tmp q hq), W.inj, W.ap, fun i s e => ?_⟩
  · rw [upd_ne (fun q => by
      have e : c.B a = some o := e
      rw [q, hB] at e; cases e)]
    exact W.keep a o n e
  · by_cases q : a = p
    · rw [q]; exact ⟨u, upd_same⟩
    · rw [upd_ne q]; exact W.dom a m
  · refine slOk_mono e2 (fun a ea => upd_ne fun q => hn ?_) (W.ok i s e)
    cases s with
    | mu l b o => cases ea; exact List.mem_append_right _ (mem_muts.mpr ⟨i, l, o, q ▸ e⟩)
    | _ => cases ea
theorem wipe_wipe {σ : L2.St} : ∀ {vs : List Nat}, L2.wipe (L2.wipe σ vs) vs = L2.wipe σ vs := fun {vs} => by
  apply List.ext_getElem?
  intro k
  by_cases m : k ∈ vs
  · have w0 : ∀ {τ : L2.St} {ws : List Nat}, k ∈ ws → (L2.wipe τ ws)[k]? = (τ.map fun _ => (none : Option V))[k]? := fun {τ ws} hm => by
      induction ws with
      | nil => cases hm
      | cons y ys ih =>
        show ((L2.wipe τ ys).set y none)[k]? = _
        by_cases qq : y = k
        · subst qq
          rw [List.getElem?_set, L2.wipe_length, List.getElem?_map]
          simp
          by_cases hk : y < τ.length
          · simp [hk]
          · simp [hk]
        · rw [List.getElem?_set_ne qq]
          exact ih (by
            rcases List.mem_cons.mp hm with hm | hm
            · exact absurd hm.symm qq
            · exact hm)
    rw [w0 m, w0 m, List.getElem?_map, List.getElem?_map]
    by_cases hk : k < σ.length
    · rw [List.getElem?_eq_getElem hk, List.getElem?_eq_getElem (by rw [L2.wipe_length]; exact hk)]
      rfl
    · have h1 : (L2.wipe σ vs)[k]? = none := List.getElem?_eq_none_iff.mpr (by rw [L2.wipe_length]; omega)
      have h2 : σ[k]? = none := List.getElem?_eq_none_iff.mpr (by omega)
      rw [h1, h2]
  · rw [wipe_get m]
/-- by the turn: what the frame holds, what the new list holds -/
theorem el_lc {wi : TI} {g : TG} {tt : TT} {vs : List Nat} {ds : List Itm} (h : Ei c ρ wi ds ρ1) (I : Nat → List Sl) (acc : Nat → List PyData) (hI : I 0 = ρ1) (hacc : acc 0 = []) (hsz : ds.length ≤ 100000)
    (hvs : ∀ i, i ≤ ds.length → ∀ j ∈ vs, (I i)[j]? = some .no)
    (turn : ∀ (S : List Addr) (B : Hp) (i : Nat) (d : Itm), ds[i]? = some d → ∃ (b : Bool) (ρa ρb : List Sl), Eg (c.at S B) g d (I i) ρa vs ∧ Et (c.at S B) ρa tt b ρb ∧
      (b = true → ∃ d' ρc, Ed (c.at S B) ρb te d' ρc ∧ acc (i + 1) = acc i ++ [d'] ∧ ∀ T H σ, Wd (c.at S B) T H σ ρc → Wd (c.at S B) T H (L2.wipe σ vs) (I (i + 1))) ∧
      (b = false → acc (i + 1) = acc i ∧ ∀ T H σ, Wd (c.at S B) T H σ ρb → Wd (c.at S B) T H (L2.wipe σ vs) (I (i + 1)))) : EdL c ρ (tLc wi g tt te vs) (acc ds.length) (I ds.length) := fun T σ H W Q q =>
  h T σ H W _ fun J H1 T1 W1 hw D hD => by
    have hB := W1.freshB hD
    have hsub := W1.sub
    have nS : D ∉ c.S0 := fun m => W1.fresh hD (List.mem_append_left _ m)
    have nM : D ∉ c.M := fun m => nS (hsub D m)
    obtain ⟨_, hDn, mo0, Wh⟩ := el_new W1 (.nil) hD
    have hvs0 := hvs 0 (Nat.zero_le _)
    rw [hI] at hvs0
    have eP : ∀ {i : Nat} {H2 : Hp}, Wd (c.hidden D) (T1 ++ T) H2 (L2.wipe σ vs) (I i) → D ∉ hid c (I i) := fun W2 => W2.notin nS hsub
    have accl : ∀ i, i ≤ ds.length → (acc i).length ≤ i := fun i => by
      induction i with
      | zero => intro _; rw [hacc]; exact Nat.le_refl _
      | succ i ih =>
        intro hi
        obtain ⟨b, _, _, _, _, g3, g4⟩ := turn [] (fun _ => none) i _ (List.getElem?_eq_getElem (show i < ds.length by omega))
        have := ih (by omega)
        cases b with
        | true =>
          obtain ⟨d', _, _, e, _⟩ := g3 rfl
          rw [e, List.length_append]; show _ + 1 ≤ _; omega
        | false => rw [(g4 rfl).1]; omega
    refine ⟨fun i m H2 => i + m = ds.length ∧ Wd (c.hidden D) (T1 ++ T) H2 (L2.wipe σ vs) (I i) ∧ MoOk c.K (D :: hid c (I i)) H2 D (.lst (acc i)), ⟨ds.length, by omega, by rw [hI]; exact Wh.wipe hvs0, by rw [hI, hacc]; exact mo0⟩, fun i m H2 ⟨hm, W2, mo⟩ => ?_⟩
    by_cases hi : i < ds.length
    · obtain ⟨xs, hxs, dxs⟩ := mo
      have lx := dpa_length dxs
      have la := accl i (by omega)
      have W2a : Wd (c.at (D :: c.S0) (upd c.B D (.lst xs))) (T1 ++ T) H2 (L2.wipe σ vs) (I i) := W2.pin hxs hB hsub nS
      have W2b : Wd (c.at (D :: c.S0) (upd c.B D (.lst xs))) (xs.zip (acc i) ++ (T1 ++ T)) H2 (L2.wipe σ vs) (I i) := W2a.pushAll dxs
      have W2c : Wd (c.at (D :: c.S0) (upd c.B D (.lst xs))) (T1 ++ (xs.zip (acc i) ++ T)) H2 (L2.wipe σ vs) (I i) := W2b.tmps fun p hp => by
        simp only [List.mem_append] at hp ⊢
        rcases hp with hp | hp | hp
        · exact .inr (.inl hp)
        · exact .inl hp
        · exact .inr (.inr hp)
      have hwk := hw (c.at (D :: c.S0) (upd c.B D (.lst xs))) _ _ _ _ rfl W2c
      refine .inr ⟨(hwk.1 i hi).1, fun H3 => Wd (c.hidden D) (T1 ++ T) H3 (L2.wipe σ vs) (I (i + 1)) ∧ MoOk c.K (D :: hid c (I (i + 1))) H3 D (.lst (acc (i + 1))), fun H3 h3 => ⟨m - 1, by omega, by omega, h3.1, h3.2⟩, fun x H3 hy => ?_⟩
      obtain ⟨d, hd, W3⟩ := (hwk.1 i hi).2 x H3 hy
      obtain ⟨b, ρa, ρb, g1, g2, g3, g4⟩ := turn (D :: c.S0) (upd c.B D (.lst xs)) i d hd
      refine g1 _ _ _ _ W3 _ fun σ2 H4 W4 ew => ⟨by rw [ew, wipe_wipe], g2 _ σ2 H4 W4 _ fun H5 W5 => ?_⟩
      rw [wipe_wipe] at ew
      cases b with
      | true =>
        rw [if_pos rfl]
        obtain ⟨d', ρc, g5, ea, wk⟩ := g3 rfl
        refine g5 _ σ2 H5 W5 _ fun y H6 W6 => ?_
        have W7 := wk _ _ _ W6
        rw [ew] at W7
        obtain ⟨hx6, W8⟩ := W7.unpin hB nM
        have hn8 := W8.notin nS hsub
        refine ⟨xs, hx6, Nat.lt_of_lt_of_le (show xs.length < 100000 by omega) (by decide), ?_, ?_⟩
        · refine (W8.updHid hB hn8).tmps fun p hp => List.mem_cons_of_mem _ ?_
          simp only [List.mem_append] at hp ⊢
          rcases hp with hp | hp
          · exact .inl hp
          · exact .inr (.inr hp)
        · refine ⟨xs ++ [y], upd_same, ?_⟩
          rw [ea]
          have W9 := W8.updHid (u := .lst (xs ++ [y])) hB hn8
          have a1 : DzAll c.K (hide (hid (c.hidden D) (I (i + 1))) (upd H6 D (.lst (xs ++ [y])))) xs (acc i) := Wd.allOf (T := (y, d') :: (T1 ++ T)) lx (W9.tmps fun p hp => by
            simp only [List.mem_append, List.mem_cons] at hp ⊢
            rcases hp with hp | hp | hp | hp
            · exact .inr (.inr (.inl hp))
            · exact .inl hp
            · exact .inr (.inl hp)
            · exact .inr (.inr (.inr hp)))
          exact dpa_append a1 (.cons (W9.tmp (y, d') (List.mem_cons_self ..)) .nil)
      | false =>
        rw [if_neg (by decide)]
        obtain ⟨ea, wk⟩ := g4 rfl
        have W7 := wk _ _ _ W5
        rw [ew] at W7
        obtain ⟨hx6, W8⟩ := W7.unpin hB nM
        refine ⟨W8.tmps fun p hp => ?_, xs, hx6, ?_⟩
        · simp only [List.mem_append] at hp ⊢
          rcases hp with hp | hp
          · exact .inl hp
          · exact .inr (.inr hp)
        · rw [ea]
          exact Wd.allOf (T := T1 ++ T) lx (W8.tmps fun p hp => by
            simp only [List.mem_append, List.mem_cons] at hp ⊢
            rcases hp with hp | hp | hp
            · exact .inr (.inl hp)
            · exact .inl hp
            · exact .inr (.inr hp))
    · have ei : i = ds.length := by omega
      subst ei
      refine .inl ⟨(hw (c.hidden D) T (L2.wipe σ vs) H2 (I ds.length) rfl W2).2 _ (Nat.le_refl _), ?_⟩
      have W4 : Wd (c.hidden D) T H2 (L2.wipe σ vs) (I ds.length) := W2.tmps fun p hp => List.mem_append_right _ hp
      exact q D H2 hB (eP W2) mo (W4.unwipe (hvs _ (Nat.le_refl _)))
end
end Nz

namespace Nz
open PySem PySem.Spec PyProof.Rows L2 RZ

def wipeS (ρ : List Sl) : List Nat → List Sl
  | [] => ρ
  | v :: vs => (wipeS ρ vs).set v .no
theorem Wd.wipeS {c : Cz} {T : Tm} {H : Hp} {σ : L2.St} {ρ : List Sl} (W : Wd c T H σ ρ) : ∀ (vs : List Nat), Wd c T H (L2.wipe σ vs) (Nz.wipeS ρ vs)
  | [] => W
  | v :: vs => (Wd.wipeS W vs).setN v none .no rfl trivial
section
variable {c : Cz} {ρ ρ1 ρ2 ρ3 : List Sl} {ta tb te tx : TE} {t u : TT} {d d1 d2 d3 : PyData} {T : Tm} {H H' : Hp} {σ : L2.St}
/-- items xs, those with p, made into eb -/
theorem el_lcP {α : Type} {wi : TI} {g : TG} {tt : TT} {vs : List Nat} (xs : List α) (ea : α → Itm) (p : α → Bool) (eb : α → PyData) (h : Ei c ρ wi (xs.map ea) ρ1) (hsz : xs.length ≤ 100000) (hvs : ∀ j ∈ vs, ρ1[j]? = some .no)
    (turn : ∀ (S : List Addr) (B : Hp) (x : α), x ∈ xs → ∃ ρa, Nz.wipeS ρa vs = ρ1 ∧ Eg (c.at S B) g (ea x) ρ1 ρa vs ∧ Et (c.at S B) ρa tt (p x) ρa ∧ (p x = true → Ed (c.at S B) ρa te (eb x) ρa)) :
    EdL c ρ (tLc wi g tt te vs) ((xs.filter p).map eb) ρ1 := by
  have key := el_lc (c := c) (tt := tt) (te := te) (vs := vs) h (fun _ => ρ1) (fun i => ((xs.take i).filter p).map eb) rfl (by simp) (by rw [List.length_map]; exact hsz) (fun _ _ => hvs) (fun S B i d hd => by
    rw [List.getElem?_map] at hd
    cases hx : xs[i]? with
    | none => rw [hx] at hd; cases hd
    | some x =>
      rw [hx] at hd
      have hd : ea x = d := Option.some.inj hd
      subst hd
      obtain ⟨ρa, hw, g1, g2, g3⟩ := turn S B x (List.mem_of_getElem? hx)
      refine ⟨p x, ρa, ρa, g1, g2, fun hp => ⟨eb x, ρa, g3 hp, ?_, fun T H σ W => hw ▸ W.wipeS vs⟩, fun hp => ⟨?_, fun T H σ W => hw ▸ W.wipeS vs⟩⟩
      · rw [List.take_add_one, hx]
        simp [hp]
      · rw [List.take_add_one, hx]
        simp [hp])
  have e : (List.map eb (List.filter p (List.take (List.map ea xs).length xs))) = (xs.filter p).map eb := by
    rw [List.length_map, List.take_length]
  rw [e] at key
  exact key
/-- all items -/
theorem el_lcA {α : Type} {wi : TI} {g : TG} {vs : List Nat} (xs : List α) (ea : α → Itm) (eb : α → PyData) (h : Ei c ρ wi (xs.map ea) ρ1) (hsz : xs.length ≤ 100000) (hvs : ∀ j ∈ vs, ρ1[j]? = some .no)
    (turn : ∀ (S : List Addr) (B : Hp) (x : α), x ∈ xs → ∃ ρa, Nz.wipeS ρa vs = ρ1 ∧ Eg (c.at S B) g (ea x) ρ1 ρa vs ∧ Ed (c.at S B) ρa te (eb x) ρa) :
    EdL c ρ (tLc wi g tYes te vs) (xs.map eb) ρ1 := by
  have key := el_lcP (c := c) (tt := tYes) (te := te) (vs := vs) xs ea (fun _ => true) eb h hsz hvs (fun S B x hx => by
    obtain ⟨ρa, hw, g1, g2⟩ := turn S B x hx
    exact ⟨ρa, hw, g1, fun T σ H W Q q => q H W, fun _ => g2⟩)
  rw [List.filter_eq_self.mpr (fun _ _ => rfl)] at key
  exact key
theorem ei_rng {n : Int} (h : Ed c ρ te (.int n) ρ1) (hn : -4000000000 ≤ n ∧ n ≤ 4000000000) : Ei c ρ (iRng1 (tCons te tNil)) ((List.range n.toNat).map fun (i : Nat) => Itm.hard (PyData.int (i : Int))) ρ1 := by
  have := ei_rng1 h hn
  unfold hards rngD at this
  simp only [Int.zero_add, List.map_map] at this
  exact this

/-! ### statements -/
def Sk (c : Cz) (T : Tm) (ρ : List Sl) (nx : L2.St → Hp → Prop) : Prop := ∀ σ H, Wd c T H σ ρ → nx σ H
abbrev Ss (c : Cz) (T : Tm) (ρ : List Sl) (ts : TS) (D : Ends) : Prop := Sk c T ρ (ts D)
theorem Sk.more {T' : Tm} {nx : L2.St → Hp → Prop} (h : Sk c T ρ nx) (hT : ∀ p ∈ T, p ∈ T') : Sk c T' ρ nx := fun σ H W => h σ H (W.tmps hT)
def Le (ρ ρ' : List Sl) : Prop := ρ.length = ρ'.length ∧ ∀ (i : Nat) (s s' : Sl), ρ[i]? = some s → ρ'[i]? = some s' → slLe s s'
theorem slLe_refl (s : Sl) : slLe s s := by cases s <;> simp [slLe, MoLe]
theorem Le.refl (ρ : List Sl) : Le ρ ρ := ⟨rfl, fun i s s' h h' => by rw [h] at h'; cases h'; exact slLe_refl s⟩
theorem le_nil : Le [] [] := Le.refl _
theorem le_cons {s s' : Sl} {ρ ρ' : List Sl} (h : slLe s s') (t : Le ρ ρ') : Le (s :: ρ) (s' :: ρ') := ⟨by rw [List.length_cons, List.length_cons, t.1], fun i a b h1 h2 => by
  cases i with
  | zero => cases h1; cases h2; exact h
  | succ i => exact t.2 i a b (by simpa using h1) (by simpa using h2)⟩
theorem le_same {s : Sl} {ρ ρ' : List Sl} (t : Le ρ ρ') : Le (s :: ρ) (s :: ρ') := le_cons (slLe_refl s) t
theorem le_no {s : Sl} {ρ ρ' : List Sl} (t : Le ρ ρ') : Le (s :: ρ) (.no :: ρ') := le_cons (by cases s <;> exact trivial) t
theorem le_da {ρ ρ' : List Sl} (e : d = d1) (t : Le ρ ρ') : Le (.da d :: ρ) (.da d1 :: ρ') := le_cons e t
theorem le_frz {ρ ρ' : List Sl} {a : Addr} {ds : List PyData} (t : Le ρ ρ') : Le (.mu true a (.lst ds) :: ρ) (.da (.list ds) :: ρ') := le_cons ⟨rfl, rfl⟩ t
theorem le_mu {ρ ρ' : List Sl} {l : Bool} {a : Addr} {o o' : MO} (e : o = o') (t : Le ρ ρ') : Le (.mu l a o :: ρ) (.mu l a o' :: ρ') := le_cons ⟨rfl, rfl, .inl e⟩ t
theorem le_any {ρ ρ' : List Sl} {l : Bool} {a : Addr} {ds : List PyData} {P : List PyData → Prop} (p : P ds) (t : Le ρ ρ') : Le (.mu l a (.lst ds) :: ρ) (.mu l a (.any P) :: ρ') := le_cons ⟨rfl, rfl, .inr ⟨ds, P, rfl, rfl, p⟩⟩ t
theorem Wd.le (W : Wd c T H σ ρ) (h : Le ρ ρ') : Wd c T H σ ρ' := W.weak h.1 h.2
theorem s_le {nx : L2.St → Hp → Prop} (h : Le ρ ρ1) (k : Sk c T ρ1 nx) : Sk c T ρ nx := fun σ H W => k σ H (W.le h)
theorem s_end (h : Le ρ ρ1) : Sk c T ρ (fun σ H => Wd c T H σ ρ1) := fun σ H W => W.le h
variable {D : Ends} {ts tu : TS} {g : TG} {nx bk ct : L2.St → Hp → Prop} {rt : VK}
theorem s_seq (h : Ss c T ρ ts { D with nx := tu D }) : Ss c T ρ (tSeq ts tu) D := h
theorem s_next (k : Sk c T ρ nx) : Ss c T ρ tNext ⟨nx, rt, bk, ct⟩ := k
theorem s_asgG {ws : List Nat} (h : Ed c ρ te d ρ1) (hg : Eg c g (.hard d) ρ1 ρ2 ws) (k : Sk c T ρ2 nx) : Ss c T ρ (tAsg te g) ⟨nx, rt, bk, ct⟩ := fun σ H W => h T σ H W _ fun v H1 W1 => hg T σ H1 v W1 _ fun σ2 H2 W2 _ => k σ2 H2 W2
theorem s_asg {i : Nat} (h : Ed c ρ te d ρ1) (k : Sk c T (ρ1.set i (.da d)) nx) : Ss c T ρ (tAsg te (gName i)) ⟨nx, rt, bk, ct⟩ := s_asgG (ws := [i]) h (eg_name (List.mem_cons_self ..)) k
/-- a new list that will change -/
theorem s_asgM {i : Nat} {ds : List PyData} (h : EdL c ρ te ds ρ1) (k : ∀ p, Sk c T (ρ1.set i (.mu true p (.lst ds))) nx) : Ss c T ρ (tAsg te (gName i)) ⟨nx, rt, bk, ct⟩ := fun σ H W =>
  h T σ H W _ fun p H1 hB hn mo W1 => k p _ _ (W1.setM W.sub i (by rw [if_pos rfl]; exact hB) hn mo)
/-- a, b = x, y -/
theorem s_par {i j : Nat} {x y : PyData} {tp : TA} (h : Ea c ρ tp [.dat x, .dat y] ρ1) (k : Sk c T ((ρ1.set i (.da x)).set j (.da y)) nx) : Ss c T ρ (tPar i j tp) ⟨nx, rt, bk, ct⟩ := fun σ H W => h T σ H W _ fun vs H1 a W1 => by
  obtain ⟨v, w, rfl, h1, h2⟩ := aa2 a
  refine ⟨v, w, rfl, ?_⟩
  have W2 := ((W1.push h2).push h1)
  have W3 := (W2.pop.push h1).setD i h1
  have W4 := W3.pop.setD j (W3.tmp (w, y) (by simp))
  exact k _ _ W4.pop
theorem s_aug {i : Nat} {f : Int → Int → Int} {a b : Int} (hx : ρ[i]? = some (.da (.int a))) (h : Ed c ρ te (.int b) ρ) (k : Sk c T (ρ.set i (.da (.int (f a b)))) nx) : Ss c T ρ (tAug i te (ipI f)) ⟨nx, rt, bk, ct⟩ := fun σ H W => by
  obtain ⟨v, e, dp⟩ := W.ok i _ hx
  refine ⟨v, e, h T σ H W _ fun w H1 W1 => ⟨a, b, dp_int dp, dp_int W1.dp, ?_⟩⟩
  exact k _ _ (W1.pop.setD i (.int _))
theorem s_drop (h : Ed c ρ te d ρ1) (k : Sk c T ρ1 nx) : Ss c T ρ (tDrop te) ⟨nx, rt, bk, ct⟩ := fun σ H W => h T σ H W _ fun v H1 W1 => k σ H1 W1.pop
theorem s_append {i : Nat} {l : Bool} {a : Addr} {ds : List PyData} (h : Ed c ρ te d ρ1) (h0 : ∃ l ds, ρ[i]? = some (.mu l a (.lst ds))) (ha : ρ1[i]? = some (.mu l a (.lst ds))) (hz : ds.length < 100000) (k : Sk c T (ρ1.set i (.mu l a (.lst (ds ++ [d])))) nx) :
    Ss c T ρ (tDrop (tBM c.K "list" rAppend (tVar i) (tCons te tNil))) ⟨nx, rt, bk, ct⟩ := fun σ H W => by
  obtain ⟨l0, o0, h0⟩ := h0
  obtain ⟨e0, e2, e3⟩ := W.ok i _ h0
  obtain ⟨ys, e7, _⟩ := e3
  have ty : tyV c.K "list" (.ref a) H := .inl ⟨rfl, ys, sq_of e7⟩
  refine ⟨.ref a, e0, ty, h T σ H W _ fun v H1 W1 => ?_⟩
  obtain ⟨_, _, xs, e4, e5⟩ := W1.ok i _ ha
  refine ⟨a, xs, v, rfl, rfl, e4, by rw [dpa_length e5]; exact Nat.lt_of_lt_of_le hz (by decide), ?_⟩
  refine k _ _ (W1.pop.updM ha ⟨xs ++ [v], upd_same, ?_⟩)
  have hm : a ∈ hid c ρ1 := List.mem_append_right _ (mem_muts.mpr ⟨i, l, _, ha⟩)
  have e6 : Ex (hide (hid c ρ1) H1) (hide (hid c ρ1) (upd H1 a (.lst (xs ++ [v])))) := hide_mono fun b o nb e => ⟨nb, by rw [upd_ne (fun q => nb (by rw [q]; exact hm))]; exact e⟩
  exact dpam e6 (dpa_append e5 (.cons W1.dp .nil))
theorem s_setL {i : Nat} {l : Bool} {a : Addr} {ds : List PyData} {j : Int} {n : Nat} (h : Ed c ρ te d ρ1) (hj : Ed c ρ1 tb (.int j) ρ2) (h0 : ∃ l o, ρ1[i]? = some (.mu l a o)) (ha : ρ2[i]? = some (.mu l a (.lst ds))) (hn : ixN ds.length j = some n) (k : Sk c T (ρ2.set i (.mu l a (.lst (ds.set n d)))) nx) :
    Ss c T ρ (tAsg te (gSub (tVar i) tb rSetL)) ⟨nx, rt, bk, ct⟩ := fun σ H W => h T σ H W _ fun v H1 W1 => by
  obtain ⟨l0, o0, h0⟩ := h0
  obtain ⟨e0, _, _⟩ := W1.ok i _ h0
  refine ⟨.ref a, e0, hj _ σ H1 W1 _ fun w H2 W2 => ?_⟩
  obtain ⟨e1, e2, xs, e3, e4⟩ := W2.ok i _ ha
  refine ⟨a, xs, j, n, rfl, dp_int W2.dp, e3, by rw [dpa_length e4]; exact hn, ?_⟩
  have W3 := W2.pop
  refine k _ _ (W3.pop.updM ha ⟨xs.set n v, upd_same, ?_⟩)
  have hm : a ∈ hid c ρ2 := List.mem_append_right _ (mem_muts.mpr ⟨i, l, _, ha⟩)
  have e5 : Ex (hide (hid c ρ2) H2) (hide (hid c ρ2) (upd H2 a (.lst (xs.set n v)))) := hide_mono fun b o nb e => ⟨nb, by rw [upd_ne (fun q => nb (by rw [q]; exact hm))]; exact e⟩
  exact dpam e5 (dpa_set n e4 W3.dp)
theorem s_if {b : Bool} (h : Et c ρ t b ρ1) (h1 : b = true → Ss c T ρ1 ts D) (h2 : b = false → Ss c T ρ1 tu D) : Ss c T ρ (tIfS t ts tu) D := fun σ H W => h T σ H W _ fun H1 W1 => by
  cases b with
  | true => exact h1 rfl σ H1 W1
  | false => exact h2 rfl σ H1 W1
/-- an if that is not entered (what is in it is never reached) -/
theorem s_skip {b : Bool} (h : Et c ρ t b ρ1) (hb : b = false) (k : Sk c T ρ1 nx) : Ss c T ρ (tIfS t ts tNext) ⟨nx, rt, bk, ct⟩ := s_if h (fun e => by rw [hb] at e; cases e) (fun _ => k)
/-- a for over anything -/
theorem s_for {wi : TI} {tbd : TS} {ds : List Itm} (h : Ei c ρ wi ds ρ1) (I : Nat → List Sl) (h0 : Le ρ1 (I 0))
    (hs : ∀ (T' : Tm), (∀ p ∈ T, p ∈ T') → ∀ (i : Nat) (d : Itm), ds[i]? = some d → ∃ ρa ws, Eg c g d (I i) ρa ws ∧ Ss c T' ρa tbd ⟨fun σ H => Wd c T' H σ (I (i + 1)), rt, nx, fun σ H => Wd c T' H σ (I (i + 1))⟩)
    (hd : Sk c T (I ds.length) nx) : Ss c T ρ (tFor wi g tbd) ⟨nx, rt, bk, ct⟩ := fun σ H W => h T σ H W _ fun J H1 T1 W1 hw => by
  refine ⟨fun i m σ' H' => i + m = ds.length ∧ Wd c (T1 ++ T) H' σ' (I i), ⟨ds.length, by omega, W1.le h0⟩, fun i m σ' H' ⟨hm, W2⟩ => ?_⟩
  have hwk := hw c T σ' H' (I i) rfl W2
  by_cases hi : i < ds.length
  · refine .inr ⟨(hwk.1 i hi).1, fun σ3 H3 => Wd c (T1 ++ T) H3 σ3 (I (i + 1)), fun σ3 H3 h3 => ⟨m - 1, by omega, by omega, h3⟩, fun x H3 hy => ?_⟩
    obtain ⟨d, hd', W3⟩ := (hwk.1 i hi).2 x H3 hy
    obtain ⟨ρa, ws, g1, g2⟩ := hs (T1 ++ T) (fun p hp => List.mem_append_right _ hp) i d hd'
    exact g1 _ σ' H3 x W3 _ fun σ4 H4 W4 _ => g2 σ4 H4 W4
  · have ei : i = ds.length := by omega
    subst ei
    exact .inl ⟨hwk.2 _ (Nat.le_refl _), hd σ' H' (W2.tmps fun p hp => List.mem_append_right _ hp)⟩
/-- a for over typed items -/
theorem s_forX {α : Type} {wi : TI} {tbd : TS} (xs : List α) (ea : α → Itm) (h : Ei c ρ wi (xs.map ea) ρ1) (I : Nat → List Sl) (h0 : Le ρ1 (I 0))
    (hs : ∀ (T' : Tm), (∀ p ∈ T, p ∈ T') → ∀ (i : Nat) (x : α), xs[i]? = some x → ∃ ρa ws, Eg c g (ea x) (I i) ρa ws ∧ Ss c T' ρa tbd ⟨fun σ H => Wd c T' H σ (I (i + 1)), rt, nx, fun σ H => Wd c T' H σ (I (i + 1))⟩)
    (hd : Sk c T (I xs.length) nx) : Ss c T ρ (tFor wi g tbd) ⟨nx, rt, bk, ct⟩ := by
  refine s_for h I h0 (fun T' hT i d hd => ?_) (by rw [List.length_map]; exact hd)
  rw [List.getElem?_map] at hd
  cases hx : xs[i]? with
  | none => rw [hx] at hd; cases hd
  | some x =>
    rw [hx] at hd
    have hd : ea x = d := Option.some.inj hd
    subst hd
    exact hs T' hT i x hx
/-- a while, by a state α -/
theorem s_while {α : Type} {tbd : TS} (I : α → List Sl) (P : α → Prop) (μ : α → Nat) (a0 : α) (hP : P a0) (h0 : Le ρ (I a0))
    (hs : ∀ a, P a → ∃ (b : Bool) (ρa : List Sl), Et c (I a) t b ρa ∧ (b = true → Ss c T ρa tbd ⟨fun σ H => ∃ a', P a' ∧ μ a' < μ a ∧ Wd c T H σ (I a'), rt, nx, fun σ H => ∃ a', P a' ∧ μ a' < μ a ∧ Wd c T H σ (I a')⟩) ∧ (b = false → Sk c T ρa nx)) :
    Ss c T ρ (tWhile t tbd) ⟨nx, rt, bk, ct⟩ := fun σ H W => by
  refine ⟨fun m σ' H' => ∃ a, P a ∧ μ a = m ∧ Wd c T H' σ' (I a), ⟨μ a0, a0, hP, rfl, W.le h0⟩, fun m σ' H' ⟨a, ha, hm, W1⟩ => ?_⟩
  obtain ⟨b, ρa, g1, g2, g3⟩ := hs a ha
  refine g1 T σ' H' W1 _ fun H2 W2 => ?_
  cases b with
  | true =>
    rw [if_pos rfl]
    refine ⟨fun σ3 H3 => ∃ a', P a' ∧ μ a' < μ a ∧ Wd c T H3 σ3 (I a'), fun σ3 H3 ⟨a', q1, q2, q3⟩ => ⟨μ a', by omega, a', q1, rfl, q3⟩, g2 rfl σ' H2 W2⟩
  | false =>
    rw [if_neg (by decide)]
    exact g3 rfl σ' H2 W2
theorem s_endW {α : Type} {I : α → List Sl} {P : α → Prop} {μ : α → Nat} {n : Nat} (a' : α) (hP : P a') (hμ : μ a' < n) (h : Le ρ (I a')) : Sk c T ρ (fun σ H => ∃ a', P a' ∧ μ a' < n ∧ Wd c T H σ (I a')) := fun σ H W => ⟨a', hP, hμ, W.le h⟩
/-- what is wanted of what is returned -/
def Rt (c : Cz) (d : PyData) (ms : List (Addr × MO)) (rt : VK) : Prop := ∀ v H', (∀ a o, a ∉ c.M → c.B a = some o → H' a = some o) → (∀ p ∈ ms, MoOk c.K c.S0 H' p.1 p.2) → Dz c.K (hide c.S0 H') v d → rt v H'
theorem hide_S0 : Ex (hide (hid c ρ) H) (hide c.S0 H) := hide_mono fun a o n h => ⟨fun m => n (List.mem_append_left _ m), h⟩
theorem s_ret (h : Ed c ρ te d ρ1) (hr : Rt c d [] D.rt) : Ss c T ρ (tRet te) D := fun σ H W => h T σ H W _ fun v H1 W1 => hr v H1 W1.keep (fun _ hp => by cases hp) (dpm hide_S0 W1.dp)
theorem s_retS {i : Nat} {l : Bool} {a : Addr} {st : MO} (h : Ed c ρ te d ρ1) (hi : ρ1[i]? = some (.mu l a st)) (hr : Rt c d [(a, st)] D.rt) : Ss c T ρ (tRet te) D := fun σ H W => h T σ H W _ fun v H1 W1 => hr v H1 W1.keep (fun p hp => by
  simp only [List.mem_singleton] at hp
  subst hp
  exact (W1.ok i _ hi).2.2.mono hide_S0 rfl) (dpm hide_S0 W1.dp)
/-! ### a def's entry -/
theorem start_wd {K : PySem.W.Frag} {N : List Str} {vs : List V} {ds : List PyData} {S M : List Addr} {H : Hp} (hd : ∀ a ∈ S, ∃ o, H a = some o) (a : DzAll K (hide S H) vs ds) (hl : ds.length ≤ N.length) :
    Wd ⟨K, H, [], S⟩ [] H (L2.start N vs) (ds.map .da ++ List.replicate (N.length - ds.length) .no) := by
  have lv := dpa_length a
  have nm : ∀ (i : Nat) (l : Bool) (b : Addr) (o : MO), (ds.map Sl.da ++ List.replicate (N.length - ds.length) Sl.no)[i]? ≠ some (.mu l b o) := fun i l b o e => by
    have := List.mem_of_getElem? e
    simp at this
  have hid0 : muts (ds.map Sl.da ++ List.replicate (N.length - ds.length) Sl.no) = [] := by
    apply List.eq_nil_iff_forall_not_mem.mpr
    intro b m
    obtain ⟨i, l, o, e⟩ := mem_muts.mp m
    exact nm i l b o e
  have hh : hid ⟨K, H, [], S⟩ (ds.map Sl.da ++ List.replicate (N.length - ds.length) Sl.no) = S := by
    show S ++ muts _ = S
    rw [hid0, List.append_nil]
  refine ⟨?_, fun a o _ h => h, fun a m => (nomatch m), hd, fun p hp => (nomatch hp), fun i j l m a o u h _ => absurd h (nm i l a o), fun i a o h => absurd h (nm i true a o), fun i s e => ?_⟩
  · unfold L2.start
    simp [lv]
  · rw [hh]
    unfold L2.start
    by_cases hi : i < ds.length
    · rw [List.getElem?_append_left (by simpa using hi), List.getElem?_map, List.getElem?_eq_getElem hi] at e
      cases e
      obtain ⟨v, e1, e2⟩ := dpa_get a (List.getElem?_eq_getElem hi)
      refine ⟨v, ?_, e2⟩
      rw [List.getElem?_append_left (by simp; omega), List.getElem?_map, e1]
      rfl
    · rw [List.getElem?_append_right (by simp; omega)] at e
      have := List.mem_of_getElem? e
      simp at this
      rw [this.2]
      exact trivial
/-- a pure def -/
theorem fn_pure {K : PySem.W.Frag} {R : List PyData → PyData → Prop} {N : List Str} {ts : TS} (hN : ∀ ds d, R ds d → ds.length ≤ N.length)
    (h : ∀ (B : Hp) (S : List Addr) (ds : List PyData) (d : PyData), R ds d → ∀ D : Ends, Rt ⟨K, B, [], S⟩ d [] D.rt → (d = .none → ∀ T ρ, Sk ⟨K, B, [], S⟩ T ρ D.nx) → Ss ⟨K, B, [], S⟩ [] (ds.map .da ++ List.replicate (N.length - ds.length) .no) ts D)
    (vs : List V) (H : Hp) (Q : VK) (E : XK) (hs : SpP K R vs H Q E) : ts { nx := fun _ H' => Q .non H', rt := Q } (L2.start N vs) H := by
  obtain ⟨S, ds, d, hd, a, hR, q⟩ := hs
  refine h H S ds d hR { nx := fun _ H' => Q .non H', rt := Q } (fun v H' k _ dp => q v H' (fun a o e => k a o (fun m => nomatch m) e) dp) (fun e T ρ σ H' W => ?_) _ _ (start_wd (M := []) hd a (hN _ _ hR))
  subst e
  exact q .non H' (fun a o e => W.keep a o (fun m => nomatch m) e) .non
end
end Nz

/-! rules of the machine that the layer lacks: plain tuples, reversed tuples, sums of tuples, tuple.count, repr of data, products and quotients of great ints -/
namespace Nz
open PySem PySem.Spec PyProof.Rows L2 RZ HT

theorem isTup_dict {h : Heap} {a : Addr} {o : Obj} {its : Array Value} (e : h.get? a = some o) (p : IsTup h a its) : o.cls = .type "tuple" ∧ ∃ n, o.data = .seq its n := by
  obtain ⟨o', e', hc, hd⟩ := p
  rw [e] at e'
  cases e'
  exact ⟨hc, hd⟩
section
variable {X : Cx} {pins : List (Addr × Obj)} {σ : L2.St} {H : Hp} {s : Shared}
/-- a new tuple is laid, plain -/
theorem newTup (I : Inv X pins σ H s) {xs : List V} {its : List Value} {Q : VK} (z : xs.length ≤ sizeLine) (r : Vals xs its) (q : ∀ p o, o.dict = none → H p = none → Q (.ref p) (upd H p (.frz o (.tup xs)))) :
    EP X pins σ Q (.ref s.heap.objs.size) { s with heap := s.heap.push { cls := .type "tuple", data := .seq its.toArray } } := by
  refine ⟨.ref s.heap.objs.size, _, I.laid (t' := s.toks) (o := .frz { cls := .type "tuple", data := .seq its.toArray } (.tup xs)) (fun b ob q => Heap.get?_push_of_some _ q) (Nat.le_refl _) ?_, rfl, q _ _ rfl (I.hok.fresh (Nat.le_refl _))⟩
  exact ⟨Heap.get?_push_size _ rfl, z, its, r, IsTup.new _ _⟩
theorem pe_tupF {es : List Expr} {t : TA} {x1} {pos : Pos} (h : PA X es t) : PE X (.Tuple es x1 pos) (tTupF t) := by
  refine ⟨fun pins s σ H Q I hq => ?_⟩
  refine wpAny_Tuple_spliced (thn (h.run pos pins s σ H _ I hq) fun us s1 ⟨xs, H1, I1, r, z, q⟩ => ⟨by rw [← r.length]; exact z, ?_⟩)
  exact newTup I1 z r q
theorem call_tupleF : CallR X (.type "tuple") (rTupOf X.K) := by
  intro pins s σ H xs us Q I r h
  obtain ⟨p, ys, rfl, h⟩ := h
  obtain ⟨u, rfl, rx⟩ := vals1 r
  cases rx
  rcases h with ⟨hq, q⟩ | ⟨hq, q⟩
  · obtain ⟨its, r', pl, hz⟩ := I.list hq
    have hlen := r'.length
    refine call_tuple_list pl.isList (fun h' kp => ?_) (by simp only [List.size_toArray] <;> omega)
    exact newTup (s := { s with heap := h' }) (I.kept (t' := s.toks) kp) hz r' q
  · obtain ⟨its, r', pl, hz⟩ := I.tuple hq
    exact call_tuple_same pl ⟨.ref p, H, I, rfl, q⟩
/-- t + u -/
def rCatF (K : PySem.W.Frag) : R2 := fun x y H Q => ∃ a b xs ys, x = .ref a ∧ y = .ref b ∧ SqT K H a xs ∧ SqT K H b ys ∧ xs.length + ys.length ≤ sizeLine ∧
  (xs = [] → Q (.ref b) H) ∧ (xs ≠ [] → ys = [] → Q (.ref a) H) ∧ (xs ≠ [] → ys ≠ [] → ∀ p o, o.dict = none → H p = none → Q (.ref p) (upd H p (.frz o (.tup (xs ++ ys)))))
theorem op_catF : OpR X (binaryOp .Add) (rCatF X.K) := by
  intro pins s σ H x y v u Q I rx ry h
  obtain ⟨a, b, xs, ys, rfl, rfl, ha, hb, hz, q0, q1, q2⟩ := h
  cases rx
  cases ry
  obtain ⟨its, r1, p1, _⟩ := I.tuple ha
  obtain ⟨its2, r2, p2, _⟩ := I.tuple hb
  by_cases hx : xs = []
  · subst hx
    cases r1
    exact cat_tup0 p1 p2 ⟨.ref b, H, I, rfl, q0 rfl⟩
  · refine cat_tup p1 p2 (fun z => hx (r1.nil_iff.mp z)) (fun z => ⟨.ref a, H, I, rfl, q1 hx (r2.nil_iff.mp z)⟩) (fun z => ?_) (by rw [← r1.length, ← r2.length]; exact hz)
    exact newTup I (by rw [List.length_append]; exact hz) (r1.append r2) (q2 hx (fun w => z (r2.nil_iff.mpr w)))
/-- t[lo:hi]: the whole of it is t itself -/
def rSlF (K : PySem.W.Frag) : V → Option Int → Option Int → Hp → VK → Prop := fun x lo hi H Q => ∃ a xs, x = .ref a ∧ SqT K H a xs ∧
  (sIx xs.length 0 lo = 0 ∧ sIx xs.length xs.length hi = xs.length → Q (.ref a) H) ∧ (¬ (sIx xs.length 0 lo = 0 ∧ sIx xs.length xs.length hi = xs.length) → ∀ p o, o.dict = none → H p = none → Q (.ref p) (upd H p (.frz o (.tup (cutV xs lo hi)))))
theorem sl_tupF : SlR X (rSlF X.K) := by
  intro pins s σ H x v vl vu lo hi sl Q I rx hs pl pu h
  obtain ⟨a, xs, rfl, hx, q1, q2⟩ := h
  cases rx
  obtain ⟨its, r, ht, hz⟩ := I.tuple hx
  have hlen : its.toArray.size = xs.length := by rw [List.size_toArray]; exact r.length.symm
  by_cases hw : sIx xs.length 0 lo = 0 ∧ sIx xs.length xs.length hi = xs.length
  · refine ⟨"tuple", _, PyProof.Rows.slot_tuple_getitem.lookup, ht.typeIs, ?_⟩
    exact getItem_tuple_whole ht hs pl pu (by rw [hlen]; exact hw) ⟨.ref a, H, I, rfl, q1 hw⟩
  · refine ⟨"tuple", _, PyProof.Rows.slot_tuple_getitem.lookup, ht.typeIs, ?_⟩
    refine getItem_tuple_cut ht hs pl pu (by rw [hlen]; exact hw) ?_ (by rw [hlen]; exact hz)
    rw [hlen]
    exact newTup I (Nat.le_trans (cutV_length xs lo hi) hz) ((r.drop _).take _) (q2 hw)
end
/-! ### t[::-1] -/
section
variable {prog : Program} {w : World} {A : Around} {E : Value → Shared → Prop} {s : Shared}
theorem sliceApplied_rev {sl : Addr} {vl vu vs : Value} {n : Nat} {Q : Int × Int × Nat → Shared → Prop} (hs : s.heap.IsSliceOf sl vl vu vs) (pl : IsPart vl none) (pu : IsPart vu none) (ps : IsPart vs (some (-1)))
    (h : Q ((n : Int) - 1, -1, n) s) : wpAny (model prog w) A (Builtin.Slice.sliceApplied (.ref sl) (pure (n : Int))) Q E s := by
  obtain ⟨os, hos, hcs, hds⟩ := id hs
  unfold Builtin.Slice.sliceApplied Builtin.Slice.sliceFields
  refine wpAny_bind (wpAny_bind (wpAny_field hos hds (x := vl) rfl (wpAny_bind (wpAny_field hos hds (x := vu) rfl (wpAny_bind (wpAny_field hos hds (x := vs) rfl (wpAny_pure ?_)))))))
  refine wpAny_bind (slicePart_ ps ?_)
  show wpAny _ _ (if ((-1 : Int) == 0) = true then _ else _) _ _ s
  rw [if_neg (by decide)]
  refine wpAny_bind (slicePart_ pl (wpAny_bind (slicePart_ pu (wpAny_bind (wpAny_pure ?_)))))
  show wpAny _ _ (match Builtin.Slice.sliceAdjust none none (-1) (n : Int) with | (lo, hi) => pure (lo, (-1 : Int), Builtin.Slice.slicePlaces lo hi (-1))) _ _ s
  have e1 : Builtin.Slice.sliceAdjust none none (-1) (n : Int) = ((n : Int) - 1, -1) := rfl
  have e2 : Builtin.Slice.slicePlaces ((n : Int) - 1) (-1) (-1) = n := by
    unfold Builtin.Slice.slicePlaces
    rw [if_neg (by decide), show (-(-1 : Int)) = 1 from rfl, Int.ediv_one]
    split <;> omega
  rw [e1]
  show wpAny _ _ (pure ((n : Int) - 1, (-1 : Int), Builtin.Slice.slicePlaces ((n : Int) - 1) (-1) (-1))) _ _ s
  rw [e2]
  exact wpAny_pure h
theorem pick_rev (xs : Array Value) : ((List.range xs.size).filterMap fun (m : Nat) => xs[(((xs.size : Int) - 1) + (m : Int) * (-1)).toNat]?) = xs.toList.reverse := by
  apply List.ext_getElem?
  intro i
  have e : ((List.range xs.size).filterMap fun (m : Nat) => xs[(((xs.size : Int) - 1) + (m : Int) * (-1)).toNat]?) = (List.range xs.size).map fun (m : Nat) => xs.toList.getD (xs.size - 1 - m) .none := by
    have : ∀ l : List Nat, (∀ m ∈ l, m < xs.size) → (l.filterMap fun (m : Nat) => xs[(((xs.size : Int) - 1) + (m : Int) * (-1)).toNat]?) = l.map fun (m : Nat) => xs.toList.getD (xs.size - 1 - m) .none := fun l => by
      induction l with
      | nil => intro _; rfl
      | cons m l ih =>
        intro h
        have hm := h m (List.mem_cons_self ..)
        have ei : (((xs.size : Int) - 1) + (m : Int) * (-1)).toNat = xs.size - 1 - m := by omega
        have hlt : xs.size - 1 - m < xs.size := by omega
        rw [List.filterMap_cons, List.map_cons, ei, Array.getElem?_eq_getElem hlt, ih fun k hk => h k (List.mem_cons_of_mem _ hk)]
        simp [List.getD, hlt]
    exact this _ fun m hm => List.mem_range.mp hm
  rw [e, List.getElem?_map]
  by_cases hi : i < xs.size
  · rw [List.getElem?_range hi, List.getElem?_reverse (by simpa using hi)]
    simp [List.getD, show xs.size - 1 - i < xs.size by omega]
  · rw [List.getElem?_eq_none_iff.mpr (by simp; omega), List.getElem?_eq_none_iff.mpr (by simp; omega)]
    rfl
theorem getItem_tuple_rev {t sl : Addr} {items : Array Value} {vl vu vs : Value} {Q : Value → Shared → Prop} (ht : IsTup s.heap t items) (hs : s.heap.IsSliceOf sl vl vu vs) (pl : IsPart vl none) (pu : IsPart vu none) (ps : IsPart vs (some (-1)))
    (h : Q (.ref s.heap.objs.size) { s with heap := s.heap.push { cls := .type "tuple", data := .seq items.toList.reverse.toArray } })
    (hsz : items.size ≤ sizeLine) : wpAny (model prog w) A (getItem (.ref t) (.ref sl)) Q E s := by
  have htake : sizeOk (.seq items.toList.reverse.toArray) := by
    show items.toList.reverse.toArray.size ≤ sizeLine
    rw [List.size_toArray, List.length_reverse, Array.length_toList]
    exact hsz
  obtain ⟨os, hos, hcs, hds⟩ := id hs
  have hTs : s.TypeIs (.ref sl) "slice" := ⟨os, hos, hcs⟩
  unfold getItem
  try with_reducible refine wpAny_holding ?_
  first | refine wpAny_bind (wpAny_pure ?_) | skip
  refine wpAny_bind (wpAny_sequenceKey ht.typeIs (by decide) ?_)
  refine wpAny_bind (wpAny_callSpecial?_slot (name := Str.ofString "__getitem__") ht.typeIs PyProof.Rows.slot_tuple_getitem
    (wpAny_call_entry PyProof.Rows.slot_tuple_getitem ht.typeIs entry_tuple_getitem ?_ (args_tuple_getitem _ _)))
  show wpAny _ _ (Builtin.Tuple.tupleItemsOf (.ref t) >>= _) _ _ s
  refine wpAny_bind (tupleItemsOf_ ht ?_)
  refine wpAny_bind (wpAny_typeOf hTs ?_)
  rw [if_pos (by decide)]
  refine wpAny_bind (sliceApplied_rev hs pl pu ps ?_)
  have hno : ¬ ((((items.size : Int) - 1) == 0 && (-1 : Int) == 1 && items.size == items.size) = true) := by
    intro q
    rw [Bool.and_eq_true, Bool.and_eq_true] at q
    exact absurd (eq_of_beq q.1.2) (by decide)
  show wpAny _ _ (if (((items.size : Int) - 1) == 0 && (-1 : Int) == 1 && items.size == items.size) = true then _ else _) _ _ s
  rw [if_neg hno, pick_rev]
  first
    | exact wpAny_bind (m := Builtin.Tuple.tupleExact _) (wpAny_newObj_type (wpAny_pure ⟨_, rfl, wpAny_pure h⟩) htake)
    | exact wpAny_bind (m := Builtin.Tuple.tupleExact _) (wpAny_newObj_type (wpAny_bind (wpAny_pure (wpAny_pure ⟨_, rfl, wpAny_pure h⟩))) htake)
    | exact wpAny_bind (wpAny_bind (m := Builtin.Tuple.tupleExact _) (wpAny_newObj_type (wpAny_pure (wpAny_pure ⟨_, rfl, wpAny_pure h⟩)) htake))
    | exact wpAny_bind (wpAny_bind (m := Builtin.Tuple.tupleExact _) (wpAny_newObj_type (wpAny_pure ⟨_, rfl, wpAny_pure h⟩) htake))
end
section
variable {X : Cx}
def tRevT (K : PySem.W.Frag) (te : TE) : TE := fun σ H Q => te σ H fun x H1 => ∃ a xs, x = .ref a ∧ SqT K H1 a xs ∧ ∀ p o, o.dict = none → H1 p = none → Q (.ref p) (upd H1 p (.frz o (.tup xs.reverse)))
theorem pe_revT {e : Expr} {te : TE} {k : Nat} {p1 p2 p3 pos : Pos} (he : PE X e te) : PE X (.Subscript e (.Slice none none (some (.UnaryOp .USub (.Constant (.int 1) k p1) p2)) p3) pos) (tRevT X.K te) := by
  refine ⟨fun pins s σ H Q I h => ?_⟩
  refine Subscript_ (thn (he.run pins s σ H _ I h) fun v s1 ⟨x, H1, I1, r1, q1⟩ => ?_)
  obtain ⟨a, xs, ex, hx, q⟩ := q1
  subst ex
  cases r1
  have hst : PO X (some (.UnaryOp .USub (.Constant (.int 1) k p1) p2)) (tPart (tUn (rU fun i => .int (-i)) (tC (.int 1)))) := po_some (pe_un un_neg pe_int)
  refine wpAny_Slice (thn (po_none.run pins s1 σ H1 (fun o H2 => o = none ∧ H2 = H1) I1 ⟨rfl, rfl⟩) fun vl s2 ⟨l, H2, I2, pl, el, e2⟩ => ?_)
  subst el e2
  refine thn (po_none.run pins s2 σ H2 (fun o H3 => o = none ∧ H3 = H2) I2 ⟨rfl, rfl⟩) fun vu s3 ⟨u, H3, I3, pu, eu, e3⟩ => ?_
  subst eu e3
  refine thn (hst.run pins s3 σ H3 (fun o H4 => o = some (-1) ∧ H4 = H3) I3 ⟨1, rfl, -1, rfl, rfl, rfl⟩) fun vs s4 ⟨o, H4, I4, ps, eo, e4⟩ => ?_
  subst eo e4
  have I5 : Inv X pins σ H4 { s4 with heap := s4.heap.push { cls := .type "slice", data := .fields #[vl, vu, vs] } } := I4.kept (t' := s4.toks) fun b ob q => Heap.get?_push_of_some _ q
  obtain ⟨its, r, ht, hz⟩ := I5.tuple hx
  have hlen := r.length
  show wpAny (model X.prog X.w) X.A (subscriptTail e (.Slice none none (some (.UnaryOp .USub (.Constant (.int 1) k p1) p2)) p3) (.ref a) (.ref s4.heap.objs.size)) (EP X pins σ Q) X.xe { s4 with heap := s4.heap.push { cls := .type "slice", data := .fields #[vl, vu, vs] } }
  refine tail_any (ops := [.ref a, .ref s4.heap.objs.size]) ht.typeIs (PyProof.Rows.slot_tuple_getitem.lookup) ?_ (by with_unfolding_all rfl)
  refine getItem_tuple_rev ht (Heap.IsSliceOf.new _ vl vu vs) pl pu ps ?_ (by rw [List.size_toArray]; omega)
  exact newTup I5 (by rw [List.length_reverse]; exact hz) r.reverse q
end
/-! ### list + list, whatever they are -/
section
variable {X : Cx}
def rCatG (K : PySem.W.Frag) : R2 := fun x y H Q => ∃ a b xs ys, x = .ref a ∧ y = .ref b ∧ SqL K H a xs ∧ SqL K H b ys ∧ xs.length + ys.length ≤ sizeLine ∧ ∀ p, H p = none → Q (.ref p) (upd H p (.lst (xs ++ ys)))
theorem op_catG : OpR X (binaryOp .Add) (rCatG X.K) := by
  intro pins s σ H x y v u Q I rx ry h
  obtain ⟨a, b, xs, ys, rfl, rfl, ha, hb, hz, q⟩ := h
  cases rx
  cases ry
  obtain ⟨its, r, ⟨⟨cls, dd, data, sl⟩, n, ho, hc, hdd, hd⟩, hl⟩ := I.list ha
  obtain ⟨its2, r2, ⟨⟨cls2, dd2, data2, sl2⟩, n2, ho2, hc2, hdd2, hd2⟩, hl2⟩ := I.list hb
  simp only at hc hd hc2 hd2
  subst hc hd hc2 hd2
  have e1 := r.length
  have e2 := r2.length
  refine concat_meets ⟨_, ho, rfl⟩ ⟨_, ho2, rfl⟩ noFill_list_add seq_list_add PySem.F.slot_list_add PySem.F.entry_list_add (PySem.F.args_list_add_2 _ _)
    (list_addW a b its.toArray its2.toArray n n2 dd dd2 sl sl2 (by rw [List.size_toArray, List.size_toArray]; omega)) ⟨ho, ho2, ?_⟩
  have ea : its.toArray ++ its2.toArray = (its ++ its2).toArray := by simp
  rw [ea]
  exact ⟨.ref _, _, I.lnew (t' := s.toks) (r.append r2) (by rw [List.length_append]; exact hz), rfl, q _ I.fresh⟩
/-- xs[i], by values -/
def rGetG (K : PySem.W.Frag) : V → V → Hp → VK → Prop := fun x y H Q => ∃ p xs i v, x = .ref p ∧ y = .int i ∧ SqL K H p xs ∧ atI xs i = some v ∧ Q v H
end
/-! ### ints of any size -/
section
variable {X : Cx}
theorem op_mulG : OpR X (binaryOp .Mult) (rI IntMulOk fun i j => .int (i * j)) := opI fun _ _ _ _ _ _ _ hc q => mul_int q hc
theorem iop_mulG : OpR X (inplaceOp .Mult) (rI IntMulOk fun i j => .int (i * j)) := opI fun _ _ _ _ _ _ _ hc q => imul_int q hc
def CDivG (i j : Int) : Prop := 0 < j ∧ Builtin.divisionGoesByPylong i j = false
theorem op_fdivG : OpR X (binaryOp .FloorDiv) (rI CDivG fun i j => .int (i / j)) := opI fun i j _ _ _ _ _ hc q => by
  have h1 : (0 : Int) < j := hc.1
  exact floordiv_int (by omega) (by rw [Int.fdiv_eq_ediv_of_nonneg i (by omega)]; exact q) (.inl hc.2)
end
/-! ### sums, greatest and least items of tuples -/
section
variable {prog : Program} {w : World} {A : Around} {E : Value → Shared → Prop} {s : Shared} {l : Addr} {xs : Array (Int × Tok)}
theorem iter_intTup {Q : Value → Shared → Prop} (hl : s.heap.IsTuple l (intItems xs))
    (h : ∀ s₂ : Shared, s₂ = { s with heap := s.heap.push { cls := .type "tuple_iterator", data := .fields #[.ref l, .int 0 0] } } →
      (s₂.heap.IsTupleIter s.heap.objs.size l 0 ∧ s₂.heap.IsTuple l (intItems xs)) → (∀ b ∈ [s.heap.objs.size, l], b < s₂.heap.objs.size) → l ≠ s.heap.objs.size → Q (.ref s.heap.objs.size) s₂) :
    wpAny (model prog w) A (pyIter (.ref l)) Q E s := by
  have hlt : l < s.heap.objs.size := by obtain ⟨_, e, _⟩ := hl; exact Heap.lt_size e
  refine wpAny_pyIter_tuple hl (h _ rfl ⟨⟨_, Heap.get?_push_size _ rfl, rfl, rfl⟩, hl.at fun o e => Heap.get?_push_of_some _ e⟩ (fun b hb => ?_) (Nat.ne_of_lt hlt))
  show b < (s.heap.push _).objs.size
  rw [Heap.size_push]
  rcases List.mem_cons.mp hb with rfl | hb
  · exact Nat.lt_succ_self _
  · rcases List.mem_cons.mp hb with rfl | hb
    · exact Nat.lt_succ_of_lt hlt
    · cases hb
theorem old_keptT {h' : Heap} (hk : ∀ b o, b ∉ [s.heap.objs.size] → (s.heap.push { cls := .type "tuple_iterator", data := .fields #[.ref l, .int 0 0] }).get? b = some o → h'.get? b = some o) :
    ∀ b o, s.heap.get? b = some o → h'.get? b = some o := fun b o e => hk b o (by simpa using Nat.ne_of_lt (Heap.lt_size e)) (Heap.get?_push_of_some _ e)
theorem sum_intTupG {Q : Value → Shared → Prop} (hh : A.handled = none) (hl : s.heap.IsTuple l (intItems xs))
    (h : ∀ h' tk t', (∀ b o, s.heap.get? b = some o → h'.get? b = some o) → Q (.int (preSum (numAt xs) xs.size) t') { s with heap := h', toks := tk }) :
    wpAny (model prog w) A (call (.builtin "sum") [.ref l]) Q E s := by
  refine call_sum_walkG (iter_intTup hl fun s₂ e st hfp hlI => ?_)
  subst e
  refine ⟨_, _, _, _, _, _, numAt xs, rfl, Walks.tuple (A := A.in1) hh _ l hlI (intItems xs), st, hfp, (fun _ _ => intItems_at), fun h' tk t' hk => ?_⟩
  have := h h' tk t' (old_keptT hk)
  simpa [intItems] using this
theorem max_intTup {Q : Value → Shared → Prop} (hh : A.handled = none) (hl : s.heap.IsTuple l (intItems xs)) (hne : 0 < xs.size)
    (h : ∀ v h' tk, (intItems xs)[argBest (fun i j => decide (numAt xs i > numAt xs j)) (xs.size - 1)]? = some v → (∀ b o, s.heap.get? b = some o → h'.get? b = some o) → Q v { s with heap := h', toks := tk }) :
    wpAny (model prog w) A (call (.builtin "max") [.ref l]) Q E s := by
  refine call_max_walk (iter_intTup hl fun s₂ e st hfp hlI => ?_)
  subst e
  refine ⟨_, _, _, _, _, _, _, rfl, Walks.tuple (A := A.in1) hh _ l hlI (intItems xs), st, hfp, by simpa [intItems] using hne, CmpOf.ints_gt (numAt xs) (fun _ _ => intItems_at), fun v h' tk hP hk => ?_⟩
  exact h v h' tk (by simpa [intItems] using hP) (old_keptT hk)
theorem min_intTup {Q : Value → Shared → Prop} (hh : A.handled = none) (hl : s.heap.IsTuple l (intItems xs)) (hne : 0 < xs.size)
    (h : ∀ v h' tk, (intItems xs)[argBest (fun i j => decide (numAt xs i < numAt xs j)) (xs.size - 1)]? = some v → (∀ b o, s.heap.get? b = some o → h'.get? b = some o) → Q v { s with heap := h', toks := tk }) :
    wpAny (model prog w) A (call (.builtin "min") [.ref l]) Q E s := by
  refine call_min_walk (iter_intTup hl fun s₂ e st hfp hlI => ?_)
  subst e
  refine ⟨_, _, _, _, _, _, _, rfl, Walks.tuple (A := A.in1) hh _ l hlI (intItems xs), st, hfp, by simpa [intItems] using hne, CmpOf.ints_lt (numAt xs) (fun _ _ => intItems_at), fun v h' tk hP hk => ?_⟩
  exact h v h' tk (by simpa [intItems] using hP) (old_keptT hk)
end
section
variable {X : Cx}
def rSumT (K : PySem.W.Frag) : List V → Hp → VK → Prop := fun vs H Q => ∃ (a : Addr) (ns : List Int), vs = [V.ref a] ∧ (SqT K H a (ns.map V.int) ∨ SqL K H a (ns.map V.int)) ∧ Q (.int ns.sum) H
theorem cr_sumT (hc : X.calm = true) : CallR X (.builtin "sum") (rSumT X.K) := by
  intro pins s σ H vs us Q I r h
  obtain ⟨a, ns, rfl, hs, q⟩ := h
  rcases hs with hs | hs
  · obtain ⟨its, rv, ht, _⟩ := I.tuple hs
    rw [Vals.ref1 r]
    have hi := rv.ints
    obtain ⟨xs, e⟩ := hi.allInts.items
    have hn : numsOf (intItems xs).toList = ns := by rw [← e]; exact hi.numsOf
    rw [nums_intItems] at hn
    rw [e] at ht
    refine sum_intTupG (I.ok.hd hc) ht fun h' tk t' hk => ?_
    refine ⟨.int _, H, I.kept hk, ⟨t', ?_⟩, q⟩
    rw [preSum_eq, List.take_of_length_le (by simp), hn]
  · exact cr_sum hc pins s σ H _ us Q I r ⟨a, ns, rfl, hs, q⟩
def rMaxT (K : PySem.W.Frag) : List V → Hp → VK → Prop := fun vs H Q => ∃ (a : Addr) (ns : List Int), vs = [V.ref a] ∧ (SqT K H a (ns.map V.int) ∨ SqL K H a (ns.map V.int)) ∧ 0 < ns.length ∧ ∀ m, m ∈ ns → (∀ y, y ∈ ns → y ≤ m) → Q (.int m) H
def rMinT (K : PySem.W.Frag) : List V → Hp → VK → Prop := fun vs H Q => ∃ (a : Addr) (ns : List Int), vs = [V.ref a] ∧ (SqT K H a (ns.map V.int) ∨ SqL K H a (ns.map V.int)) ∧ 0 < ns.length ∧ ∀ m, m ∈ ns → (∀ y, y ∈ ns → m ≤ y) → Q (.int m) H
theorem cr_maxT (hc : X.calm = true) : CallR X (.builtin "max") (rMaxT X.K) := by
  intro pins s σ H vs us Q I r h
  obtain ⟨a, ns, rfl, hs, hne, q⟩ := h
  rcases hs with hs | hs
  · obtain ⟨its, rv, ht, _⟩ := I.tuple hs
    rw [Vals.ref1 r]
    have hi := rv.ints
    obtain ⟨xs, e⟩ := hi.allInts.items
    have hn : numsOf (intItems xs).toList = ns := by rw [← e]; exact hi.numsOf
    rw [nums_intItems] at hn
    subst hn
    rw [e] at ht
    have hsz : 0 < xs.size := by simpa using hne
    refine max_intTup (I.ok.hd hc) ht hsz fun v h' tk hv hk => ?_
    obtain ⟨t, rfl⟩ := intItems_at hv
    obtain ⟨h1, h2⟩ := argBest_gt (numAt xs) (xs.size - 1)
    refine ⟨.int _, H, I.kept hk, ⟨t, rfl⟩, q _ ?_ fun a ha => ?_⟩
    · rw [numAt_eq]; exact PySem.getD_mem (by rw [List.length_map, Array.length_toList]; omega)
    · obtain ⟨j, hj, rfl⟩ := mem_getD ha
      rw [List.length_map, Array.length_toList] at hj
      have := h2 j (by omega)
      rw [numAt_eq, numAt_eq] at this
      rw [numAt_eq]
      exact this
  · exact cr_max hc pins s σ H _ us Q I r ⟨a, ns, rfl, hs, hne, q⟩
theorem cr_minT (hc : X.calm = true) : CallR X (.builtin "min") (rMinT X.K) := by
  intro pins s σ H vs us Q I r h
  obtain ⟨a, ns, rfl, hs, hne, q⟩ := h
  rcases hs with hs | hs
  · obtain ⟨its, rv, ht, _⟩ := I.tuple hs
    rw [Vals.ref1 r]
    have hi := rv.ints
    obtain ⟨xs, e⟩ := hi.allInts.items
    have hn : numsOf (intItems xs).toList = ns := by rw [← e]; exact hi.numsOf
    rw [nums_intItems] at hn
    subst hn
    rw [e] at ht
    have hsz : 0 < xs.size := by simpa using hne
    refine min_intTup (I.ok.hd hc) ht hsz fun v h' tk hv hk => ?_
    obtain ⟨t, rfl⟩ := intItems_at hv
    obtain ⟨h1, h2⟩ := argBest_lt (numAt xs) (xs.size - 1)
    refine ⟨.int _, H, I.kept hk, ⟨t, rfl⟩, q _ ?_ fun a ha => ?_⟩
    · rw [numAt_eq]; exact PySem.getD_mem (by rw [List.length_map, Array.length_toList]; omega)
    · obtain ⟨j, hj, rfl⟩ := mem_getD ha
      rw [List.length_map, Array.length_toList] at hj
      have := h2 j (by omega)
      rw [numAt_eq, numAt_eq] at this
      rw [numAt_eq]
      exact this
  · exact cr_min hc pins s σ H _ us Q I r ⟨a, ns, rfl, hs, hne, q⟩
end
/-! ### repr of data -/
section
variable {X : Cx}
def showOk (d : PyData) : Prop := d.showable = true ∧ d.hasDict = false ∧ d.depth ≤ 60 ∧ d.shown.length ≤ sizeLine
def rRepr (K : PySem.W.Frag) : List V → Hp → VK → Prop := fun xs H Q => ∃ v d, xs = [v] ∧ Dp K H v d ∧ showOk d ∧ Q (.str d.shown) H
theorem call_repr (hg : X.A.guards = some []) (hu : X.A.units + 61 < cLine) : CallR X (.builtin "repr") (rRepr X.K) := by
  intro pins s σ H xs us Q I r h
  obtain ⟨v, d, rfl, hd, ⟨h1, h2, h3, h4⟩, q⟩ := h
  obtain ⟨u, rfl, ru⟩ := vals1 r
  obtain ⟨as, rd⟩ := Dp.reads I d v u hd ru
  cases rd with
  | none => exact PySem.P.repr_of_none ⟨.str _, H, I.tok _, ⟨_, rfl⟩, q⟩
  | bool b => exact PySem.P.repr_of_bool ⟨.str _, H, I.tok _, ⟨_, rfl⟩, q⟩
  | int i t => exact PySem.P.repr_of_int (by simpa [PyData.showable] using h1) ⟨.str _, H, I.tok _, ⟨_, rfl⟩, q⟩
  | str x t => exact PySem.P.repr_of_str ⟨.str _, H, I.tok _, ⟨_, rfl⟩, q⟩ h4
  | list a1 a2 a3 a4 =>
    exact repr_of_reads' (.list a1 a2 a3 a4) h1 (fun e => by rw [h2] at e; cases e) hg (by omega) (fun _ _ e => e) (fun h' u tk hk => ⟨.str _, H, I.kept (t' := tk) hk, ⟨u, rfl⟩, q⟩) h4
  | tuple a1 a2 a3 a4 =>
    exact repr_of_reads' (.tuple a1 a2 a3 a4) h1 (fun e => by rw [h2] at e; cases e) hg (by omega) (fun _ _ e => e) (fun h' u tk hk => ⟨.str _, H, I.kept (t' := tk) hk, ⟨u, rfl⟩, q⟩) h4
  | dict a1 a2 a3 a4 a5 => simp [PyData.hasDict] at h2
end
end Nz

/-! defs and their calls, where no repr is on the way (so that repr may be called) -/
namespace Nz
open PySem PySem.Spec PyProof.Rows L2
section
variable {P : Program} {w : World} {K : PySem.W.Frag} {mg : Str → Option Value} {base : Heap}
/-- a def keeps its promise, wherever it is called from a place at which no repr runs -/
structure FnG (P : Program) (w : World) (K : PySem.W.Frag) (mg : Str → Option Value) (base : Heap) (k : Nat) (f : Addr) (fd : FuncData) (ps : List Str) (sp : Sp) : Prop where
  len : ∀ vs H Q, sp vs H Q E0 → vs.length = ps.length
  run : ∀ (A : Around) (outer : List Env) (s : Shared) (H : Hp) (args : Args) (us : List Value) (vs : List V) (Q : VK), Room k A → A.guards = some [] → Env0 P w K mg base A outer s H →
    BindsTo s fd args (ps.zip us) → Vals vs us → sp vs H Q E0 → codeAny (model P w) A (.call (.ref f) args) (CR CX0 outer P w H s Q E0) s
theorem FnG.mono {j k : Nat} {f : Addr} {fd : FuncData} {ps : List Str} {sp : Sp} (F : FnG P w K mg base j f fd ps sp) (h : j ≤ k) : FnG P w K mg base k f fd ps sp :=
  ⟨F.len, fun A outer s H args us vs Q hr => F.run A outer s H args us vs Q (hr.mono h)⟩
theorem guards_deeper {A : Around} {env : Env} (h : A.guards = some []) : (A.deeper env).guards = some [] := h
/-- a def of the text, by its body -/
theorem fnG_of {x qual : Str} {st : Stmt} {f : Addr} {fd : FuncData} {N ps : List Str} {k : Nat} {sp : Sp} (F : Fun K x qual st f fd) (S : FnScope N ps (defScope st)) (len : ∀ vs H Q, sp vs H Q E0 → vs.length = ps.length)
    (hbody : ∀ (cdv : Value) (A : Around) (outer : List Env) (s : Shared) (H : Hp), Room k (A.deeper (envOfC qual (defScope st) s.heap.objs.size f cdv)) → A.guards = some [] →
      ∃ t, PSs (cxOf CX0 P w K mg base N qual (defScope st) f cdv A outer s H E0).nox (defBody st) t ∧ ∀ (vs : List V) (Q : VK), sp vs H Q E0 → t { nx := fun _ H' => Q .non H', rt := Q } (L2.start N vs) H) :
    FnG P w K mg base (k + 1) f fd ps sp := by
  obtain ⟨oc, od, kV, doc, pm, an, cdv, ct, osl, rfl, lk, hcd⟩ := F.ex
  refine ⟨len, fun A outer s H args us vs Q hr hgd e0 hb r hsp => ?_⟩
  have hl := len _ _ _ hsp
  have kept : ∀ b o, base.get? b = some o → s.heap.get? b = some o := fun b o e => (e0.bs b o e).1
  have KX : K.In s.heap := e0.mod.kin.keeps kept
  have pk : ∀ y ∈ ps.zip us, (defScope st).names.lookup y.1 = some .local ∨ ((defScope st).names.lookup y.1 = some .cell ∧ ((cellsFrom (s.heap.objs.size + 1) (defScope st).names []).lookup y.1).isSome = true) := by
    intro y hy
    obtain ⟨n, v⟩ := y
    cases S.par n (List.of_mem_zip hy).1 with
    | inl q => exact .inl q
    | inr q => exact .inr ⟨q, PySem.W.cellsFrom_some _ _ _ (.inl q)⟩
  apply codeAny_call_function hr.depth (KX _ _ lk) rfl S.co S.gen rfl (PySem.W.codeRec_of KX hcd)
  apply hb
  refine wpAny_newFunctionEnv_cells S.kind pk fun env he s1 x => ?_
  subst he
  refine ⟨(e0.mod.nolimit.keeps kept).keeps x.toInCall.keep, codeAny_func ?_⟩
  obtain ⟨t, ht, hq⟩ := hbody cdv A outer s H (hr.deeper _) hgd
  have I := inv_start (CX := CX0) (E := E0) (cd := cdv) (qual := qual) S hr.hd e0 hl r x
  refine wpAny_mono (ht.nox.run [] s1 _ H _ I (hq vs Q hsp)) (fun fl s' hs => ?_) fun e s' hs => hs
  match fl, hs with
  | .ret u, ⟨v, σ', H', J, rv, q⟩ => exact ⟨v, H', J.os, J.bare, J.base, J.hok, rv, q⟩
  | .next, ⟨σ', H', J, q⟩ => exact ⟨V.non, H', J.os, J.bare, J.base, J.hok, rfl, q⟩
  | .brk, ⟨_, _, _, q⟩ => exact q.elim
  | .cont, ⟨_, _, _, q⟩ => exact q.elim
/-- a def that is called by its name -/
structure Cl (P : Program) (w : World) (K : PySem.W.Frag) (mg : Str → Option Value) (base : Heap) (k : Nat) (x : Str) (ps : List Str) (sp : Sp) : Prop where
  ex : ∃ f fd, FnG P w K mg base k f fd ps sp ∧ mg x = some (.ref f) ∧ PySem.W.keepIn K (.ref f) = true ∧ Binds K fd ps []
/-- where a def of the text stands behind the top -/
structure Fd (K : PySem.W.Frag) (mg : Str → Option Value) (x : Str) (st : Stmt) : Prop where
  ex : ∃ f fd, Fun K x x st f fd ∧ mg x = some (.ref f)
theorem Cl.mono {j k : Nat} {x : Str} {ps : List Str} {sp : Sp} (C : Cl P w K mg base j x ps sp) (h : j ≤ k) : Cl P w K mg base k x ps sp := by
  obtain ⟨f, fd, F, r⟩ := C.ex
  exact ⟨f, fd, F.mono h, r⟩
end
section
variable {X : Cx} {k : Nat} {x : Str} {ps : List Str} {sp : Sp} {e : Expr} {es : List Expr} {t : TA} {p pos : Pos}
theorem run_fnG {f : Addr} {fd : FuncData} {pins : List (Addr × Obj)} {σ : L2.St} {H : Hp} {s : Shared} {Q : VK} {us : List Value} {vs : List V} (F : FnG X.prog X.w X.K X.mg X.base k f fd ps sp) (hr : Room k X.A) (hgd : X.A.guards = some []) (hb : Binds X.K fd ps [])
    (I : L2.Inv X pins σ H s) (r : Vals vs us) (h : sp vs H Q E0) : wpAny (model X.prog X.w) X.A (call (.ref f) us) (EP X pins σ Q) X.xe s := by
  have hl : (us ++ []).length = ps.length := by rw [List.append_nil, ← r.length]; exact F.len _ _ _ h
  have hb2 := hb s us I.kIn hl
  rw [List.append_nil] at hb2
  apply wpAny_call
  refine codeAny_mono (F.run X.A X.stack s H ⟨us, []⟩ us vs Q hr hgd I.env0 hb2 r h) fun q s' hq => ?_
  match q, hq with
  | .error _, hq => exact hq.elim
  | .ok (.ret u), hq => exact I.after hq
  | .ok .next, hq => exact hq.elim
  | .ok .brk, hq => exact hq.elim
  | .ok .cont, hq => exact hq.elim
theorem pe_cl (C : Cl X.prog X.w X.K X.mg X.base k x ps sp) (hr : Room k X.A) (hgd : X.A.guards = some []) (hg : Gl X x) (ha : PA X (e :: es) t)
    (hdb : (x == ("__debug__" : Str)) = false := by decide) (he : starEach (e :: es) X.env = (false, eval e X.env) :: starEach es X.env := by rfl) (hpl : (backTo pos (starEach es X.env)).any (·.1) = false := by rfl) :
    PE X (.Call (.Name x p) (e :: es) [] pos) (tCall sp [] E0 t) := by
  obtain ⟨f, fd, F, hm, hk, hb⟩ := C.ex
  refine ⟨fun pins s σ H Q I h => ?_⟩
  apply wpAny_Call_Name_kw
  apply ld_glob I hg hm ?_ hdb
  refine PySem.W.callWith_K (h₀ := X.base) I.ok.mod.kin hk (thn (ha.run pos pins s σ H _ I h) fun us s1 h1 => ?_) he hpl
  obtain ⟨vs, H1, I1, r, q⟩ := h1
  rw [List.append_nil] at q
  exact ⟨I1.kIn, run_fnG F hr hgd hb I1 r q⟩
end
end Nz

/-! typed data, and the rules for it that gen.py names -/
namespace Nz
open PySem PySem.Spec PyProof.Rows L2 RZ

/-! ### encodings -/
abbrev eQ (r : Rat) : PyData := .tuple [.int r.num, .int (r.den : Int)]
abbrev eT {α : Type} (f : α → PyData) (l : List α) : PyData := .tuple (l.map f)
abbrev eL {α : Type} (f : α → PyData) (l : List α) : PyData := .list (l.map f)
abbrev eP {α β : Type} (f : α → PyData) (g : β → PyData) (p : α × β) : PyData := .tuple [f p.1, g p.2]
abbrev eP3 {α β γ : Type} (f : α → PyData) (g : β → PyData) (h : γ → PyData) (p : α × β × γ) : PyData := .tuple [f p.1, g p.2.1, h p.2.2]
abbrev eP4 {α β γ δ : Type} (f : α → PyData) (g : β → PyData) (h : γ → PyData) (k : δ → PyData) (p : α × β × γ × δ) : PyData := .tuple [f p.1, g p.2.1, h p.2.2.1, k p.2.2.2]
def eO {α : Type} (f : α → PyData) : Option α → PyData
  | none => .none
  | some a => f a
/-- an item at a place of any sign -/
def ixG {α : Type} [Inhabited α] (xs : List α) (i : Int) : α := (atI xs i).getD default
def InB (n : Nat) (i : Int) : Prop := -(n : Int) ≤ i ∧ i < n
theorem atI_ixG {α : Type} [Inhabited α] {xs : List α} {i : Int} (h : InB xs.length i) : atI xs i = some (ixG xs i) := by
  unfold ixG
  cases e : atI xs i with
  | some a => rfl
  | none =>
    exfalso
    unfold atI ixN at e
    obtain ⟨h1, h2⟩ := h
    by_cases h0 : 0 ≤ i
    · rw [if_pos h0, if_pos h2] at e
      rw [Option.bind_some, List.getElem?_eq_none_iff] at e
      omega
    · rw [if_neg h0, if_pos h1, Option.bind_some, List.getElem?_eq_none_iff] at e
      omega
theorem atI_map {α β : Type} (f : α → β) (xs : List α) (i : Int) : atI (xs.map f) i = (atI xs i).map f := by
  unfold atI
  rw [List.length_map]
  cases ixN xs.length i with
  | none => rfl
  | some j => rw [Option.bind_some, Option.bind_some, List.getElem?_map]
theorem ixG_nat {α : Type} [Inhabited α] {xs : List α} {j : Nat} {v : α} (h : xs[j]? = some v) : ixG xs (j : Int) = v := by
  unfold ixG; rw [atI_nat h]; rfl
theorem ixG_last {α : Type} [Inhabited α] (xs : List α) (v : α) : ixG (xs ++ [v]) (-1) = v := by
  unfold ixG; rw [atI_last]; rfl
def cutX {α : Type} (xs : List α) (lo hi : Option Int) : List α := (xs.drop (HT.sIx xs.length 0 lo)).take (HT.sIx xs.length xs.length hi - HT.sIx xs.length 0 lo)
theorem cutD_map {α : Type} (f : α → PyData) (xs : List α) (lo hi : Option Int) : cutD (xs.map f) lo hi = (cutX xs lo hi).map f := by
  unfold cutD cutX
  rw [List.length_map, List.map_take, List.map_drop]
def maxOf (xs : List Int) : Int := xs.foldl max (xs.headD 0)
def minOf (xs : List Int) : Int := xs.foldl min (xs.headD 0)
theorem foldl_max_ge (l : List Int) : ∀ a, a ≤ l.foldl max a ∧ ∀ y ∈ l, y ≤ l.foldl max a := by
  induction l with
  | nil => intro a; exact ⟨Int.le_refl _, fun y h => nomatch h⟩
  | cons x l ih =>
    intro a
    obtain ⟨h1, h2⟩ := ih (max a x)
    refine ⟨by show a ≤ l.foldl max (max a x); omega, fun y hy => ?_⟩
    show y ≤ l.foldl max (max a x)
    rcases List.mem_cons.mp hy with e | e
    · rw [e]; omega
    · exact h2 y e
theorem foldl_max_mem (l : List Int) : ∀ a, l.foldl max a = a ∨ l.foldl max a ∈ l := by
  induction l with
  | nil => intro a; exact .inl rfl
  | cons x l ih =>
    intro a
    show l.foldl max (max a x) = a ∨ l.foldl max (max a x) ∈ x :: l
    rcases ih (max a x) with h | h
    · rcases Int.le_total a x with q | q
      · exact .inr (by rw [h, Int.max_eq_right q]; exact List.mem_cons_self ..)
      · exact .inl (by rw [h, Int.max_eq_left q])
    · exact .inr (List.mem_cons_of_mem _ h)
theorem maxOf_mem {l : List Int} (h : 0 < l.length) : maxOf l ∈ l := by
  cases l with
  | nil => simp at h
  | cons x l =>
    unfold maxOf
    rcases foldl_max_mem (x :: l) x with e | e
    · show (x :: l).foldl max x ∈ _
      rw [e]; exact List.mem_cons_self ..
    · exact e
theorem maxOf_ge {l : List Int} {y : Int} (h : y ∈ l) : y ≤ maxOf l := (foldl_max_ge l _).2 y h
theorem foldl_min_le (l : List Int) : ∀ a, l.foldl min a ≤ a ∧ ∀ y ∈ l, l.foldl min a ≤ y := by
  induction l with
  | nil => intro a; exact ⟨Int.le_refl _, fun y h => nomatch h⟩
  | cons x l ih =>
    intro a
    obtain ⟨h1, h2⟩ := ih (min a x)
    refine ⟨by show l.foldl min (min a x) ≤ a; omega, fun y hy => ?_⟩
    show l.foldl min (min a x) ≤ y
    rcases List.mem_cons.mp hy with e | e
    · rw [e]; omega
    · exact h2 y e
theorem foldl_min_mem (l : List Int) : ∀ a, l.foldl min a = a ∨ l.foldl min a ∈ l := by
  induction l with
  | nil => intro a; exact .inl rfl
  | cons x l ih =>
    intro a
    show l.foldl min (min a x) = a ∨ l.foldl min (min a x) ∈ x :: l
    rcases ih (min a x) with h | h
    · rcases Int.le_total a x with q | q
      · exact .inl (by rw [h, Int.min_eq_left q])
      · exact .inr (by rw [h, Int.min_eq_right q]; exact List.mem_cons_self ..)
    · exact .inr (List.mem_cons_of_mem _ h)
theorem minOf_mem {l : List Int} (h : 0 < l.length) : minOf l ∈ l := by
  cases l with
  | nil => simp at h
  | cons x l =>
    unfold minOf
    rcases foldl_min_mem (x :: l) x with e | e
    · show (x :: l).foldl min x ∈ _
      rw [e]; exact List.mem_cons_self ..
    · exact e
theorem minOf_le {l : List Int} {y : Int} (h : y ∈ l) : minOf l ≤ y := (foldl_min_le l _).2 y h
/-! ### a product's and a quotient's sizes -/
theorem mul_l {i j : Int} (h : -(2 ^ 64) < i) (h2 : i < 2 ^ 64) : IntMulOk i j := IntMulOk.of_left (intBits_le_64 h h2)
theorem mul_r {i j : Int} (h : -(2 ^ 64) < j) (h2 : j < 2 ^ 64) : IntMulOk i j := IntMulOk.of_right (intBits_le_64 h h2)
theorem mul_b {i j : Int} {a b : Nat} (ha : i.natAbs < 2 ^ a) (hb : j.natAbs < 2 ^ b) (h : a + b ≤ 900000 := by decide) : IntMulOk i j := by
  have x : i.natAbs.log2 < a + 1 := by
    by_cases z : i.natAbs = 0
    · rw [z]; simp
    · have := (Nat.log2_lt z).mpr ha; omega
  have y : j.natAbs.log2 < b + 1 := by
    by_cases z : j.natAbs = 0
    · rw [z]; simp
    · have := (Nat.log2_lt z).mpr hb; omega
  exact L2.CMulW.ok (by unfold L2.CMulW; omega)
theorem div_small {i j : Int} (h : 0 < j) (h2 : j < 1073741824) : CDivG i j := ⟨h, PyProof.noPylong_small (by omega)⟩
theorem div_b {i j : Int} (h : 0 < j) (h2 : j.natAbs < 2 ^ 8999) : CDivG i j := ⟨h, PyProof.noPylong_of_log2 (by
  have := (Nat.log2_lt (show j.natAbs ≠ 0 by omega)).mpr h2
  omega)⟩

section
variable {c : Cz} {ρ ρ1 ρ2 ρ3 : List Sl} {ta tb te tx : TE} {t u : TT} {d d1 d2 d3 : PyData} {T : Tm} {H H' : Hp} {σ : L2.St}
theorem spP_len {K : PySem.W.Frag} {Rl : List PyData → PyData → Prop} {ps : List Str} (h : ∀ ds d, Rl ds d → ds.length = ps.length) : ∀ vs H Q, SpP K Rl vs H Q E0 → vs.length = ps.length := fun vs H Q ⟨S, ds, d, _, a, r, _⟩ => (dpa_length a).trans (h ds d r)
theorem ed_ite {α : Type} {e : α → PyData} {x y : α} {b : Bool} (h : Et c ρ t b ρ1) (h1 : b = true → Ed c ρ1 ta (e x) ρ2) (h2 : b = false → Ed c ρ1 tb (e y) ρ2) : Ed c ρ (tIf t ta tb) (e (if b = true then x else y)) ρ2 :=
  ed_if h (fun q => by rw [if_pos q]; exact h1 q) (fun q => by rw [if_neg (by rw [q]; decide)]; exact h2 q)
/-! #### == of typed data -/
theorem eqv_int (i j : Int) : PyData.eqv (.int i) (.int j) = decide (i = j) := by
  unfold PyData.eqv; by_cases h : i = j <;> simp [h]
theorem rat_ext {r q : Rat} (h : r.num = q.num) (h2 : (r.den : Int) = (q.den : Int)) : r = q := Rat.ext h (by omega)
theorem eqv_Q (r q : Rat) : PyData.eqv (eQ r) (eQ q) = decide (r = q) := by
  by_cases h : r = q
  · subst h; simp [PyData.eqv, PyData.eqvAll]
  · have : ¬ (r.num = q.num ∧ (r.den : Int) = (q.den : Int)) := fun z => h (rat_ext z.1 z.2)
    simp only [PyData.eqv, PyData.eqvAll, h, decide_false, Bool.and_true]
    by_cases e : r.num = q.num
    · have e2 : ¬ (r.den : Int) = (q.den : Int) := fun z => this ⟨e, z⟩
      simp only [e, beq_self_eq_true, Bool.true_and]
      exact beq_eq_false_iff_ne.mpr e2
    · rw [show (r.num == q.num) = false from beq_eq_false_iff_ne.mpr e, Bool.false_and]
theorem shaped_int (i : Int) : SeqAt.shaped (.int i) = true := rfl
theorem shaped_bool (b : Bool) : SeqAt.shaped (.bool b) = true := rfl
theorem shaped_Q (r : Rat) : SeqAt.shaped (eQ r) = true := rfl
theorem ed_eqI {i j : Int} (ha : Ed c ρ ta (.int i) ρ1) (hb : Ed c ρ1 tb (.int j) ρ2) : Ed c ρ (tOp (rEqD c.K) ta tb) (.bool (decide (i = j))) ρ2 := ed_is (ed_eq ha hb rfl rfl) (congrArg PyData.bool (eqv_int i j))
theorem ed_neI {i j : Int} (ha : Ed c ρ ta (.int i) ρ1) (hb : Ed c ρ1 tb (.int j) ρ2) : Ed c ρ (tOp (rNeD c.K) ta tb) (.bool (!decide (i = j))) ρ2 := ed_is (ed_ne ha hb rfl rfl) (congrArg (fun b => PyData.bool (!b)) (eqv_int i j))
theorem ed_eqQ {i j : Rat} (ha : Ed c ρ ta (eQ i) ρ1) (hb : Ed c ρ1 tb (eQ j) ρ2) : Ed c ρ (tOp (rEqD c.K) ta tb) (.bool (decide (i = j))) ρ2 := ed_is (ed_eq ha hb rfl rfl) (congrArg PyData.bool (eqv_Q i j))
theorem ed_neQ {i j : Rat} (ha : Ed c ρ ta (eQ i) ρ1) (hb : Ed c ρ1 tb (eQ j) ρ2) : Ed c ρ (tOp (rNeD c.K) ta tb) (.bool (!decide (i = j))) ρ2 := ed_is (ed_ne ha hb rfl rfl) (congrArg (fun b => PyData.bool (!b)) (eqv_Q i j))
theorem eqv_bool (i j : Bool) : PyData.eqv (.bool i) (.bool j) = decide (i = j) := by cases i <;> cases j <;> rfl
theorem ed_eqB {i j : Bool} (ha : Ed c ρ ta (.bool i) ρ1) (hb : Ed c ρ1 tb (.bool j) ρ2) : Ed c ρ (tOp (rEqD c.K) ta tb) (.bool (decide (i = j))) ρ2 := ed_is (ed_eq ha hb rfl rfl) (congrArg PyData.bool (eqv_bool i j))
theorem ed_neB {i j : Bool} (ha : Ed c ρ ta (.bool i) ρ1) (hb : Ed c ρ1 tb (.bool j) ρ2) : Ed c ρ (tOp (rNeD c.K) ta tb) (.bool (!decide (i = j))) ρ2 := ed_is (ed_ne ha hb rfl rfl) (congrArg (fun b => PyData.bool (!b)) (eqv_bool i j))
/-! #### lists and tuples of typed data -/
theorem ed_lenTX {α : Type} {f : α → PyData} {l : List α} (h : Ed c ρ te (.tuple (l.map f)) ρ1) : Ed c ρ (tCB (rLenS c.K) (tCons te tNil)) (.int (l.length : Int)) ρ1 := ed_is (ed_lenT h) (by rw [List.length_map])
theorem ed_lenLX {α : Type} {f : α → PyData} {l : List α} (h : Ed c ρ te (.list (l.map f)) ρ1) : Ed c ρ (tCB (rLenS c.K) (tCons te tNil)) (.int (l.length : Int)) ρ1 := ed_is (ed_lenL h) (by rw [List.length_map])
theorem ix_some {α : Type} [Inhabited α] {f : α → PyData} {l : List α} {i : Int} (h : InB l.length i) : atI (l.map f) i = some (f (ixG l i)) := by rw [atI_map, atI_ixG h]; rfl
theorem ed_ixTX {α : Type} [Inhabited α] {f : α → PyData} {l : List α} {i : Int} (ha : Ed c ρ ta (.tuple (l.map f)) ρ1) (hb : Ed c ρ1 tb (.int i) ρ2) (h : InB l.length i) : Ed c ρ (tOp (rIxT c.K) ta tb) (f (ixG l i)) ρ2 := ed_ixT ha hb (ix_some h)
theorem ed_ixLX {α : Type} [Inhabited α] {f : α → PyData} {l : List α} {i : Int} (ha : Ed c ρ ta (.list (l.map f)) ρ1) (hb : Ed c ρ1 tb (.int i) ρ2) (h : InB l.length i) : Ed c ρ (tOp (rIxL c.K) ta tb) (f (ixG l i)) ρ2 := ed_ixL ha hb (ix_some h)
theorem ed_ixMX {α : Type} [Inhabited α] {f : α → PyData} {xs : List α} {i : Int} {j : Nat} {l : Bool} {a : Addr} (hb : Ed c ρ tb (.int i) ρ1) (ha : ρ1[j]? = some (.mu l a (.lst (xs.map f)))) (ha0 : ∃ l o, ρ[j]? = some (.mu l a o)) (h : InB xs.length i) :
    Ed c ρ (tOp (rIxL c.K) (tVar j) tb) (f (ixG xs i)) ρ1 := ed_ixM hb ha ha0 (ix_some h)
theorem ed_sliceT {α : Type} {f : α → PyData} {l : List α} {tl th : TO} {lo hi : Option Int} (ha : Ed c ρ ta (.tuple (l.map f)) ρ1) (hl : Eo c ρ1 tl lo ρ2) (hh : Eo c ρ2 th hi ρ3) : Ed c ρ (tSl (rSlF c.K) ta tl th) (.tuple ((cutX l lo hi).map f)) ρ3 := fun T σ H W Q q =>
  ha T σ H W _ fun v H1 W1 => hl _ σ H1 W1 _ fun H2 W2 => hh _ σ H2 W2 _ fun H3 W3 => by
    obtain ⟨a, xs, rfl, hs, h2⟩ := dp_tup W3.dp
    have hx := dpa_length h2
    have hc := cut_dp h2 lo hi
    rw [cutD_map] at hc
    refine ⟨a, xs, rfl, (ex_p (hide_ex _ _) hs).sq, fun hw => ?_, fun _ p o z hp => q _ _ (tup_new W3.pop hc z hp)⟩
    have e : cutX l lo hi = l := by
      rw [List.length_map] at hx
      rw [hx] at hw
      unfold cutX
      rw [hw.1, hw.2, List.drop_zero, Nat.sub_zero, List.take_length]
    rw [e] at q
    exact q _ H3 W3
theorem el_sliceX {α : Type} {f : α → PyData} {l : List α} {tl th : TO} {lo hi : Option Int} (ha : Ed c ρ ta (.list (l.map f)) ρ1) (hl : Eo c ρ1 tl lo ρ2) (hh : Eo c ρ2 th hi ρ3) : EdL c ρ (tSl (rSlL c.K) ta tl th) ((cutX l lo hi).map f) ρ3 :=
  el_is (el_slice ha hl hh) (cutD_map f l lo hi)
theorem ed_revT {α : Type} {f : α → PyData} {l : List α} (h : Ed c ρ te (.tuple (l.map f)) ρ1) : Ed c ρ (tRevT c.K te) (.tuple (l.reverse.map f)) ρ1 := fun T σ H W Q q => h T σ H W _ fun v H1 W1 => by
  obtain ⟨a, xs, rfl, hs, h2⟩ := dp_tup W1.dp
  refine ⟨a, xs, rfl, (ex_p (hide_ex _ _) hs).sq, fun p o z hp => q _ _ (tup_new W1.pop ?_ z hp)⟩
  rw [List.map_reverse]
  exact dpa_rev h2
theorem el_revL {α : Type} {f : α → PyData} {l : List α} (h : Ed c ρ te (.list (l.map f)) ρ1) : EdL c ρ (tRevL c.K te) (l.reverse.map f) ρ1 := fun T σ H W Q q => h T σ H W _ fun v H1 W1 => by
  obtain ⟨a, xs, rfl, hs, h2⟩ := dp_lst W1.dp
  refine ⟨a, xs, rfl, ex_l (hide_ex _ _) hs, fun p hp => ?_⟩
  have h3 := dpa_rev h2
  rw [← List.map_reverse] at h3
  obtain ⟨x1, x2, x3, x4⟩ := el_new W1.pop h3 hp
  exact q p _ x1 x2 x3 x4
theorem ed_catT {α : Type} {f : α → PyData} {l m : List α} (ha : Ed c ρ ta (.tuple (l.map f)) ρ1) (hb : Ed c ρ1 tb (.tuple (m.map f)) ρ2) (hz : l.length + m.length ≤ 100000) : Ed c ρ (tOp (rCatF c.K) ta tb) (.tuple ((l ++ m).map f)) ρ2 :=
  ed_op ha hb fun T σ H x y W hx hy Q q => by
    obtain ⟨a, xs, rfl, hs, h2⟩ := dp_tup hx
    obtain ⟨b, ys, rfl, hs', h3⟩ := dp_tup hy
    have lx := dpa_length h2
    have ly := dpa_length h3
    rw [List.length_map] at lx ly
    refine ⟨a, b, xs, ys, rfl, rfl, (ex_p (hide_ex _ _) hs).sq, (ex_p (hide_ex _ _) hs').sq, ?_, fun e => ?_, fun _ e => ?_, fun _ _ p o z hp => q _ _ (tup_new W ?_ z hp)⟩
    · rw [lx, ly]; exact Nat.le_trans hz (by decide)
    · have : l = [] := by rw [e] at lx; exact List.length_eq_zero_iff.mp lx.symm
      subst this
      exact q _ H (W.push hy)
    · have : m = [] := by rw [e] at ly; exact List.length_eq_zero_iff.mp ly.symm
      subst this
      rw [List.append_nil] at q
      exact q _ H (W.push hx)
    · rw [List.map_append]; exact dpa_append h2 h3
theorem el_cat {α : Type} {f : α → PyData} {l m : List α} (ha : Ed c ρ ta (.list (l.map f)) ρ1) (hb : Ed c ρ1 tb (.list (m.map f)) ρ2) (hz : l.length + m.length ≤ 100000) : EdL c ρ (tOp (rCatG c.K) ta tb) ((l ++ m).map f) ρ2 := fun T σ H W Q q =>
  ha T σ H W _ fun v H1 W1 => hb _ σ H1 W1 _ fun w H2 W2 => by
    obtain ⟨a, xs, rfl, hs, h2⟩ := dp_lst W2.pop.dp
    obtain ⟨b, ys, rfl, hs', h3⟩ := dp_lst W2.dp
    have lx := dpa_length h2
    have ly := dpa_length h3
    rw [List.length_map] at lx ly
    refine ⟨a, b, xs, ys, rfl, rfl, ex_l (hide_ex _ _) hs, ex_l (hide_ex _ _) hs', by rw [lx, ly]; exact Nat.le_trans hz (by decide), fun p hp => ?_⟩
    have h4 := dpa_append h2 h3
    rw [← List.map_append] at h4
    obtain ⟨x1, x2, x3, x4⟩ := el_new W2.pop.pop h4 hp
    exact q p _ x1 x2 x3 x4
/-- [..] * n -/
theorem el_rep {α : Type} {f : α → PyData} {l : List α} {k : Int} (ha : EdL c ρ ta (l.map f) ρ1) (hb : ∀ S B, Ed (c.at S B) ρ1 tb (.int k) ρ1) (hk : -1000000 ≤ k ∧ k ≤ 100000 ∧ l.length * k.toNat ≤ 100000) : EdL c ρ (tOp rRep ta tb) ((List.replicate k.toNat l).flatten.map f) ρ1 := fun T σ H W Q q =>
  ha T σ H W _ fun p H1 hB hn mo W1 => by
    obtain ⟨xs, hx, dx⟩ := mo
    have hs := W.sub
    have nS : p ∉ c.S0 := fun m => hn (List.mem_append_left _ m)
    have W2 : Wd (c.at (p :: c.S0) (upd c.B p (.lst xs))) (xs.zip (l.map f) ++ T) H1 σ ρ1 := (W1.pin hx hB hs nS).pushAll dx
    refine hb _ _ _ σ H1 W2 _ fun v H2 W3 => ?_
    have lx := dpa_length dx
    obtain ⟨h2, W4⟩ := W3.unpin hB (fun m => nS (hs p m))
    have dx2 := Wd.allOf (T := T) lx W4.pop
    have ez : xs.length * k.toNat ≤ 100000 := by rw [lx, List.length_map]; exact hk.2.2
    refine ⟨p, k, xs, rfl, dp_int W4.dp, h2, by omega, by omega, Nat.le_trans ez (by decide), fun r hr => ?_⟩
    have W5 : Wd c T H2 σ ρ1 := (W4.pop.tmps fun q hq => List.mem_append_right _ hq).unhide hs
    have e3 : Ex (hide (hid (c.hidden p) ρ1) H2) (hide (hid c ρ1) H2) := hide_mono fun a o n h => ⟨fun m => n (List.mem_cons_of_mem _ m), h⟩
    have d3 := dpa_rep (dpam e3 dx2) k.toNat
    have em : (List.replicate k.toNat (l.map f)).flatten = (List.replicate k.toNat l).flatten.map f := by rw [List.map_flatten, List.map_replicate]
    rw [em] at d3
    obtain ⟨x1, x2, x3, x4⟩ := el_new W5 d3 hr
    exact q r _ x1 x2 x3 x4
theorem ed_sumT {l : List Int} (h : Ed c ρ te (.tuple (l.map .int)) ρ1) : Ed c ρ (tCB (rSumT c.K) (tCons te tNil)) (.int l.sum) ρ1 := fun T σ H W Q q => h T σ H W _ fun v H1 W1 => by
  obtain ⟨a, xs, rfl, hs, h2⟩ := dp_tup W1.dp
  have := dpaInts h2
  subst this
  exact ⟨a, l, rfl, .inl (ex_p (hide_ex _ _) hs).sq, q _ H1 (W1.pop.push (.int _))⟩
theorem ed_sumL {l : List Int} (h : Ed c ρ te (.list (l.map .int)) ρ1) : Ed c ρ (tCB (rSumT c.K) (tCons te tNil)) (.int l.sum) ρ1 := fun T σ H W Q q => h T σ H W _ fun v H1 W1 => by
  obtain ⟨a, xs, rfl, hs, h2⟩ := dp_lst W1.dp
  have := dpaInts h2
  subst this
  exact ⟨a, l, rfl, .inr (ex_l (hide_ex _ _) hs), q _ H1 (W1.pop.push (.int _))⟩
theorem max_un {l : List Int} {m : Int} (h1 : m ∈ l) (h2 : ∀ y, y ∈ l → y ≤ m) : m = maxOf l := by
  have := maxOf_ge h1
  have := h2 _ (maxOf_mem (List.length_pos_of_mem h1))
  omega
theorem min_un {l : List Int} {m : Int} (h1 : m ∈ l) (h2 : ∀ y, y ∈ l → m ≤ y) : m = minOf l := by
  have := minOf_le h1
  have := h2 _ (minOf_mem (List.length_pos_of_mem h1))
  omega
theorem ed_maxT {l : List Int} (h : Ed c ρ te (.tuple (l.map .int)) ρ1) (hl : 0 < l.length) : Ed c ρ (tCB (rMaxT c.K) (tCons te tNil)) (.int (maxOf l)) ρ1 := fun T σ H W Q q => h T σ H W _ fun v H1 W1 => by
  obtain ⟨a, xs, rfl, hs, h2⟩ := dp_tup W1.dp
  have := dpaInts h2
  subst this
  exact ⟨a, l, rfl, .inl (ex_p (hide_ex _ _) hs).sq, hl, fun m h3 h4 => by rw [max_un h3 h4]; exact q _ H1 (W1.pop.push (.int _))⟩
theorem ed_maxL {l : List Int} (h : Ed c ρ te (.list (l.map .int)) ρ1) (hl : 0 < l.length) : Ed c ρ (tCB (rMaxT c.K) (tCons te tNil)) (.int (maxOf l)) ρ1 := fun T σ H W Q q => h T σ H W _ fun v H1 W1 => by
  obtain ⟨a, xs, rfl, hs, h2⟩ := dp_lst W1.dp
  have := dpaInts h2
  subst this
  exact ⟨a, l, rfl, .inr (ex_l (hide_ex _ _) hs), hl, fun m h3 h4 => by rw [max_un h3 h4]; exact q _ H1 (W1.pop.push (.int _))⟩
theorem ed_minT {l : List Int} (h : Ed c ρ te (.tuple (l.map .int)) ρ1) (hl : 0 < l.length) : Ed c ρ (tCB (rMinT c.K) (tCons te tNil)) (.int (minOf l)) ρ1 := fun T σ H W Q q => h T σ H W _ fun v H1 W1 => by
  obtain ⟨a, xs, rfl, hs, h2⟩ := dp_tup W1.dp
  have := dpaInts h2
  subst this
  exact ⟨a, l, rfl, .inl (ex_p (hide_ex _ _) hs).sq, hl, fun m h3 h4 => by rw [min_un h3 h4]; exact q _ H1 (W1.pop.push (.int _))⟩
theorem ed_minL {l : List Int} (h : Ed c ρ te (.list (l.map .int)) ρ1) (hl : 0 < l.length) : Ed c ρ (tCB (rMinT c.K) (tCons te tNil)) (.int (minOf l)) ρ1 := fun T σ H W Q q => h T σ H W _ fun v H1 W1 => by
  obtain ⟨a, xs, rfl, hs, h2⟩ := dp_lst W1.dp
  have := dpaInts h2
  subst this
  exact ⟨a, l, rfl, .inr (ex_l (hide_ex _ _) hs), hl, fun m h3 h4 => by rw [min_un h3 h4]; exact q _ H1 (W1.pop.push (.int _))⟩
theorem ed_max2 {i j : Int} (ha : Ed c ρ ta (.int i) ρ1) (hb : Ed c ρ1 tb (.int j) ρ2) : Ed c ρ (tCB (fun xs H Q => ∃ i j, xs = [.int i, .int j] ∧ Q (.int (if j > i then j else i)) H) (tCons ta (tCons tb tNil))) (.int (if j > i then j else i)) ρ2 := fun T σ H W Q q =>
  ha T σ H W _ fun v H1 W1 => hb _ σ H1 W1 _ fun w H2 W2 => ⟨i, j, by rw [dp_int W2.pop.dp, dp_int W2.dp], q _ H2 (W2.pop.pop.push (.int _))⟩
theorem ed_min2 {i j : Int} (ha : Ed c ρ ta (.int i) ρ1) (hb : Ed c ρ1 tb (.int j) ρ2) : Ed c ρ (tCB (fun xs H Q => ∃ i j, xs = [.int i, .int j] ∧ Q (.int (if j < i then j else i)) H) (tCons ta (tCons tb tNil))) (.int (if j < i then j else i)) ρ2 := fun T σ H W Q q =>
  ha T σ H W _ fun v H1 W1 => hb _ σ H1 W1 _ fun w H2 W2 => ⟨i, j, by rw [dp_int W2.pop.dp, dp_int W2.dp], q _ H2 (W2.pop.pop.push (.int _))⟩
theorem ed_all {l : List Bool} (h : Ed c ρ te (.list (l.map .bool)) ρ1) : Ed c ρ (tCB (rAll c.K) (tCons te tNil)) (.bool (l.all id)) ρ1 := fun T σ H W Q q => h T σ H W _ fun v H1 W1 => by
  obtain ⟨a, xs, rfl, hs, h2⟩ := dp_lst W1.dp
  have := dpaBools h2
  subst this
  exact ⟨a, l, rfl, ex_l (hide_ex _ _) hs, q _ H1 (W1.pop.push (.bl _))⟩
theorem ed_any {l : List Bool} (h : Ed c ρ te (.list (l.map .bool)) ρ1) : Ed c ρ (tCB (rAny c.K) (tCons te tNil)) (.bool (l.any id)) ρ1 := fun T σ H W Q q => h T σ H W _ fun v H1 W1 => by
  obtain ⟨a, xs, rfl, hs, h2⟩ := dp_lst W1.dp
  have := dpaBools h2
  subst this
  exact ⟨a, l, rfl, ex_l (hide_ex _ _) hs, q _ H1 (W1.pop.push (.bl _))⟩
/-! #### isinstance, repr -/
def tyD : PyData → String
  | .none => "NoneType"
  | .bool _ => "bool"
  | .int _ => "int"
  | .str _ => "str"
  | .list _ => "list"
  | .tuple _ => "tuple"
  | .dict _ => "dict"
theorem tyx_of {v : V} (h : Dz c.K H v d) : TyX c.K H v (.type (tyD d)) := by
  cases h with
  | non => exact .base .non
  | bl b => exact .base (.bl b)
  | int i => exact .base (.int i)
  | str x => exact .base (.str x)
  | lst hs ha =>
    rcases hs with (hs | ⟨o, hs⟩) | ⟨o, its, n, h1, h2, _⟩
    · exact .base (.lst hs)
    · exact .base (.frz hs)
    · exact .kList h1 h2
  | tup hs ha =>
    rcases hs with ⟨o, hs, _⟩ | ⟨o, its, n, h1, h2, _⟩
    · exact .fTuple hs
    · exact .kTuple h1 h2
theorem ed_isi {n : String} {b : Bool} (h : Ed c ρ te d ρ1) (hk : kitB (tyD d) n = some b) : Ed c ρ (tCB (rIsi c.K) (tCons te (tCons (tC (.ty n)) tNil))) (.bool b) ρ1 := fun T σ H W Q q => h T σ H W _ fun v H1 W1 =>
  ⟨v, .ty n, _, _, b, rfl, .ty n, tyx_of (dpm (hide_ex _ _) W1.dp), kit_ty hk, q _ H1 (W1.pop.push (.bl _))⟩
def isi_int : PyData → Bool
  | .int _ => true
  | .bool _ => true
  | _ => false
def isi_bool : PyData → Bool
  | .bool _ => true
  | _ => false
theorem kit_int (d : PyData) : kitB (tyD d) "int" = some (isi_int d) := by
  cases d
  · exact (show kitB "NoneType" "int" = some false by decide +kernel)
  · exact (show kitB "bool" "int" = some true by decide +kernel)
  · exact (show kitB "int" "int" = some true by decide +kernel)
  · exact (show kitB "str" "int" = some false by decide +kernel)
  · exact (show kitB "list" "int" = some false by decide +kernel)
  · exact (show kitB "tuple" "int" = some false by decide +kernel)
  · exact (show kitB "dict" "int" = some false by decide +kernel)
theorem kit_bool (d : PyData) : kitB (tyD d) "bool" = some (isi_bool d) := by
  cases d
  · exact (show kitB "NoneType" "bool" = some false by decide +kernel)
  · exact (show kitB "bool" "bool" = some true by decide +kernel)
  · exact (show kitB "int" "bool" = some false by decide +kernel)
  · exact (show kitB "str" "bool" = some false by decide +kernel)
  · exact (show kitB "list" "bool" = some false by decide +kernel)
  · exact (show kitB "tuple" "bool" = some false by decide +kernel)
  · exact (show kitB "dict" "bool" = some false by decide +kernel)
theorem ed_isiD {n : String} {b : Bool} (h : Ed c ρ te d ρ1) (hk : kitB (tyD d) n = some b) : Ed c ρ (tCB (rIsi c.K) (tCons te (tCons (tC (.ty n)) tNil))) (.bool b) ρ1 := ed_isi h hk
theorem ed_repr (h : Ed c ρ te d ρ1) (hs : showOk d) : Ed c ρ (tCB (rRepr c.K) (tCons te tNil)) (.str d.shown) ρ1 := fun T σ H W Q q => h T σ H W _ fun v H1 W1 => ⟨v, d, rfl, dz_dp _ _ (dpm (hide_ex _ _) W1.dp), hs, q _ H1 (W1.pop.push (.str _))⟩
theorem et_truB {b : Bool} (h : Ed c ρ te (.bool b) ρ1) : Et c ρ (fun σ H Q => te σ H fun x H' => ∃ k, TruV c.K x H' k ∧ Q k H') b ρ1 := et_is (et_tru h) rfl
theorem et_truI {i : Int} (h : Ed c ρ te (.int i) ρ1) : Et c ρ (fun σ H Q => te σ H fun x H' => ∃ k, TruV c.K x H' k ∧ Q k H') (i != 0) ρ1 := et_is (et_tru h) rfl
theorem et_truL {α : Type} {f : α → PyData} {l : List α} (h : Ed c ρ te (.list (l.map f)) ρ1) : Et c ρ (fun σ H Q => te σ H fun x H' => ∃ k, TruV c.K x H' k ∧ Q k H') (!l.isEmpty) ρ1 := et_is (et_tru h) (by show (!(l.map f).isEmpty) = _; rw [List.isEmpty_map])
theorem et_truT {α : Type} {f : α → PyData} {l : List α} (h : Ed c ρ te (.tuple (l.map f)) ρ1) : Et c ρ (fun σ H Q => te σ H fun x H' => ∃ k, TruV c.K x H' k ∧ Q k H') (!l.isEmpty) ρ1 := et_is (et_tru h) (by show (!(l.map f).isEmpty) = _; rw [List.isEmpty_map])
/-! #### chains as tests -/
theorem et_chain {b : Bool} (h : Ed c ρ te (.bool b) ρ1) : Et c ρ (tTest te) b ρ1 := et_test h
theorem et_truM {j : Nat} {l : Bool} {a : Addr} {α : Type} {f : α → PyData} {xs : List α} (h : ρ[j]? = some (.mu l a (.lst (xs.map f)))) : Et c ρ (fun σ H Q => tVar j σ H fun x H' => ∃ k, TruV c.K x H' k ∧ Q k H') (!xs.isEmpty) ρ := fun T σ H W Q q => by
  obtain ⟨h0, _, ys, h1, h2⟩ := W.ok j _ h
  refine ⟨.ref a, h0, !xs.isEmpty, .inl ⟨ys, sq_of h1, ?_⟩, q H W⟩
  rw [isEmpty_dp h2, List.isEmpty_map]
/-! #### walks -/
theorem ei_listX {α : Type} {f : α → PyData} {l : List α} (h : Ed c ρ te (.list (l.map f)) ρ1) : Ei c ρ (iList c.K te) (l.map fun x => Itm.hard (f x)) ρ1 := by
  have := ei_list h
  rw [hards, List.map_map] at this
  exact this
theorem ei_tupX {α : Type} {f : α → PyData} {l : List α} (h : Ed c ρ te (.tuple (l.map f)) ρ1) : Ei c ρ (iTup c.K te) (l.map fun x => Itm.hard (f x)) ρ1 := by
  have := ei_tup h
  rw [hards, List.map_map] at this
  exact this
theorem ei_enumX {α : Type} {f : α → PyData} {l : List α} (h : Ed c ρ te (.list (l.map f)) ρ1) : Ei c ρ (iEnum c.K (tCons te tNil)) (l.zipIdx.map fun p => Itm.soft [PyData.int (p.2 : Int), f p.1]) ρ1 := by
  have := ei_enum h
  unfold enumD at this
  rw [List.zipIdx_map, List.map_map] at this
  exact this
theorem zipD_map {α β : Type} (f : α → PyData) (g : β → PyData) (l : List α) (m : List β) : zipD (l.map f) (m.map g) = (l.zip m).map fun p => Itm.soft [f p.1, g p.2] := by
  unfold zipD
  rw [List.zipWith_map, List.zip, List.map_zipWith]
theorem ei_zipLX {α β : Type} {f : α → PyData} {g : β → PyData} {l : List α} {m : List β} (h : Ed c ρ te (.list (l.map f)) ρ1) (h2 : Ed c ρ1 tb (.list (m.map g)) ρ2) : Ei c ρ (iZipA c.K (tCons te (tCons tb tNil))) ((l.zip m).map fun p => Itm.soft [f p.1, g p.2]) ρ2 := by
  have := ei_zip h h2
  rw [zipD_map] at this
  exact this
theorem ei_zipTX {α β : Type} {f : α → PyData} {g : β → PyData} {l : List α} {m : List β} (h : Ed c ρ te (.tuple (l.map f)) ρ1) (h2 : Ed c ρ1 tb (.tuple (m.map g)) ρ2) : Ei c ρ (iZipA c.K (tCons te (tCons tb tNil))) ((l.zip m).map fun p => Itm.soft [f p.1, g p.2]) ρ2 := by
  have := ei_zipT h h2
  rw [zipD_map] at this
  exact this
def rngX (lo hi : Int) : List Int := (List.range (hi - lo).toNat).map fun (i : Nat) => lo + (i : Int)
theorem ei_rngX2 {lo n : Int} (h : Ed c ρ te (.int lo) ρ1) (h2 : Ed c ρ1 tb (.int n) ρ2) (hn : (-4000000000 ≤ lo ∧ lo ≤ 4000000000) ∧ -4000000000 ≤ n ∧ n ≤ 4000000000) : Ei c ρ (iRng2 (tCons te (tCons tb tNil))) ((rngX lo n).map fun (i : Int) => Itm.hard (PyData.int i)) ρ2 := by
  have := ei_rng2 h h2 hn
  unfold hards rngD at this
  unfold rngX
  rw [List.map_map] at this ⊢
  exact this
/-! #### comprehensions by typed items -/
theorem el_lcAX {α β : Type} {wi : TI} {g : TG} {vs : List Nat} {xs : List α} {ea : α → Itm} {enc : β → PyData} {fb : α → β} (h : Ei c ρ wi (xs.map ea) ρ1) (hsz : xs.length ≤ 100000) (hvs : ∀ j ∈ vs, ρ1[j]? = some .no)
    (turn : ∀ (S : List Addr) (B : Hp) (x : α), x ∈ xs → ∃ ρa, Nz.wipeS ρa vs = ρ1 ∧ Eg (c.at S B) g (ea x) ρ1 ρa vs ∧ Ed (c.at S B) ρa te (enc (fb x)) ρa) :
    EdL c ρ (tLc wi g tYes te vs) ((xs.map fb).map enc) ρ1 := el_is (el_lcA xs ea (fun x => enc (fb x)) h hsz hvs turn) (by rw [List.map_map]; rfl)
theorem el_lcPX {α β : Type} {wi : TI} {g : TG} {tt : TT} {vs : List Nat} {xs : List α} {ea : α → Itm} {p : α → Bool} {enc : β → PyData} {fb : α → β} (h : Ei c ρ wi (xs.map ea) ρ1) (hsz : xs.length ≤ 100000) (hvs : ∀ j ∈ vs, ρ1[j]? = some .no)
    (turn : ∀ (S : List Addr) (B : Hp) (x : α), x ∈ xs → ∃ ρa, Nz.wipeS ρa vs = ρ1 ∧ Eg (c.at S B) g (ea x) ρ1 ρa vs ∧ Et (c.at S B) ρa tt (p x) ρa ∧ (p x = true → Ed (c.at S B) ρa te (enc (fb x)) ρa)) :
    EdL c ρ (tLc wi g tt te vs) (((xs.filter p).map fb).map enc) ρ1 := el_is (el_lcP xs ea p (fun x => enc (fb x)) h hsz hvs turn) (by rw [List.map_map]; rfl)
/-! #### statements by typed lists -/
theorem le_rfl {ρ ρ' : List Sl} (e : ρ = ρ') : Le ρ ρ' := e ▸ Le.refl ρ
theorem le_frzX {ρ ρ' : List Sl} {a : Addr} {ds es : List PyData} (e : ds = es) (t : Le ρ ρ') : Le (.mu true a (.lst ds) :: ρ) (.da (.list es) :: ρ') := by subst e; exact le_frz t
variable {D : Ends} {ts tu : TS} {g : TG} {nx bk ct : L2.St → Hp → Prop} {rt : VK}
theorem ixN_nn {n : Nat} {i : Int} (h : 0 ≤ i ∧ i < n) : ixN n i = some i.toNat := by unfold ixN; rw [if_pos h.1, if_pos h.2]
theorem s_setLX {α : Type} {f : α → PyData} {i : Nat} {l : Bool} {a : Addr} {xs : List α} {x : α} {j : Int} (h : Ed c ρ te (f x) ρ1) (hj : Ed c ρ1 tb (.int j) ρ2) (h0 : ∃ l o, ρ1[i]? = some (.mu l a o)) (ha : ρ2[i]? = some (.mu l a (.lst (xs.map f)))) (hn : 0 ≤ j ∧ j < xs.length)
    (k : Sk c T (ρ2.set i (.mu l a (.lst ((xs.set j.toNat x).map f)))) nx) : Ss c T ρ (tAsg te (gSub (tVar i) tb rSetL)) ⟨nx, rt, bk, ct⟩ :=
  s_setL h hj h0 ha (n := j.toNat) (ixN_nn (by rw [List.length_map]; exact hn)) (by rw [← List.map_set]; exact k)
/-- a op= with what C asks -/
theorem s_augC {C : Int → Int → Prop} {i : Nat} {f : Int → Int → Int} {a b : Int} (hx : ρ[i]? = some (.da (.int a))) (h : Ed c ρ te (.int b) ρ) (hc : C a b) (k : Sk c T (ρ.set i (.da (.int (f a b)))) nx) : Ss c T ρ (tAug i te (rI C fun i j => .int (f i j))) ⟨nx, rt, bk, ct⟩ := fun σ H W => by
  obtain ⟨v, e, dp⟩ := W.ok i _ hx
  refine ⟨v, e, h T σ H W _ fun w H1 W1 => ⟨a, b, dp_int dp, dp_int W1.dp, hc, ?_⟩⟩
  exact k _ _ (W1.pop.setD i (.int _))
end
end Nz

/-! methods of plain tuples -/
namespace Nz
open PySem PySem.Spec PyProof.Rows L2 RZ
section
variable {X : Cx} {o e : Expr} {es : List Expr} {to : TE} {t : TA} {name : Str} {apos cpos : Pos} {id : String} {r : V → List V → Hp → VK → Prop}
def tBMT (K : PySem.W.Frag) (r : V → List V → Hp → VK → Prop) (to : TE) (t : TA) : TE := fun σ H Q => to σ H fun x H1 => (∃ p xs, x = .ref p ∧ Pt K H1 p xs) ∧ t σ H1 fun xs H2 => r x xs H2 Q
theorem pt_is {pins : List (Addr × Obj)} {σ : L2.St} {H : Hp} {s : Shared} {x : V} {v : Value} (I : Inv X pins σ H s) (rv : RelV x v) (h : ∃ p xs, x = .ref p ∧ Pt X.K H p xs) :
    s.TypeIs v "tuple" ∧ ∀ a, v = .ref a → ∃ ob, s.heap.get? a = some ob ∧ ob.dict = none := by
  obtain ⟨p, xs, rfl, h⟩ := h
  cases rv
  rcases h with ⟨o, h, z⟩ | ⟨o, its, n, h1, h2, h3, h4, h5, h6⟩
  · have e := I.hok p _ h
    obtain ⟨e1, e2⟩ := e
    obtain ⟨hz, its, rr, ip⟩ := e2
    obtain ⟨o', e', hc, hd⟩ := ip
    have : o = o' := by rw [e1] at e'; exact Option.some.inj e'
    subst this
    refine ⟨⟨o, e1, hc⟩, fun a q => ?_⟩
    cases q
    exact ⟨o, e1, z⟩
  · refine ⟨⟨o, I.kIn p o h1, h2⟩, fun a q => ?_⟩
    cases q
    exact ⟨o, I.kIn p o h1, h3⟩
theorem pe_bmT (slot : Slot "tuple" name id) (hty : typeOf (.builtin id) = pure (.type "method_descriptor")) (hm : MtR X id r) (ho : PE X o to) (ha : PA X (e :: es) t)
    (hbase : attributeBase o name X.env (eval o X.env) = eval o X.env := by rfl)
    (hfew : ((backTo cpos (starEach (e :: es) X.env)).all (fun x => !x.1) && (backToKw cpos (keywordEach [] X.env)).all (fun x => x.1.isSome)
      && decide ((e :: es).length + ([] : List Keyword).length + (if ([] : List Keyword).isEmpty then 0 else 1) < 30)) = true := by rfl)
    (hline : (apos.endLine == cpos.line) = true := by rfl) (hs : starEach (e :: es) X.env = (false, eval e X.env) :: starEach es X.env := by rfl) (hplain : (backTo cpos (starEach es X.env)).any (·.1) = false := by rfl) :
    PE X (.Call (.Attribute o name apos) (e :: es) [] cpos) (tBMT X.K r to t) := by
  refine ⟨fun pins s σ H Q I h => ?_⟩
  refine wpAny_Call_method_late hbase hfew hline rfl (thn (ho.run pins s σ H _ I h) fun v s1 ⟨x, H1, I1, r1, ty, q1⟩ => ?_)
  obtain ⟨h1, h2⟩ := pt_is I1 r1 ty
  refine ⟨"tuple", id, PySem.F.plainAttrs_tuple, slot, hty, h1, h2, ?_⟩
  have hA := ha.run cpos pins s1 σ H1 _ I1 q1
  rw [hs] at hA ⊢
  refine Calls.callWith_builtin (by show (false || (backTo cpos (starEach es X.env)).any (·.1)) = false; rw [hplain] <;> rfl) (Calls.evalArgs_plain ?_)
  exact thn hA fun us s2 ⟨vs, H2, I2, r2, q2⟩ => hm pins s2 σ H2 x vs v us Q I2 r1 r2 q2
/-- the same, where X's own K is told apart -/
theorem pe_bmTK {K : PySem.W.Frag} (slot : Slot "tuple" name id) (hty : typeOf (.builtin id) = pure (.type "method_descriptor")) (hm : MtR X id r) (ho : PE X o to) (ha : PA X (e :: es) t) (hK : X.K = K := by rfl)
    (hbase : attributeBase o name X.env (eval o X.env) = eval o X.env := by rfl)
    (hfew : ((backTo cpos (starEach (e :: es) X.env)).all (fun x => !x.1) && (backToKw cpos (keywordEach [] X.env)).all (fun x => x.1.isSome)
      && decide ((e :: es).length + ([] : List Keyword).length + (if ([] : List Keyword).isEmpty then 0 else 1) < 30)) = true := by rfl)
    (hline : (apos.endLine == cpos.line) = true := by rfl) (hs : starEach (e :: es) X.env = (false, eval e X.env) :: starEach es X.env := by rfl) (hplain : (backTo cpos (starEach es X.env)).any (·.1) = false := by rfl) :
    PE X (.Call (.Attribute o name apos) (e :: es) [] cpos) (tBMT K r to t) := hK ▸ pe_bmT slot hty hm ho ha hbase hfew hline hs hplain
theorem pe_bmK {K : PySem.W.Frag} {T : String} (pa : PlainAttrs T) (slot : Slot T name id) (hty : typeOf (.builtin id) = pure (.type "method_descriptor")) (hm : MtR X id r) (ho : PE X o to) (ha : PA X (e :: es) t) (hK : X.K = K := by rfl)
    (hbase : attributeBase o name X.env (eval o X.env) = eval o X.env := by rfl)
    (hfew : ((backTo cpos (starEach (e :: es) X.env)).all (fun x => !x.1) && (backToKw cpos (keywordEach [] X.env)).all (fun x => x.1.isSome)
      && decide ((e :: es).length + ([] : List Keyword).length + (if ([] : List Keyword).isEmpty then 0 else 1) < 30)) = true := by rfl)
    (hline : (apos.endLine == cpos.line) = true := by rfl) (hs : starEach (e :: es) X.env = (false, eval e X.env) :: starEach es X.env := by rfl) (hplain : (backTo cpos (starEach es X.env)).any (·.1) = false := by rfl) :
    PE X (.Call (.Attribute o name apos) (e :: es) [] cpos) (tBM K T r to t) := hK ▸ pe_bm pa slot hty hm ho ha hbase hfew hline hs hplain
def rCntT (K : PySem.W.Frag) : V → List V → Hp → VK → Prop := fun x xs H Q => ∃ (p : Addr) (ns : List Int) (k : Int), x = .ref p ∧ xs = [.int k] ∧ SqT K H p (ns.map V.int) ∧ Q (.int (ns.count k : Nat)) H
theorem mt_tcount : MtR X "tuple.count" (rCntT X.K) := by
  intro pins s σ H x xs v us Q I rx rxs h
  obtain ⟨p, ns, k, rfl, rfl, hs, q⟩ := h
  cases rx
  obtain ⟨u, rfl, ru⟩ := rxs.one
  obtain ⟨t, rfl⟩ := ru
  obtain ⟨its, rv, ⟨⟨cls, dd, data, sl⟩, ho, hc, n, hd⟩, hlen⟩ := I.tuple hs
  simp only at hc hd
  subst hc hd
  have hi := ints_of_vals rv
  refine call_meets PySem.F.slot_tuple_count ⟨_, ho, rfl⟩ PySem.F.entry_tuple_count (PySem.F.args_tuple_count_2 _ _)
    (SeqAt.tuple_countAt p its.toArray n dd sl (.int k t) (eqk k)) ⟨ho, fun y hy => (eqk_gives hi y (by simpa using hy)).at _ _, ?_⟩
  have ec : its.toArray.toList.countP (eqk k) = ns.count k := eqk_count hi
  refine ⟨.int (ns.count k : Nat), H, I.tok _, ⟨s.toks, ?_⟩, q⟩
  show Value.int ((its.toArray.toList.countP (eqk k) : Nat) : Int) s.toks = Value.int ((ns.count k : Nat) : Int) s.toks
  rw [ec]
end
section
variable {c : Cz} {ρ ρ1 ρ2 : List Sl} {ta tb te : TE} {d : PyData}
theorem ed_tcount {l : List Int} {k : Int} (ha : Ed c ρ ta (.tuple (l.map .int)) ρ1) (hb : Ed c ρ1 tb (.int k) ρ2) : Ed c ρ (tBMT c.K (rCntT c.K) ta (tCons tb tNil)) (.int ((l.count k : Nat) : Int)) ρ2 := fun T σ H W Q q => ha T σ H W _ fun v H1 W1 => by
  obtain ⟨a, xs, rfl, hs, h2⟩ := dp_tup W1.dp
  refine ⟨⟨a, xs, rfl, ex_p (hide_ex _ _) hs⟩, hb _ σ H1 W1 _ fun w H2 W2 => ?_⟩
  obtain ⟨a', xs', e, hs', h2'⟩ := dp_tup W2.pop.dp
  cases e
  have := dpaInts h2'
  subst this
  exact ⟨a, l, k, rfl, by rw [dp_int W2.dp], (ex_p (hide_ex _ _) hs').sq, q _ H2 (W2.pop.pop.push (.int _))⟩
def rCntL (K : PySem.W.Frag) := rCntI K
theorem ed_lcount {l : List Int} {k : Int} (ha : Ed c ρ ta (.list (l.map .int)) ρ1) (hb : Ed c ρ1 tb (.int k) ρ2) : Ed c ρ (tBM c.K "list" (rCntI c.K) ta (tCons tb tNil)) (.int ((l.count k : Nat) : Int)) ρ2 := fun T σ H W Q q => ha T σ H W _ fun v H1 W1 => by
  obtain ⟨a, xs, rfl, hs, h2⟩ := dp_lst W1.dp
  refine ⟨.inl ⟨rfl, xs, ex_l (hide_ex _ _) hs⟩, hb _ σ H1 W1 _ fun w H2 W2 => ?_⟩
  obtain ⟨a', xs', e, hs', h2'⟩ := dp_lst W2.pop.dp
  cases e
  have := dpaInts h2'
  subst this
  exact ⟨a, l, k, rfl, by rw [dp_int W2.dp], ex_l (hide_ex _ _) hs', q _ H2 (W2.pop.pop.push (.int _))⟩
end
end Nz

/-! data that can be shown and compared -/
namespace Nz
open PySem PySem.Spec PyProof.Rows L2 RZ
/-- no deeper than k, shown in len letters, parts below 2 ^ 1900 -/
structure Gd (k len : Nat) (d : PyData) : Prop where
  lay : d.canLay0 = true
  sh : d.showable = true
  dep : d.depth ≤ k
  len : d.shown.length ≤ len
theorem Gd.mono {k l k' l' : Nat} {d : PyData} (h : Gd k l d) (a : k ≤ k') (b : l ≤ l') : Gd k' l' d := ⟨h.lay, h.sh, Nat.le_trans h.dep a, Nat.le_trans h.len b⟩
theorem gd_show {k l : Nat} {d : PyData} (h : Gd k l d) (hk : k ≤ 60 := by decide) (hl : l ≤ 16000000 := by decide) : showOk d := ⟨h.sh, PyData.hasDict_of_canLay d h.lay, Nat.le_trans h.dep hk, Nat.le_trans h.len (Nat.le_trans hl (by decide))⟩
theorem gd_shaped {k l : Nat} {d : PyData} (h : Gd k l d) (hk : k ≤ 60 := by decide) : SeqAt.shaped d = true := by
  unfold SeqAt.shaped
  rw [h.lay]
  exact decide_eq_true (Nat.le_trans h.dep (Nat.le_trans hk (by decide)))
theorem pow_1900 : (2 : Nat) ^ 1900 < 10 ^ 600 := by decide +kernel
theorem gd_int {i : Int} (h : i.natAbs < 2 ^ 1900) : Gd 0 601 (.int i) := by
  refine ⟨rfl, ?_, Nat.le_refl _, ?_⟩
  · show decide (i.natAbs.log2 < 1920) = true
    refine decide_eq_true ?_
    by_cases z : i.natAbs = 0
    · rw [z]; decide
    · have := (Nat.log2_lt z).mpr h
      omega
  · have e := PySem.int_text_length_le10 (k := 600) (by decide) (Nat.lt_trans h pow_1900)
    show (Str.ofString (toString i)).length ≤ 601
    rw [PySem.ofString_length]; exact e
theorem gd_bool (b : Bool) : Gd 0 601 (.bool b) := ⟨rfl, rfl, Nat.le_refl _, by cases b <;> decide +kernel⟩
theorem gd_none : Gd 0 601 .none := ⟨rfl, rfl, Nat.le_refl _, by decide +kernel⟩
theorem gd_all {k l : Nat} : ∀ {ds : List PyData}, (∀ d ∈ ds, Gd k l d) → PyData.canLayAll0 ds = true ∧ PyData.showableAll ds = true ∧ PyData.depthAll ds ≤ k ∧ ((PyData.shownAll ds).map (·.length)).sum ≤ l * ds.length
  | [], _ => ⟨rfl, rfl, Nat.zero_le _, by simp [PyData.shownAll]⟩
  | d :: ds, h => by
    obtain ⟨a, b, c, e⟩ := gd_all fun x hx => h x (List.mem_cons_of_mem _ hx)
    obtain ⟨a', b', c', e'⟩ := h d (List.mem_cons_self ..)
    refine ⟨by rw [PyData.canLayAll0, a, a']; rfl, by rw [PyData.showableAll, b, b']; rfl, by rw [PyData.depthAll]; omega, ?_⟩
    rw [PyData.shownAll, List.map_cons, List.sum_cons, List.length_cons, Nat.mul_add]
    omega
theorem gd_list {k l n : Nat} {ds : List PyData} (h : ∀ d ∈ ds, Gd k l d) (hn : ds.length ≤ n) : Gd (k + 1) ((l + 2) * n + 3) (.list ds) := by
  obtain ⟨a, b, c, e⟩ := gd_all h
  refine ⟨by rw [PyData.canLay0]; exact a, by rw [PyData.showable]; exact b, by rw [PyData.depth]; omega, ?_⟩
  have t := listText_len_le (PyData.shownAll ds)
  rw [PyData.shownAll_length] at t
  have e2 : (PyData.list ds).shown = listText (PyData.shownAll ds) := by rw [PyData.shown]
  rw [e2]
  refine Nat.le_trans t ?_
  have : (l + 2) * ds.length ≤ (l + 2) * n := Nat.mul_le_mul_left _ hn
  rw [Nat.add_mul] at this
  omega
theorem gd_tuple {k l n : Nat} {ds : List PyData} (h : ∀ d ∈ ds, Gd k l d) (hn : ds.length ≤ n) : Gd (k + 1) ((l + 2) * n + 3) (.tuple ds) := by
  obtain ⟨a, b, c, e⟩ := gd_all h
  refine ⟨by rw [PyData.canLay0]; exact a, by rw [PyData.showable]; exact b, by rw [PyData.depth]; omega, ?_⟩
  have t := tupleText_len_le (PyData.shownAll ds)
  rw [PyData.shownAll_length] at t
  have e2 : (PyData.tuple ds).shown = tupleText (PyData.shownAll ds) := by rw [PyData.shown]
  rw [e2]
  refine Nat.le_trans t ?_
  have : (l + 2) * ds.length ≤ (l + 2) * n := Nat.mul_le_mul_left _ hn
  rw [Nat.add_mul] at this
  omega
theorem gd_Q {r : Rat} (h : r.num.natAbs < 2 ^ 1900) (h2 : r.den < 2 ^ 1900) : Gd 1 1209 (eQ r) :=
  gd_tuple (k := 0) (l := 601) (n := 2) (fun d hd => by
    simp only [List.mem_cons, List.mem_singleton, List.not_mem_nil, or_false] at hd
    rcases hd with rfl | rfl
    · exact gd_int h
    · exact gd_int (show ((r.den : Int)).natAbs < 2 ^ 1900 from h2)) (Nat.le_refl _)
theorem gd_L {α : Type} {f : α → PyData} {l : List α} {k len n : Nat} (h : ∀ x ∈ l, Gd k len (f x)) (hn : l.length ≤ n) : Gd (k + 1) ((len + 2) * n + 3) (eL f l) :=
  gd_list (fun d hd => by obtain ⟨x, hx, rfl⟩ := List.mem_map.mp hd; exact h x hx) (by rw [List.length_map]; exact hn)
theorem gd_T {α : Type} {f : α → PyData} {l : List α} {k len n : Nat} (h : ∀ x ∈ l, Gd k len (f x)) (hn : l.length ≤ n) : Gd (k + 1) ((len + 2) * n + 3) (eT f l) :=
  gd_tuple (fun d hd => by obtain ⟨x, hx, rfl⟩ := List.mem_map.mp hd; exact h x hx) (by rw [List.length_map]; exact hn)
theorem same_ret {k l : Nat} {a b : PyData} (e : a = b) (h : Gd k l a) : PyData.bool (PyData.eqv a b && decide (PyData.shown a = PyData.shown b)) = PyData.bool true := by
  subst e
  rw [SeqAt.eqv_refl a h.lay]
  simp
section
variable {c : Cz} {ρ ρ1 ρ2 : List Sl} {ta tb te : TE} {d : PyData}
theorem ed_eqS {x y : Str} (ha : Ed c ρ ta (.str x) ρ1) (hb : Ed c ρ1 tb (.str y) ρ2) : Ed c ρ (tOp rEq ta tb) (.bool (decide (x = y))) ρ2 :=
  ed_op ha hb fun T σ H v w W hx hy Q q => by
    rw [dp_str hx, dp_str hy]
    refine ⟨rfl, ?_⟩
    have e : decide (V.str x = V.str y) = decide (x = y) := by simp
    rw [e]
    exact q _ H (W.push (.bl _))
theorem ed_neS {x y : Str} (ha : Ed c ρ ta (.str x) ρ1) (hb : Ed c ρ1 tb (.str y) ρ2) : Ed c ρ (tOp rNe ta tb) (.bool (!decide (x = y))) ρ2 :=
  ed_op ha hb fun T σ H v w W hx hy Q q => by
    rw [dp_str hx, dp_str hy]
    refine ⟨rfl, ?_⟩
    have e : decide (V.str x = V.str y) = decide (x = y) := by simp
    rw [e]
    exact q _ H (W.push (.bl _))
end
end Nz

/-! what may come out in many ways (draws from the script) -/
namespace Nz
open PySem PySem.Spec PyProof.Rows L2 RZ

def Ew {α : Type} (c : Cz) (ρ : List Sl) (te : TE) (f : α → PyData) (P : α → Prop) (ρ' : List Sl) : Prop := ∀ (T : Tm) (σ : L2.St) (H : Hp), Wd c T H σ ρ → ∀ Q : VK, (∀ x v H', P x → Wd c ((v, f x) :: T) H' σ ρ' → Q v H') → te σ H Q
def EwL {α : Type} (c : Cz) (ρ : List Sl) (te : TE) (g : α → List PyData) (P : α → Prop) (ρ' : List Sl) : Prop := ∀ (T : Tm) (σ : L2.St) (H : Hp), Wd c T H σ ρ → ∀ Q : VK,
  (∀ x p H', P x → c.B p = none → p ∉ hid c ρ' → MoOk c.K (p :: hid c ρ') H' p (.lst (g x)) → Wd (c.hidden p) T H' σ ρ' → Q (.ref p) H') → te σ H Q
def Ewt (c : Cz) (ρ : List Sl) (tt : TT) (P : Bool → Prop) (ρ' : List Sl) : Prop := ∀ (T : Tm) (σ : L2.St) (H : Hp), Wd c T H σ ρ → ∀ Q : Bool → Hp → Prop, (∀ b H', P b → Wd c T H' σ ρ' → Q b H') → tt σ H Q
def Ewa {α : Type} (c : Cz) (ρ : List Sl) (ta : TA) (as : α → List Ar) (P : α → Prop) (ρ' : List Sl) : Prop := ∀ (T : Tm) (σ : L2.St) (H : Hp), Wd c T H σ ρ → ∀ Q : List V → Hp → Prop,
  (∀ x vs H', P x → AA c.K (hide (hid c ρ') H') vs (as x) → Wd c T H' σ ρ' → Q vs H') → ta σ H Q
def Ewo (c : Cz) (ρ : List Sl) (to : TO) (P : Option Int → Prop) (ρ' : List Sl) : Prop := ∀ (T : Tm) (σ : L2.St) (H : Hp), Wd c T H σ ρ → ∀ Q : Option Int → Hp → Prop, (∀ o H', P o → Wd c T H' σ ρ' → Q o H') → to σ H Q

/-! #### slots put behind -/
def slA : Ar → Sl
  | .raw v => .vl v
  | .dat d => .da d
theorem muts_app {ρ : List Sl} {as : List Ar} : muts (ρ ++ as.map slA) = muts ρ := by
  unfold muts
  rw [List.filterMap_append]
  have : List.filterMap mutA (as.map slA) = [] := by
    rw [List.filterMap_eq_nil_iff]
    intro s hs
    obtain ⟨a, _, rfl⟩ := List.mem_map.mp hs
    cases a <;> rfl
  rw [this, List.append_nil]
theorem hid_app {c : Cz} {ρ : List Sl} {as : List Ar} : hid c (ρ ++ as.map slA) = hid c ρ := by
  show c.S0 ++ muts _ = c.S0 ++ muts _
  rw [muts_app]
theorem aa_get {K : PySem.W.Frag} {H : Hp} : ∀ {as : List Ar} {vs : List V}, AA K H vs as → ∀ (i : Nat) (s : Sl), (as.map slA)[i]? = some s → ∃ v, vs[i]? = some v ∧ (s = .vl v ∨ ∃ d, s = .da d ∧ Dz K H v d)
  | [], _, h, i, s, e => by simp at e
  | a :: as, _, h, 0, s, e => by
    cases h with
    | raw h => exact ⟨_, rfl, .inl (Option.some.inj e).symm⟩
    | dat h1 h => exact ⟨_, rfl, .inr ⟨_, (Option.some.inj e).symm, h1⟩⟩
  | a :: as, _, h, i + 1, s, e => by
    cases h with
    | raw h => exact aa_get h i s e
    | dat h1 h => exact aa_get h i s e
theorem aa_len {K : PySem.W.Frag} {H : Hp} : ∀ {as : List Ar} {vs : List V}, AA K H vs as → vs.length = as.length
  | [], _, h => by cases h; rfl
  | a :: as, _, h => by
    cases h with
    | raw h => exact congrArg (· + 1) (aa_len h)
    | dat h1 h => exact congrArg (· + 1) (aa_len h)
theorem Wd.ext {c : Cz} {T : Tm} {H : Hp} {σ : L2.St} {ρ : List Sl} {vs : List V} {as : List Ar} (W : Wd c T H σ ρ) (a : AA c.K (hide (hid c ρ) H) vs as) : Wd c T H (σ ++ vs.map some) (ρ ++ as.map slA) := by
  have nm : ∀ {i : Nat} {l : Bool} {b : Addr} {o : MO}, (ρ ++ as.map slA)[i]? = some (.mu l b o) → ρ[i]? = some (.mu l b o) := fun {i l b o} e => by
    by_cases hi : i < ρ.length
    · rwa [List.getElem?_append_left hi] at e
    · rw [List.getElem?_append_right (by omega)] at e
      obtain ⟨v, _, q | ⟨d, q, _⟩⟩ := aa_get a _ _ e <;> cases q
  refine ⟨?_, W.keep, W.sub, W.dom, ?_, fun i j l m b o u h1 h2 => W.inj i j l m b o u (nm h1) (nm h2), fun i b o h => W.ap i b o (nm h), fun i s e => ?_⟩
  · simp [W.len, aa_len a]
  · rw [hid_app]; exact W.tmp
  · rw [hid_app]
    have hl := W.len
    by_cases hi : i < ρ.length
    · rw [List.getElem?_append_left hi] at e
      rw [List.getElem?_append_left (by omega)]
      exact W.ok i s e
    · rw [List.getElem?_append_right (by omega)] at e
      rw [List.getElem?_append_right (by omega), hl, List.getElem?_map]
      obtain ⟨v, hv, q | ⟨d, q, dv⟩⟩ := aa_get a _ _ e
      · subst q; rw [hv]; exact rfl
      · subst q; rw [hv]; exact ⟨v, rfl, dv⟩
theorem Wd.cut {c : Cz} {T : Tm} {H : Hp} {σ τ : L2.St} {ρ : List Sl} {as : List Ar} (W : Wd c T H (σ ++ τ) (ρ ++ as.map slA)) (hl : σ.length = ρ.length) : Wd c T H σ ρ := by
  have up : ∀ {i : Nat} {s : Sl}, ρ[i]? = some s → (ρ ++ as.map slA)[i]? = some s := fun {i s} e => by
    rw [List.getElem?_append_left (List.getElem?_eq_some_iff.mp e).1]; exact e
  refine ⟨hl, W.keep, W.sub, W.dom, ?_, fun i j l m b o u h1 h2 => W.inj i j l m b o u (up h1) (up h2), fun i b o h => W.ap i b o (up h), fun i s e => ?_⟩
  · have := W.tmp; rw [hid_app] at this; exact this
  · have ok := W.ok i s (up e)
    have hi := (List.getElem?_eq_some_iff.mp e).1
    rw [hid_app, List.getElem?_append_left (by omega)] at ok
    exact ok

section
variable {c : Cz} {ρ ρ1 ρ2 ρ3 : List Sl} {ta tb te tx : TE} {t u : TT} {d d1 d2 d3 : PyData} {T : Tm} {H H' : Hp} {σ : L2.St}
variable {α β γ : Type} {f : α → PyData} {g : β → PyData} {e : γ → PyData} {P : α → Prop} {P2 : β → Prop} {P3 : γ → Prop}
theorem ew_det {x : α} (h : Ed c ρ te (f x) ρ1) : Ew c ρ te f (fun y => y = x) ρ1 := fun T σ H W Q q => h T σ H W Q fun v H1 W1 => q x v H1 rfl W1
theorem ew_imp {R : α → Prop} (h : Ew c ρ te f P ρ1) (i : ∀ x, P x → R x) : Ew c ρ te f R ρ1 := fun T σ H W Q q => h T σ H W Q fun x v H1 px W1 => q x v H1 (i x px) W1
theorem ew_as {R : β → Prop} (h : Ew c ρ te f P ρ1) (i : ∀ x, P x → ∃ y, R y ∧ f x = g y) : Ew c ρ te g R ρ1 := fun T σ H W Q q => h T σ H W Q fun x v H1 px W1 => by
  obtain ⟨y, hy, e⟩ := i x px
  rw [e] at W1
  exact q y v H1 hy W1
theorem ewt_det {b : Bool} (h : Et c ρ t b ρ1) : Ewt c ρ t (fun y => y = b) ρ1 := fun T σ H W Q q => h T σ H W Q fun H1 W1 => q b H1 rfl W1
theorem ewl_det {x : α} {f : α → List PyData} (h : EdL c ρ te (f x) ρ1) : EwL c ρ te f (fun y => y = x) ρ1 := fun T σ H W Q q => h T σ H W Q fun p H1 h1 h2 h3 W1 => q x p H1 rfl h1 h2 h3 W1
theorem ew_L {f : α → List PyData} (h : EwL c ρ te f P ρ1) : Ew c ρ te (fun x => .list (f x)) P ρ1 := fun T σ H W Q q => h T σ H W Q fun x p H' px hB hn hm W' => by
  have W2 := W'.unhide W.sub
  obtain ⟨xs, h1, h2⟩ := hm
  have e2 : Ex (hide (p :: hid c ρ1) H') (hide (hid c ρ1) H') := hide_mono fun a o n h => ⟨fun m => n (List.mem_cons_of_mem _ m), h⟩
  exact q x _ H' px (W2.push (.lst (sq_of (hide_of hn h1)) (dpam e2 h2)))
/-- an operator: as for data that is known -/
theorem ew_op {r : R2} {F : α → β → γ} (ha : Ew c ρ ta f P ρ1) (hb : Ew c ρ1 tb g P2 ρ2)
    (h : ∀ x y, P x → P2 y → ∀ (ρ : List Sl) (ta tb : TE), Ed c ρ ta (f x) ρ → Ed c ρ tb (g y) ρ → Ed c ρ (tOp r ta tb) (e (F x y)) ρ) : Ew c ρ (tOp r ta tb) e (fun z => ∃ x y, P x ∧ P2 y ∧ z = F x y) ρ2 :=
  fun T σ H W Q q => ha T σ H W _ fun x v H1 px W1 => hb _ σ H1 W1 _ fun y w H2 py W2 => by
    have hl := W2.len
    have W3 := W2.ext (as := [.dat (f x), .dat (g y)]) (.dat W2.pop.dp (.dat W2.dp .nil))
    obtain ⟨v', e1, w', e2, k⟩ := h x y px py (ρ2 ++ [.dat (f x), .dat (g y)].map slA) (tVar ρ2.length) (tVar (ρ2.length + 1)) (ed_var (by simp [slA])) (ed_var (by rw [List.getElem?_append_right (by omega)]; simp [slA])) _ _ H2 W3 Q
      (fun z H' W4 => q _ z H' ⟨x, y, px, py, rfl⟩ ((W4.cut hl).tmps fun p hp => by
        rcases List.mem_cons.mp hp with e | m
        · rw [e]; exact List.mem_cons_self ..
        · exact List.mem_cons_of_mem _ (List.mem_cons_of_mem _ (List.mem_cons_of_mem _ m))))
    rw [List.getElem?_append_right (by omega)] at e1 e2
    rw [show ρ2.length - σ.length = 0 by omega] at e1
    rw [show ρ2.length + 1 - σ.length = 1 by omega] at e2
    cases e1; cases e2
    exact k
theorem ewl_op {r : R2} {F : α → β → γ} {e : γ → List PyData} (ha : Ew c ρ ta f P ρ1) (hb : Ew c ρ1 tb g P2 ρ2)
    (h : ∀ x y, P x → P2 y → ∀ (ρ : List Sl) (ta tb : TE), Ed c ρ ta (f x) ρ → Ed c ρ tb (g y) ρ → EdL c ρ (tOp r ta tb) (e (F x y)) ρ) : EwL c ρ (tOp r ta tb) e (fun z => ∃ x y, P x ∧ P2 y ∧ z = F x y) ρ2 :=
  fun T σ H W Q q => ha T σ H W _ fun x v H1 px W1 => hb _ σ H1 W1 _ fun y w H2 py W2 => by
    have hl := W2.len
    have W3 := W2.ext (as := [.dat (f x), .dat (g y)]) (.dat W2.pop.dp (.dat W2.dp .nil))
    obtain ⟨v', e1, w', e2, k⟩ := h x y px py (ρ2 ++ [.dat (f x), .dat (g y)].map slA) (tVar ρ2.length) (tVar (ρ2.length + 1)) (ed_var (by simp [slA])) (ed_var (by rw [List.getElem?_append_right (by omega)]; simp [slA])) _ _ H2 W3 Q
      (fun p H' h1 h2 h3 W4 => by
        rw [hid_app] at h2 h3
        exact q _ p H' ⟨x, y, px, py, rfl⟩ h1 h2 h3 ((W4.cut hl).pop.pop))
    rw [List.getElem?_append_right (by omega)] at e1 e2
    rw [show ρ2.length - σ.length = 0 by omega] at e1
    rw [show ρ2.length + 1 - σ.length = 1 by omega] at e2
    cases e1; cases e2
    exact k
/-- anything of one part: G te = te, then k -/
theorem ew_1 {G : TE → TE} {k : V → L2.St → Hp → VK → Prop} {F : α → γ} (hG : ∀ te σ H Q, G te σ H Q = te σ H fun v H' => k v [] H' Q) (ha : Ew c ρ ta f P ρ1)
    (h : ∀ x, P x → ∀ (ρ : List Sl) (ta : TE), Ed c ρ ta (f x) ρ → Ed c ρ (G ta) (e (F x)) ρ) : Ew c ρ (G ta) e (fun z => ∃ x, P x ∧ z = F x) ρ1 :=
  fun T σ H W Q q => by
    rw [hG]
    refine ha T σ H W _ fun x v H1 px W1 => ?_
    have hl := W1.len
    have W3 := W1.ext (as := [.dat (f x)]) (.dat W1.dp .nil)
    have k := h x px (ρ1 ++ [.dat (f x)].map slA) (tVar ρ1.length) (ed_var (by simp [slA])) _ _ H1 W3 Q
      (fun z H' W4 => q _ z H' ⟨x, px, rfl⟩ ((W4.cut hl).tmps fun p hp => by
        rcases List.mem_cons.mp hp with e | m
        · rw [e]; exact List.mem_cons_self ..
        · exact List.mem_cons_of_mem _ (List.mem_cons_of_mem _ m)))
    rw [hG] at k
    obtain ⟨v', e1, k⟩ := k
    rw [List.getElem?_append_right (by omega)] at e1
    rw [show ρ1.length - σ.length = 0 by omega] at e1
    cases e1
    exact k
theorem ewl_1 {G : TE → TE} {k : V → L2.St → Hp → VK → Prop} {F : α → γ} {e : γ → List PyData} (hG : ∀ te σ H Q, G te σ H Q = te σ H fun v H' => k v [] H' Q) (ha : Ew c ρ ta f P ρ1)
    (h : ∀ x, P x → ∀ (ρ : List Sl) (ta : TE), Ed c ρ ta (f x) ρ → EdL c ρ (G ta) (e (F x)) ρ) : EwL c ρ (G ta) e (fun z => ∃ x, P x ∧ z = F x) ρ1 :=
  fun T σ H W Q q => by
    rw [hG]
    refine ha T σ H W _ fun x v H1 px W1 => ?_
    have hl := W1.len
    have W3 := W1.ext (as := [.dat (f x)]) (.dat W1.dp .nil)
    have k := h x px (ρ1 ++ [.dat (f x)].map slA) (tVar ρ1.length) (ed_var (by simp [slA])) _ _ H1 W3 Q
      (fun p H' h1 h2 h3 W4 => by
        rw [hid_app] at h2 h3
        exact q _ p H' ⟨x, px, rfl⟩ h1 h2 h3 ((W4.cut hl).pop))
    rw [hG] at k
    obtain ⟨v', e1, k⟩ := k
    rw [List.getElem?_append_right (by omega)] at e1
    rw [show ρ1.length - σ.length = 0 by omega] at e1
    cases e1
    exact k
theorem ew_cb1 {r : List V → Hp → VK → Prop} {F : α → γ} (ha : Ew c ρ ta f P ρ1) (h : ∀ x, P x → ∀ (ρ : List Sl) (ta : TE), Ed c ρ ta (f x) ρ → Ed c ρ (tCB r (tCons ta tNil)) (e (F x)) ρ) :
    Ew c ρ (tCB r (tCons ta tNil)) e (fun z => ∃ x, P x ∧ z = F x) ρ1 :=
  ew_1 (G := fun ta => tCB r (tCons ta tNil)) (k := fun v _ H Q => r [v] H Q) (fun _ _ _ _ => rfl) ha h
theorem ewl_cb1 {r : List V → Hp → VK → Prop} {F : α → γ} {e : γ → List PyData} (ha : Ew c ρ ta f P ρ1) (h : ∀ x, P x → ∀ (ρ : List Sl) (ta : TE), Ed c ρ ta (f x) ρ → EdL c ρ (tCB r (tCons ta tNil)) (e (F x)) ρ) :
    EwL c ρ (tCB r (tCons ta tNil)) e (fun z => ∃ x, P x ∧ z = F x) ρ1 :=
  ewl_1 (G := fun ta => tCB r (tCons ta tNil)) (k := fun v _ H Q => r [v] H Q) (fun _ _ _ _ => rfl) ha h
/-! #### arguments, displays, calls -/
theorem ewa_det {x : α} {as : α → List Ar} {ts : TA} (h : Ea c ρ ts (as x) ρ1) : Ewa c ρ ts as (fun y => y = x) ρ1 := fun T σ H W Q q => h T σ H W Q fun v H1 a W1 => q x v H1 rfl a W1
theorem ewa_nil : Ewa c ρ tNil (fun (_ : Unit) => []) (fun _ => True) ρ := fun T σ H W Q q => q () [] H trivial .nil W
theorem ewa_cons {ts : TA} {as : β → List Ar} (h : Ew c ρ te f P ρ1) (hr : Ewa c ρ1 ts as P2 ρ2) : Ewa c ρ (tCons te ts) (fun p : α × β => .dat (f p.1) :: as p.2) (fun p => P p.1 ∧ P2 p.2) ρ2 := fun T σ H W Q q =>
  h T σ H W _ fun x v H1 px W1 => hr _ σ H1 W1 _ fun y vs H2 py a W2 => q (x, y) _ H2 ⟨px, py⟩ (.dat W2.dp a) W2.pop
theorem ewa_raw {ts : TA} {as : α → List Ar} {i : Nat} {a : Addr} {l : Bool} {o : MO} (h : ρ[i]? = some (.mu l a o)) (hr : Ewa c ρ ts as P ρ2) : Ewa c ρ (tCons (tVar i) ts) (fun x => .raw (.ref a) :: as x) P ρ2 := fun T σ H W Q q =>
  ⟨.ref a, (W.ok i _ h).1, hr T σ H W _ fun x vs H2 px a W2 => q x _ H2 px (.raw a) W2⟩
theorem ew_tup {ts : TA} {ds : α → List PyData} {n : Nat} (h : Ewa c ρ ts (fun x => (ds x).map .dat) P ρ1) (hn : ∀ x, (ds x).length = n) (hl : Nat.ble n 100000 = true := by rfl) : Ew c ρ (tTupF ts) (fun x => .tuple (ds x)) P ρ1 := fun T σ H W Q q =>
  h T σ H W _ fun x vs H1 px a W1 => ⟨dpa_sz (aa_dats a) (by rw [hn]; exact Nat.le_of_ble_eq_true hl), fun p o z hp => q x _ _ px (tup_new W1 (aa_dats a) z hp)⟩
theorem ewl_lst {ts : TA} {ds : α → List PyData} {n : Nat} (h : Ewa c ρ ts (fun x => (ds x).map .dat) P ρ1) (hn : ∀ x, (ds x).length = n) (hl : Nat.ble n 100000 = true := by rfl) : EwL c ρ (tLst ts) ds P ρ1 := fun T σ H W Q q =>
  h T σ H W _ fun x vs H1 px a W1 => ⟨dpa_sz (aa_dats a) (by rw [hn]; exact Nat.le_of_ble_eq_true hl), fun p hp => by
    obtain ⟨x1, x2, x3, x4⟩ := el_new W1 (aa_dats a) hp
    exact q x p _ px x1 x2 x3 x4⟩
theorem ew_call {R : List PyData → PyData → Prop} {ts : TA} {ds : α → List PyData} {E : XK} {F : α → γ} (h : Ewa c ρ ts (fun x => (ds x).map .dat) P ρ1) (hR : ∀ x, P x → R (ds x) (e (F x))) :
    Ew c ρ (tCall (SpP c.K R) [] E ts) e (fun z => ∃ x, P x ∧ z = F x) ρ1 := fun T σ H W Q q => h T σ H W _ fun x vs H1 px a W1 => by
  rw [List.append_nil]
  exact ⟨hid c ρ1, ds x, e (F x), fun a h => W1.there h, aa_dats a, hR x px, fun v H' e dp => q _ v H' ⟨x, px, rfl⟩ ((W1.grow e).push dp)⟩
/-! #### the state that draws come from -/
/-- a list of four: the script, what is left of the cell, the place, the seed -/
def StOk (ds : List PyData) : Prop := ∃ (l : List Int) (cur pos seed : Nat), ds = [.list (l.map .int), .int (cur : Int), .int (pos : Int), .int (seed : Int)]
/-- a def that draws: its first argument is the state; Φ: what may come out -/
def SpW (K : PySem.W.Frag) (R : List PyData → (PyData → Prop) → Prop) : Sp := fun vs H Q _ => ∃ (S : List Addr) (a : Addr) (vs' : List V) (ds : List PyData) (Φ : PyData → Prop), vs = .ref a :: vs' ∧ a ∈ S ∧ (∀ b ∈ S, ∃ o, H b = some o) ∧
  MoOk K S H a (.any StOk) ∧ DzAll K (hide S H) vs' ds ∧ R ds Φ ∧ ∀ d v H', Φ d → (∀ b o, b ≠ a → H b = some o → H' b = some o) → MoOk K S H' a (.any StOk) → Dz K (hide S H') v d → Q v H'
theorem set_same {ρ : List Sl} {i : Nat} {s : Sl} (h : ρ[i]? = some s) : ρ.set i s = ρ := by
  apply List.ext_getElem?
  intro k
  by_cases q : i = k
  · subst q
    rw [List.getElem?_set_self (List.getElem?_eq_some_iff.mp h).1, h]
  · rw [List.getElem?_set_ne q]
theorem ew_callW {R : List PyData → (PyData → Prop) → Prop} {ts : TA} {ds : α → List PyData} {E : XK} {i : Nat} {l : Bool} {a : Addr} {P3 : α → γ → Prop} (h : Ewa c ρ ts (fun x => .raw (.ref a) :: (ds x).map .dat) P ρ1) (hi : ρ1[i]? = some (.mu l a (.any StOk)))
    (hR : ∀ x, P x → R (ds x) (fun d => ∃ z, P3 x z ∧ d = e z)) : Ew c ρ (tCall (SpW c.K R) [] E ts) e (fun z => ∃ x, P x ∧ P3 x z) ρ1 := fun T σ H W Q q => h T σ H W _ fun x vs H1 px aa W1 => by
  rw [List.append_nil]
  cases aa with
  | raw aa =>
    have hm : a ∈ hid c ρ1 := List.mem_append_right _ (mem_muts.mpr ⟨i, l, _, hi⟩)
    refine ⟨hid c ρ1, a, _, ds x, _, rfl, hm, fun a h => W1.there h, (W1.ok i _ hi).2.2, aa_dats aa, hR x px, fun d v H' ⟨z, hz, ed⟩ hk mo dp => ?_⟩
    subst ed
    have W2 := W1.chg hi hk mo
    rw [set_same hi] at W2
    exact q z v H' ⟨x, px, hz⟩ (W2.push dp)
/-! #### tests -/
theorem ew_ite {ca cb : Bool → Prop} (h : Ewt c ρ t ca ρ1) {f : α → PyData} {P P2 : α → Prop} (h1 : ca true → Ew c ρ1 ta f P ρ2) (h2 : ca false → Ew c ρ1 tb f P2 ρ2) : Ew c ρ (tIf t ta tb) f (fun x => (ca true ∧ P x) ∨ (ca false ∧ P2 x)) ρ2 := fun T σ H W Q q => h T σ H W _ fun b H1 hb W1 => by
  cases b with
  | true => exact h1 hb T σ H1 W1 Q fun x v H2 px W2 => q x v H2 (.inl ⟨hb, px⟩) W2
  | false => exact h2 hb T σ H1 W1 Q fun x v H2 px W2 => q x v H2 (.inr ⟨hb, px⟩) W2
theorem ewt_test {P3' : Bool → Prop} (h : Ew c ρ te (fun b => .bool b) P3' ρ1) : Ewt c ρ (tTest te) P3' ρ1 := fun T σ H W Q q => h T σ H W _ fun b v H1 pb W1 => ⟨b, dp_bl W1.dp, q b H1 pb W1.pop⟩
theorem ewt_tru {R : Bool → Prop} (h : Ew c ρ te f P ρ1) (ok : ∀ x, P x → truOk (f x) = true) (hR : ∀ x, P x → R (truD (f x))) : Ewt c ρ (fun σ H Q => te σ H fun x H' => ∃ k, TruV c.K x H' k ∧ Q k H') R ρ1 := fun T σ H W Q q => h T σ H W _ fun x v H1 px W1 =>
  ⟨_, tru_dp (dpm (hide_ex _ _) W1.dp) (ok x px), q _ H1 (hR x px) W1.pop⟩
theorem ewt_and {A B : Bool → Prop} (h1 : Ewt c ρ t A ρ1) (h2 : A true → Ewt c ρ1 u B ρ1) : Ewt c ρ (tAnd t u) (fun b => (A false ∧ b = false) ∨ (A true ∧ B b)) ρ1 := fun T σ H W Q q => h1 T σ H W _ fun a H1 ha W1 => by
  cases a with
  | true => exact h2 ha T σ H1 W1 Q fun b H2 hb W2 => q b H2 (.inr ⟨ha, hb⟩) W2
  | false => exact q false H1 (.inl ⟨ha, rfl⟩) W1
theorem ewt_or {A B : Bool → Prop} (h1 : Ewt c ρ t A ρ1) (h2 : A false → Ewt c ρ1 u B ρ1) : Ewt c ρ (tOr t u) (fun b => (A true ∧ b = true) ∨ (A false ∧ B b)) ρ1 := fun T σ H W Q q => h1 T σ H W _ fun a H1 ha W1 => by
  cases a with
  | true => exact q true H1 (.inl ⟨ha, rfl⟩) W1
  | false => exact h2 ha T σ H1 W1 Q fun b H2 hb W2 => q b H2 (.inr ⟨ha, hb⟩) W2
theorem ewt_not {A : Bool → Prop} (h1 : Ewt c ρ t A ρ1) : Ewt c ρ (tNot t) (fun b => A (!b)) ρ1 := fun T σ H W Q q => h1 T σ H W _ fun a H1 ha W1 => q _ H1 (by show A (!(!a)); rw [Bool.not_not]; exact ha) W1
theorem ewt_imp {A B : Bool → Prop} (h : Ewt c ρ t A ρ1) (i : ∀ b, A b → B b) : Ewt c ρ t B ρ1 := fun T σ H W Q q => h T σ H W Q fun b H1 hb W1 => q b H1 (i b hb) W1
theorem ew_and {A B : Bool → Prop} (h1 : Ew c ρ ta (fun b => .bool b) A ρ1) (h2 : A true → Ew c ρ1 tb (fun b => .bool b) B ρ1) : Ew c ρ (tAndV ta tb) (fun b => .bool b) (fun b => (A false ∧ b = false) ∨ (A true ∧ B b)) ρ1 := fun T σ H W Q q => h1 T σ H W _ fun a v H1 ha W1 => ⟨a, dp_bl W1.dp, by
  cases a with
  | true => exact h2 ha T σ H1 W1.pop Q fun b v H2 hb W2 => q b v H2 (.inr ⟨ha, hb⟩) W2
  | false => exact q false _ H1 (.inl ⟨ha, rfl⟩) (W1.pop.push (.bl _))⟩
/-! #### walks, comprehensions -/
def Eiw {α : Type} (c : Cz) (ρ : List Sl) (wi : TI) (its : α → List Itm) (P : α → Prop) (ρ' : List Sl) : Prop := ∀ (T : Tm) (σ : L2.St) (H : Hp), Wd c T H σ ρ → ∀ R : It → Hp → Prop, (∀ x J H' T1, P x → Wd c (T1 ++ T) H' σ ρ' → Walks c.K J T1 (its x) → R J H') → wi σ H R
theorem eiw_det {wi : TI} {its : α → List Itm} {x : α} (h : Ei c ρ wi (its x) ρ1) : Eiw c ρ wi its (fun y => y = x) ρ1 := fun T σ H W R q => h T σ H W R fun J H1 T1 W1 hw => q x J H1 T1 rfl W1 hw
theorem eiw_rng {P : Int → Prop} (h : Ew c ρ te PyData.int P ρ1) (hn : ∀ n, P n → -4000000000 ≤ n ∧ n ≤ 4000000000) : Eiw c ρ (iRng1 (tCons te tNil)) (fun n : Int => (List.range n.toNat).map fun (i : Nat) => Itm.hard (PyData.int (i : Int))) P ρ1 := fun T σ H W R q => h T σ H W _ fun n v H1 pn W1 => by
  have hh := hn n pn
  refine ⟨n, by rw [dp_int W1.dp], by omega, by omega, ?_⟩
  refine q n _ H1 [] pn W1.pop ?_
  have := walks_rng c.K 0 n.toNat
  unfold hards rngD at this
  simp only [Int.zero_add, List.map_map] at this
  exact this
/-- a comprehension, by what holds of the items so far -/
theorem el_lcN {wi : TI} {g : TG} {tt : TT} {vs : List Nat} {its : α → List Itm} (h : Eiw c ρ wi its P ρ1) (J : α → Nat → List PyData → Prop) (hJ : ∀ x, P x → J x 0 []) (hsz : ∀ x, P x → (its x).length ≤ 100000) (hvs : ∀ j ∈ vs, ρ1[j]? = some .no)
    (turn : ∀ (S : List Addr) (B : Hp) (x : α) (i : Nat) (d : Itm) (acc : List PyData), P x → (its x)[i]? = some d → J x i acc → ∃ (ρa : List Sl) (bp : Bool → Prop), Nz.wipeS ρa vs = ρ1 ∧ Eg (c.at S B) g d ρ1 ρa vs ∧ Ewt (c.at S B) ρa tt bp ρa ∧
      (bp true → Ew (c.at S B) ρa te (fun d => d) (fun d' => J x (i + 1) (acc ++ [d'])) ρa) ∧ (bp false → J x (i + 1) acc)) : EwL c ρ (tLc wi g tt te vs) (fun l : List PyData => l) (fun l => ∃ x, P x ∧ J x (its x).length l) ρ1 := fun T σ H W Q q =>
  h T σ H W _ fun x It H1 T1 px W1 hw D hD => by
    have hB := W1.freshB hD
    have hsub := W1.sub
    have nS : D ∉ c.S0 := fun m => W1.fresh hD (List.mem_append_left _ m)
    have nM : D ∉ c.M := fun m => nS (hsub D m)
    obtain ⟨_, hDn, mo0, Wh⟩ := el_new W1 (.nil) hD
    have eP : ∀ {H2 : Hp}, Wd (c.hidden D) (T1 ++ T) H2 (L2.wipe σ vs) ρ1 → D ∉ hid c ρ1 := fun W2 => W2.notin nS hsub
    have hs := hsz x px
    refine ⟨fun i m H2 => i + m = (its x).length ∧ ∃ acc, acc.length ≤ i ∧ J x i acc ∧ Wd (c.hidden D) (T1 ++ T) H2 (L2.wipe σ vs) ρ1 ∧ MoOk c.K (D :: hid c ρ1) H2 D (.lst acc), ⟨(its x).length, by omega, [], Nat.le_refl _, hJ x px, Wh.wipe hvs, mo0⟩, fun i m H2 ⟨hm, acc, la, ja, W2, mo⟩ => ?_⟩
    by_cases hi : i < (its x).length
    · obtain ⟨xs, hxs, dxs⟩ := mo
      have lx := dpa_length dxs
      have W2a : Wd (c.at (D :: c.S0) (upd c.B D (.lst xs))) (T1 ++ T) H2 (L2.wipe σ vs) ρ1 := W2.pin hxs hB hsub nS
      have W2b : Wd (c.at (D :: c.S0) (upd c.B D (.lst xs))) (xs.zip acc ++ (T1 ++ T)) H2 (L2.wipe σ vs) ρ1 := W2a.pushAll dxs
      have W2c : Wd (c.at (D :: c.S0) (upd c.B D (.lst xs))) (T1 ++ (xs.zip acc ++ T)) H2 (L2.wipe σ vs) ρ1 := W2b.tmps fun p hp => by
        simp only [List.mem_append] at hp ⊢
        rcases hp with hp | hp | hp
        · exact .inr (.inl hp)
        · exact .inl hp
        · exact .inr (.inr hp)
      have hwk := hw (c.at (D :: c.S0) (upd c.B D (.lst xs))) _ _ _ _ rfl W2c
      refine .inr ⟨(hwk.1 i hi).1, fun H3 => ∃ acc, acc.length ≤ i + 1 ∧ J x (i + 1) acc ∧ Wd (c.hidden D) (T1 ++ T) H3 (L2.wipe σ vs) ρ1 ∧ MoOk c.K (D :: hid c ρ1) H3 D (.lst acc), fun H3 ⟨ac, h3⟩ => ⟨m - 1, by omega, by omega, ac, h3⟩, fun y H3 hy => ?_⟩
      obtain ⟨d, hd, W3⟩ := (hwk.1 i hi).2 y H3 hy
      obtain ⟨ρa, bp, hwp, g1, g2, g3, g4⟩ := turn (D :: c.S0) (upd c.B D (.lst xs)) x i d acc px hd ja
      refine g1 _ _ _ _ W3 _ fun σ2 H4 W4 ew => ⟨by rw [ew, wipe_wipe], g2 _ σ2 H4 W4 _ fun b H5 pb W5 => ?_⟩
      rw [wipe_wipe] at ew
      cases b with
      | true =>
        rw [if_pos rfl]
        refine g3 pb _ σ2 H5 W5 _ fun d' z H6 jz W6 => ?_
        have W7 := W6.wipeS vs
        rw [hwp, ew] at W7
        obtain ⟨hx6, W8⟩ := W7.unpin hB nM
        have hn8 := W8.notin nS hsub
        refine ⟨xs, hx6, Nat.lt_of_lt_of_le (show xs.length < 100000 by omega) (by decide), acc ++ [d'], by simp; omega, jz, ?_, ?_⟩
        · refine (W8.updHid hB hn8).tmps fun p hp => List.mem_cons_of_mem _ ?_
          simp only [List.mem_append] at hp ⊢
          rcases hp with hp | hp
          · exact .inl hp
          · exact .inr (.inr hp)
        · refine ⟨xs ++ [z], upd_same, ?_⟩
          have W9 := W8.updHid (u := .lst (xs ++ [z])) hB hn8
          have a1 : DzAll c.K (hide (hid (c.hidden D) ρ1) (upd H6 D (.lst (xs ++ [z])))) xs acc := Wd.allOf (T := (z, d') :: (T1 ++ T)) lx (W9.tmps fun p hp => by
            simp only [List.mem_append, List.mem_cons] at hp ⊢
            rcases hp with hp | hp | hp | hp
            · exact .inr (.inr (.inl hp))
            · exact .inl hp
            · exact .inr (.inl hp)
            · exact .inr (.inr (.inr hp)))
          exact dpa_append a1 (.cons (W9.tmp (z, d') (List.mem_cons_self ..)) .nil)
      | false =>
        rw [if_neg (by decide)]
        have W7 := W5.wipeS vs
        rw [hwp, ew] at W7
        obtain ⟨hx6, W8⟩ := W7.unpin hB nM
        refine ⟨acc, by omega, g4 pb, W8.tmps fun p hp => ?_, xs, hx6, ?_⟩
        · simp only [List.mem_append] at hp ⊢
          rcases hp with hp | hp
          · exact .inl hp
          · exact .inr (.inr hp)
        · exact Wd.allOf (T := T1 ++ T) lx (W8.tmps fun p hp => by
            simp only [List.mem_append, List.mem_cons] at hp ⊢
            rcases hp with hp | hp | hp
            · exact .inr (.inl hp)
            · exact .inl hp
            · exact .inr (.inr hp))
    · have ei : i = (its x).length := by omega
      subst ei
      refine .inl ⟨(hw (c.hidden D) T (L2.wipe σ vs) H2 ρ1 rfl W2).2 _ (Nat.le_refl _), ?_⟩
      have W4 : Wd (c.hidden D) T H2 (L2.wipe σ vs) ρ1 := W2.tmps fun p hp => List.mem_append_right _ hp
      exact q acc D H2 ⟨x, px, ja⟩ hB (eP W2) mo (W4.unwipe hvs)
/-- one for each item -/
inductive Fa {α β : Type} (R : α → β → Prop) : List α → List β → Prop
  | nil : Fa R [] []
  | cons {a : α} {b : β} {l : List α} {m : List β} : R a b → Fa R l m → Fa R (a :: l) (b :: m)
theorem Fa.len {R : α → β → Prop} {l : List α} {m : List β} (h : Fa R l m) : m.length = l.length := by
  induction h with
  | nil => rfl
  | cons _ _ ih => rw [List.length_cons, List.length_cons, ih]
theorem Fa.snoc {R : α → β → Prop} {l : List α} {m : List β} {a : α} {b : β} (h : Fa R l m) (r : R a b) : Fa R (l ++ [a]) (m ++ [b]) := by
  induction h with
  | nil => exact .cons r .nil
  | cons r' _ ih => exact .cons r' ih
theorem Fa.mem {R : α → β → Prop} {l : List α} {m : List β} (h : Fa R l m) : ∀ b ∈ m, ∃ a ∈ l, R a b := by
  induction h with
  | nil => intro b hb; cases hb
  | cons r _ ih =>
    intro b hb
    rcases List.mem_cons.mp hb with e | hb
    · subst e; exact ⟨_, List.mem_cons_self .., r⟩
    · obtain ⟨a, ha, r⟩ := ih b hb
      exact ⟨a, List.mem_cons_of_mem _ ha, r⟩
/-- all items, each made in its ways -/
theorem el_lcW {δ : Type} {wi : TI} {g : TG} {vs : List Nat} {xs : α → List δ} {ea : δ → Itm} {eb : γ → PyData} {R : α → δ → γ → Prop} (h : Eiw c ρ wi (fun a => (xs a).map ea) P ρ1) (hsz : ∀ x, P x → (xs x).length ≤ 100000) (hvs : ∀ j ∈ vs, ρ1[j]? = some .no)
    (turn : ∀ (S : List Addr) (B : Hp) (a : α) (x : δ), P a → x ∈ xs a → ∃ ρa, Nz.wipeS ρa vs = ρ1 ∧ Eg (c.at S B) g (ea x) ρ1 ρa vs ∧ Ew (c.at S B) ρa te eb (R a x) ρa) :
    EwL c ρ (tLc wi g tYes te vs) (fun l : List γ => l.map eb) (fun l => ∃ a, P a ∧ Fa (R a) (xs a) l) ρ1 := fun T σ H W Q q => by
  refine el_lcN (c := c) (tt := tYes) (te := te) (vs := vs) h (fun a i acc => ∃ l : List γ, acc = l.map eb ∧ Fa (R a) ((xs a).take i) l) (fun a _ => ⟨[], rfl, by rw [List.take_zero]; exact .nil⟩) (fun a pa => by rw [List.length_map]; exact hsz a pa) hvs (fun S B a i d acc pa hd ⟨l, hl, hf⟩ => ?_) T σ H W Q (fun l p H' ⟨a, pa, l', e, hf⟩ h1 h2 h3 W1 => ?_)
  · rw [List.getElem?_map] at hd
    cases hx : (xs a)[i]? with
    | none => rw [hx] at hd; cases hd
    | some x =>
      rw [hx] at hd
      have hd : ea x = d := Option.some.inj hd
      subst hd
      obtain ⟨ρa, hw, g1, g2⟩ := turn S B a x pa (List.mem_of_getElem? hx)
      refine ⟨ρa, fun b => b = true, hw, g1, fun T σ H W Q q => q true H rfl W, fun _ => ew_as g2 fun z hz => ⟨eb z, ⟨l ++ [z], by rw [hl, List.map_append]; rfl, ?_⟩, rfl⟩, fun e => by cases e⟩
      rw [List.take_add_one, hx]
      exact hf.snoc hz
  · subst e
    rw [List.length_map, List.take_length] at hf
    exact q l' p H' ⟨a, pa, hf⟩ h1 h2 h3 W1
/-! ### statements -/
variable {D : Ends} {ts tu : TS} {gt : TG} {nx bk ct : L2.St → Hp → Prop} {rt : VK}
theorem s_asgGW {ws : List Nat} {ρ2 : α → List Sl} (h : Ew c ρ te f P ρ1) (hg : ∀ x, P x → Eg c gt (.hard (f x)) ρ1 (ρ2 x) ws) (k : ∀ x, P x → Sk c T (ρ2 x) nx) : Ss c T ρ (tAsg te gt) ⟨nx, rt, bk, ct⟩ := fun σ H W => h T σ H W _ fun x v H1 px W1 => hg x px T σ H1 v W1 _ fun σ2 H2 W2 _ => k x px σ2 H2 W2
theorem s_asgW {i : Nat} (h : Ew c ρ te f P ρ1) (k : ∀ x, P x → Sk c T (ρ1.set i (.da (f x))) nx) : Ss c T ρ (tAsg te (gName i)) ⟨nx, rt, bk, ct⟩ := s_asgGW (ws := [i]) (ρ2 := fun x => ρ1.set i (.da (f x))) h (fun x _ => eg_name (List.mem_cons_self ..)) k
theorem s_asgMW {i : Nat} {f : α → List PyData} (h : EwL c ρ te f P ρ1) (k : ∀ x, P x → ∀ p, Sk c T (ρ1.set i (.mu true p (.lst (f x)))) nx) : Ss c T ρ (tAsg te (gName i)) ⟨nx, rt, bk, ct⟩ := fun σ H W =>
  h T σ H W _ fun x p H1 px hB hn mo W1 => k x px p _ _ (W1.setM W.sub i (by rw [if_pos rfl]; exact hB) hn mo)
theorem s_parW {i j : Nat} {ta tb : TE} (h : Ew c ρ ta f P ρ1) (h2 : Ew c ρ1 tb g P2 ρ2) (k : ∀ x y, P x → P2 y → Sk c T ((ρ2.set i (.da (f x))).set j (.da (g y))) nx) : Ss c T ρ (tPar i j (tCons ta (tCons tb tNil))) ⟨nx, rt, bk, ct⟩ := fun σ H W =>
  h T σ H W _ fun x v H1 px W1 => h2 _ σ H1 W1 _ fun y w H2 py W2 => by
    refine ⟨v, w, rfl, ?_⟩
    have W3 : Wd c ((v, f x) :: T) H2 σ ρ2 := W2.pop
    have W4 := W2.setD i W3.dp
    have W5 := W4.setD j W4.dp
    exact k x y px py _ _ W5.pop.pop
theorem s_ifW {A : Bool → Prop} (h : Ewt c ρ t A ρ1) (h1 : A true → Ss c T ρ1 ts D) (h2 : A false → Ss c T ρ1 tu D) : Ss c T ρ (tIfS t ts tu) D := fun σ H W => h T σ H W _ fun b H1 hb W1 => by
  cases b with
  | true => exact h1 hb σ H1 W1
  | false => exact h2 hb σ H1 W1
theorem s_dropW (h : Ew c ρ te f P ρ1) (k : ∀ x, P x → Sk c T ρ1 nx) : Ss c T ρ (tDrop te) ⟨nx, rt, bk, ct⟩ := fun σ H W => h T σ H W _ fun x v H1 px W1 => k x px σ H1 W1.pop
theorem s_open {i : Nat} {l : Bool} {a : Addr} {P : List PyData → Prop} {nx : L2.St → Hp → Prop} (h : ρ[i]? = some (.mu l a (.any P))) (k : ∀ ds, P ds → Sk c T (ρ.set i (.mu l a (.lst ds))) nx) : Sk c T ρ nx := fun σ H W => by
  obtain ⟨_, _, xs, h1, ds, p, h2⟩ := W.ok i _ h
  exact k ds p σ H (W.chg h (fun _ _ _ e => e) ⟨xs, h1, h2⟩)
/-- what a def that draws must return -/
def RtW (c : Cz) (a : Addr) (Φ : PyData → Prop) (rt : VK) : Prop := ∀ d, Φ d → Rt c d [(a, .any StOk)] rt
theorem s_retW {i : Nat} {l : Bool} {a : Addr} {Φ : PyData → Prop} (h : Ew c ρ te f P ρ1) (hi : ρ1[i]? = some (.mu l a (.any StOk))) (hr : RtW c a Φ D.rt) (hp : ∀ x, P x → Φ (f x)) : Ss c T ρ (tRet te) D := fun σ H W => h T σ H W _ fun x v H1 px W1 =>
  hr (f x) (hp x px) v H1 W1.keep (fun p hp => by
    simp only [List.mem_singleton] at hp
    subst hp
    exact (W1.ok i _ hi).2.2.mono hide_S0 rfl) (dpm hide_S0 W1.dp)
/-- a for that draws: its state is any that holds -/
theorem s_forN {β : Type} {wi : TI} {tbd : TS} (xs : List α) (ea : α → Itm) (h : Ei c ρ wi (xs.map ea) ρ1) (P : Nat → β → Prop) (I : Nat → β → List Sl) (b0 : β) (hP : P 0 b0) (h0 : Le ρ1 (I 0 b0))
    (hs : ∀ (T' : Tm), (∀ p ∈ T, p ∈ T') → ∀ (i : Nat) (x : α) (b : β), xs[i]? = some x → P i b → ∃ ρa ws, Eg c gt (ea x) (I i b) ρa ws ∧ Ss c T' ρa tbd ⟨fun σ H => ∃ b', P (i + 1) b' ∧ Wd c T' H σ (I (i + 1) b'), rt, nx, fun σ H => ∃ b', P (i + 1) b' ∧ Wd c T' H σ (I (i + 1) b')⟩)
    (hd : ∀ b, P xs.length b → Sk c T (I xs.length b) nx) : Ss c T ρ (tFor wi gt tbd) ⟨nx, rt, bk, ct⟩ := fun σ H W => h T σ H W _ fun J H1 T1 W1 hw => by
  rw [← List.length_map (f := ea)] at hd
  refine ⟨fun i m σ' H' => i + m = (xs.map ea).length ∧ ∃ b, P i b ∧ Wd c (T1 ++ T) H' σ' (I i b), ⟨(xs.map ea).length, by omega, b0, hP, W1.le h0⟩, fun i m σ' H' ⟨hm, b, pb, W2⟩ => ?_⟩
  have hwk := hw c T σ' H' (I i b) rfl W2
  by_cases hi : i < (xs.map ea).length
  · refine .inr ⟨(hwk.1 i hi).1, fun σ3 H3 => ∃ b', P (i + 1) b' ∧ Wd c (T1 ++ T) H3 σ3 (I (i + 1) b'), fun σ3 H3 h3 => ⟨m - 1, by omega, by omega, h3⟩, fun x H3 hy => ?_⟩
    obtain ⟨d, hd', W3⟩ := (hwk.1 i hi).2 x H3 hy
    rw [List.getElem?_map] at hd'
    cases hx : xs[i]? with
    | none => rw [hx] at hd'; cases hd'
    | some z =>
      rw [hx] at hd'
      have hd' : ea z = d := Option.some.inj hd'
      subst hd'
      obtain ⟨ρa, ws, g1, g2⟩ := hs (T1 ++ T) (fun p hp => List.mem_append_right _ hp) i z b hx pb
      exact g1 _ σ' H3 x W3 _ fun σ4 H4 W4 _ => g2 σ4 H4 W4
  · have ei : i = (xs.map ea).length := by omega
    subst ei
    exact .inl ⟨hwk.2 _ (Nat.le_refl _), hd b pb σ' H' (W2.tmps fun p hp => List.mem_append_right _ hp)⟩
theorem s_endN {β : Type} {P : β → Prop} {I : β → List Sl} (b' : β) (hP : P b') (h : Le ρ (I b')) : Sk c T ρ (fun σ H => ∃ b', P b' ∧ Wd c T H σ (I b')) := fun σ H W => ⟨b', hP, W.le h⟩
end
/-! ### a def that draws -/
theorem startW {K : PySem.W.Frag} {N : List Str} {vs : List V} {ds : List PyData} {S : List Addr} {H : Hp} {a : Addr} (hd : ∀ a ∈ S, ∃ o, H a = some o) (hm : a ∈ S) (mo : MoOk K S H a (.any StOk)) (da : DzAll K (hide S H) vs ds) (hl : ds.length + 1 ≤ N.length) :
    Wd ⟨K, H, [a], S⟩ [] H (L2.start N (.ref a :: vs)) (.mu false a (.any StOk) :: (ds.map .da ++ List.replicate (N.length - (ds.length + 1)) .no)) := by
  have W0 := start_wd (M := []) (N := N.drop 1) hd da (by rw [List.length_drop]; omega)
  have nm : ∀ (i : Nat) (l : Bool) (b : Addr) (o : MO), (ds.map Sl.da ++ List.replicate (N.length - (ds.length + 1)) Sl.no)[i]? ≠ some (.mu l b o) := fun i l b o e => by
    have := List.mem_of_getElem? e
    simp at this
  have hid0 : ∀ b, b ∈ hid ⟨K, H, [a], S⟩ (.mu false a (.any StOk) :: (ds.map Sl.da ++ List.replicate (N.length - (ds.length + 1)) Sl.no)) → b ∈ S := fun b m => by
    rcases List.mem_append.mp m with m | m
    · exact m
    · obtain ⟨i, l, o, e⟩ := mem_muts.mp m
      cases i with
      | zero => cases e; exact hm
      | succ i => exact absurd e (nm i l b o)
  have hid1 : ∀ b, b ∈ S → b ∈ hid ⟨K, H, [a], S⟩ (.mu false a (.any StOk) :: (ds.map Sl.da ++ List.replicate (N.length - (ds.length + 1)) Sl.no)) := fun b m => List.mem_append_left _ m
  have e1 : Ex (hide S H) (hide (hid ⟨K, H, [a], S⟩ (.mu false a (.any StOk) :: (ds.map Sl.da ++ List.replicate (N.length - (ds.length + 1)) Sl.no))) H) := hide_mono fun b o n h => ⟨fun m => n (hid0 b m), h⟩
  have hN : (N.drop 1).length - ds.length = N.length - (ds.length + 1) := by rw [List.length_drop]; omega
  have st : L2.start N (.ref a :: vs) = some (.ref a) :: L2.start (N.drop 1) vs := by
    unfold L2.start
    rw [List.map_cons, List.cons_append, List.length_cons, List.length_drop]
    have : N.length - (vs.length + 1) = N.length - 1 - vs.length := by omega
    rw [this]
  rw [st]
  rw [hN] at W0
  refine ⟨?_, fun b o _ h => h, fun b m => by simp at m; rw [m]; exact hm, hd, fun p hp => (nomatch hp), fun i j l m b o u h1 h2 => ?_, fun i b o h => ?_, fun i s e => ?_⟩
  · have := W0.len
    simp only [List.length_cons]
    rw [this]
  · cases i with
    | zero =>
      cases j with
      | zero => rfl
      | succ j => exact absurd h2 (nm j m b u)
    | succ i => exact absurd h1 (nm i l b o)
  · cases i with
    | zero => cases h
    | succ i => exact absurd h (nm i true b o)
  · cases i with
    | zero => cases e; exact ⟨rfl, by simp, mo.mono e1 rfl⟩
    | succ i =>
      have ok := W0.ok i s e
      have hh : hid ⟨K, H, [], S⟩ (ds.map Sl.da ++ List.replicate (N.length - (ds.length + 1)) Sl.no) = S := by
        have z : muts (ds.map Sl.da ++ List.replicate (N.length - (ds.length + 1)) Sl.no) = [] := by
          apply List.eq_nil_iff_forall_not_mem.mpr
          intro b m
          obtain ⟨i, l, o, e⟩ := mem_muts.mp m
          exact nm i l b o e
        show S ++ muts _ = S
        rw [z, List.append_nil]
      rw [hh] at ok
      have := slOk_mono (H' := H) e1 (fun _ _ => rfl) ok
      cases s with
      | mu l b o => exact absurd e (nm i l b o)
      | _ => exact this
theorem fn_draws {K : PySem.W.Frag} {R : List PyData → (PyData → Prop) → Prop} {N : List Str} {ts : TS} (hN : ∀ ds Φ, R ds Φ → ds.length + 1 ≤ N.length)
    (h : ∀ (B : Hp) (S : List Addr) (a : Addr) (ds : List PyData) (Φ : PyData → Prop), R ds Φ → ∀ D : Ends, RtW ⟨K, B, [a], S⟩ a Φ D.rt → Ss ⟨K, B, [a], S⟩ [] (.mu false a (.any StOk) :: (ds.map .da ++ List.replicate (N.length - (ds.length + 1)) .no)) ts D)
    (vs : List V) (H : Hp) (Q : VK) (E : XK) (hs : SpW K R vs H Q E) : ts { nx := fun _ H' => Q .non H', rt := Q } (L2.start N vs) H := by
  obtain ⟨S, a, vs', ds, Φ, rfl, hm, hd, mo, da, hR, q⟩ := hs
  refine h H S a ds Φ hR { nx := fun _ H' => Q .non H', rt := Q } (fun d hd v H' k ms dp => q d v H' hd (fun b o n e => k b o (by simpa using n) e) (ms (a, .any StOk) (List.mem_cons_self ..)) dp) _ _ (startW hd hm mo da (hN _ _ hR))
theorem spW_len {K : PySem.W.Frag} {Rl : List PyData → (PyData → Prop) → Prop} {ps : List Str} (h : ∀ ds Φ, Rl ds Φ → ds.length + 1 = ps.length) : ∀ vs H Q, SpW K Rl vs H Q E0 → vs.length = ps.length := fun vs H Q ⟨S, a, vs', ds, Φ, e, _, _, _, da, r, _⟩ => by
  rw [e, List.length_cons, dpa_length da]; exact h ds Φ r
/-! ### a def that returns a new list -/
def SpL (K : PySem.W.Frag) (R : List PyData → List PyData → Prop) : Sp := fun vs H Q _ => ∃ (S : List Addr) (ds es : List PyData), (∀ a ∈ S, ∃ o, H a = some o) ∧ DzAll K (hide S H) vs ds ∧ R ds es ∧
  ∀ p H', Ex H H' → H p = none → MoOk K (p :: S) H' p (.lst es) → Q (.ref p) H'
theorem spL_len {K : PySem.W.Frag} {Rl : List PyData → List PyData → Prop} {ps : List Str} (h : ∀ ds d, Rl ds d → ds.length = ps.length) : ∀ vs H Q, SpL K Rl vs H Q E0 → vs.length = ps.length := fun vs H Q ⟨S, ds, d, _, a, r, _⟩ => (dpa_length a).trans (h ds d r)
def RtL (c : Cz) (es : List PyData) (rt : VK) : Prop := ∀ p H', (∀ a o, a ∉ c.M → c.B a = some o → H' a = some o) → c.B p = none → MoOk c.K (p :: c.S0) H' p (.lst es) → rt (.ref p) H'
theorem s_retL {c : Cz} {T : Tm} {ρ ρ1 : List Sl} {te : TE} {es : List PyData} {D : Ends} (h : EdL c ρ te es ρ1) (hr : RtL c es D.rt) : Ss c T ρ (tRet te) D := fun σ H W => h T σ H W _ fun p H1 hB hn mo W1 => hr p H1 W1.keep hB (by
  obtain ⟨xs, h1, h2⟩ := mo
  exact ⟨xs, h1, dpam (hide_mono fun a o n h => ⟨fun m => n (by
    rcases List.mem_cons.mp m with e | m
    · rw [e]; exact List.mem_cons_self ..
    · exact List.mem_cons_of_mem _ (List.mem_append_left _ m)), h⟩) h2⟩)
theorem fn_new {K : PySem.W.Frag} {R : List PyData → List PyData → Prop} {N : List Str} {ts : TS} (hN : ∀ ds d, R ds d → ds.length ≤ N.length)
    (h : ∀ (B : Hp) (S : List Addr) (ds es : List PyData), R ds es → ∀ D : Ends, RtL ⟨K, B, [], S⟩ es D.rt → Ss ⟨K, B, [], S⟩ [] (ds.map .da ++ List.replicate (N.length - ds.length) .no) ts D)
    (vs : List V) (H : Hp) (Q : VK) (E : XK) (hs : SpL K R vs H Q E) : ts { nx := fun _ H' => Q .non H', rt := Q } (L2.start N vs) H := by
  obtain ⟨S, ds, es, hd, a, hR, q⟩ := hs
  exact h H S ds es hR { nx := fun _ H' => Q .non H', rt := Q } (fun p H' k hB mo => q p H' (fun a o e => k a o (fun m => nomatch m) e) hB mo) _ _ (start_wd (M := []) hd a (hN _ _ hR))
theorem Wd.hideNew' {c : Cz} {T : Tm} {H H' : Hp} {σ : L2.St} {ρ : List Sl} {p : Addr} {o : HO} (W : Wd c T H σ ρ) (e : Ex H H') (h : H p = none) (h' : H' p = some o) : Wd (c.hidden p) T H' σ ρ := by
  have W2 := W.grow e
  have n := W.fresh h
  have e2 : Ex (hide (hid c ρ) H) (hide (hid (c.hidden p) ρ) H') := hide_mono fun a u m q => ⟨fun z => by
    rcases List.mem_cons.mp z with z | z
    · rw [z, h] at q; cases q
    · exact m z, e a u q⟩
  refine ⟨W.len, W2.keep, fun a m => List.mem_cons_of_mem _ (W.sub a m), fun a m => ?_, fun q hq => dpm e2 (W.tmp q hq), W.inj, fun i a u q m => ?_, fun i s m => ?_⟩
  · rcases List.mem_cons.mp m with m | m
    · rw [m]; exact ⟨o, h'⟩
    · exact W2.dom a m
  · rcases List.mem_cons.mp m with m | m
    · obtain ⟨z, hz⟩ := (W.ok i _ q).2.2.there
      rw [m, h] at hz; cases hz
    · exact W.ap i a u q m
  · have := slOk_mono (c := c) (H' := H') e2 (fun a q => by
      cases s with
      | mu l b o' =>
        cases q
        obtain ⟨u, hu⟩ := (W.ok i _ m).2.2.there
        rw [hu, e _ _ hu]
      | _ => cases q) (W.ok i s m)
    cases s <;> exact this
theorem el_callL {c : Cz} {ρ ρ1 : List Sl} {R : List PyData → List PyData → Prop} {ts : TA} {ds es : List PyData} {E : XK} (h : Ea c ρ ts (ds.map .dat) ρ1) (hR : R ds es) : EdL c ρ (tCall (SpL c.K R) [] E ts) es ρ1 := fun T σ H W Q q => h T σ H W _ fun vs H1 a W1 => by
  rw [List.append_nil]
  refine ⟨hid c ρ1, ds, es, fun a h => W1.there h, aa_dats a, hR, fun p H' e hp mo => ?_⟩
  obtain ⟨xs, h1, h2⟩ := mo
  exact q p H' (W1.freshB hp) (W1.fresh hp) ⟨xs, h1, h2⟩ (W1.hideNew' e hp h1)
/-! #### a[i] op= b -/
section
variable {X : Cx}
theorem get_listG : PGet X (rGetG X.K) := by
  intro pins s σ H x y v u Q I rx ry h
  obtain ⟨p, xs, i, z, rfl, rfl, hq, he, q⟩ := h
  cases rx
  obtain ⟨t, rfl⟩ := ry
  obtain ⟨its, r, pl, hz⟩ := I.list hq
  obtain ⟨j, h1, h2, h3, h4, h5⟩ := atI_get he
  obtain ⟨w, ew, rw'⟩ := r.get h2
  have hl := r.length
  have hn := line63
  have fin : EP X pins σ Q w s := ⟨z, H, I, rw', q⟩
  by_cases h0 : 0 ≤ i
  · have hj : i.toNat = j := by
      rw [seqIndex_of h0 h5] at h1
      exact Option.some.inj h1
    exact PySem.wpAny_getItem_list pl.isList h0 (by omega) (by rw [hj]; simpa using ew) fin
  · have hj : (i + (its.toArray.size : Int)).toNat = j := by
      rw [seqIndex_neg (by omega) h4] at h1
      rw [List.size_toArray, ← hl]
      exact Option.some.inj h1
    exact PySem.wpAny_getItem_list_neg pl.isList (by omega) (by rw [List.size_toArray] <;> omega) (by omega) (by rw [hj]; simpa using ew) fin
theorem ix_any : IxR X (fun x y H Q => rIxL X.K x y H Q ∨ rIxT X.K x y H Q) := ix_list.or ix_tup
end
section
variable {c : Cz} {ρ ρ1 ρ2 : List Sl} {ta tb te : TE} {d : PyData} {T : Tm} {D : Ends} {nx bk ct : L2.St → Hp → Prop} {rt : VK}
theorem s_augSX {i : Nat} {l : Bool} {a : Addr} {f : Int → Int → Int} {xs : List Int} {j y : Int} (hj : Ed c ρ tb (.int j) ρ1) (h : Ed c ρ1 te (.int y) ρ2) (h0 : ∃ l o, ρ[i]? = some (.mu l a o)) (ha : ρ1[i]? = some (.mu l a (.lst (xs.map .int))))
    (ha2 : ρ2[i]? = some (.mu l a (.lst (xs.map .int)))) (hn : 0 ≤ j ∧ j < xs.length) (k : Sk c T (ρ2.set i (.mu l a (.lst ((xs.set j.toNat (f (ixG xs j) y)).map .int)))) nx) : Ss c T ρ (tAugS (tVar i) tb te (rGetG c.K) (ipI f) rSetL) ⟨nx, rt, bk, ct⟩ := fun σ H W => by
  obtain ⟨l0, o0, h0⟩ := h0
  refine ⟨.ref a, (W.ok i _ h0).1, hj T σ H W _ fun w H1 W1 => ?_⟩
  obtain ⟨_, _, ys, h1, h2⟩ := W1.ok i _ ha
  have hix : atI (xs.map PyData.int) j = some (PyData.int (ixG xs j)) := ix_some (f := PyData.int) ⟨by omega, hn.2⟩
  obtain ⟨v, h3, h4⟩ := atI_dp h2 hix
  refine ⟨a, ys, j, v, rfl, dp_int W1.dp, sq_of h1, h3, h _ σ H1 W1 _ fun w2 H2 W2 => ⟨ixG xs j, y, dp_int h4, dp_int W2.dp, ?_⟩⟩
  obtain ⟨_, _, zs, h5, h6⟩ := W2.ok i _ ha2
  refine ⟨a, zs, j, j.toNat, rfl, dp_int W2.pop.dp, h5, by rw [dpa_length h6]; exact ixN_nn (by rw [List.length_map]; exact hn), ?_⟩
  refine k _ _ (W2.pop.pop.updM ha2 ⟨zs.set j.toNat (.int (f (ixG xs j) y)), upd_same, ?_⟩)
  have hm : a ∈ hid c ρ2 := List.mem_append_right _ (mem_muts.mpr ⟨i, l, _, ha2⟩)
  have e5 : Ex (hide (hid c ρ2) H2) (hide (hid c ρ2) (upd H2 a (.lst (zs.set j.toNat (.int (f (ixG xs j) y)))))) := hide_mono fun b o nb e => ⟨nb, by rw [upd_ne (fun q => nb (by rw [q]; exact hm))]; exact e⟩
  rw [List.map_set]
  exact dpam e5 (dpa_set _ h6 (.int _))
end
/-! #### drawing, picking -/
def R_draw : List PyData → (PyData → Prop) → Prop := fun ds Φ => ∃ many : Int, ds = [.int many] ∧ 0 < many ∧ many < 2 ^ 30 ∧ ∀ x : Int, (0 ≤ x ∧ x < many) → Φ (.int x)
def R_pick : List PyData → (PyData → Prop) → Prop := fun ds Φ => ∃ l : List PyData, (ds = [.list l] ∨ ds = [.tuple l]) ∧ 0 < l.length ∧ l.length < 2 ^ 30 ∧ ∀ d ∈ l, Φ d
def seedOf (script : List Int) : Nat := script.foldl (fun seed cell => (((seed : Int) * 48271 + cell) % 2147483629).toNat + 1) 7
theorem seedOf_step {script : List Int} {i : Nat} {x : Int} (h : script[i]? = some x) : ((seedOf (script.take i) : Nat) : Int) * 48271 + x = ((seedOf (script.take i) : Nat) : Int) * 48271 + x ∧ ((((seedOf (script.take i) : Nat) : Int) * 48271 + x) % 2147483629 + 1 = ((seedOf (script.take (i + 1)) : Nat) : Int)) := by
  refine ⟨rfl, ?_⟩
  unfold seedOf
  rw [List.take_add_one, h, List.foldl_append]
  simp only [Option.toList, List.foldl_cons, List.foldl_nil]
  have := Int.emod_nonneg ((List.foldl (fun seed cell => (((seed : Int) * 48271 + cell) % 2147483629).toNat + 1) 7 (script.take i) : Nat) * 48271 + x) (show (2147483629 : Int) ≠ 0 by decide)
  omega
section
variable {c : Cz} {ρ ρ1 ρ2 : List Sl} {ta tb te : TE} {α β γ : Type} {P : α → Prop}
theorem ew_draw {i : Nat} {l : Bool} {a : Addr} {P : Int → Prop} {E : XK} (h : Ew c ρ te PyData.int P ρ1) (hi0 : ρ[i]? = some (.mu l a (.any StOk))) (hi : ρ1[i]? = some (.mu l a (.any StOk))) (hp : ∀ m, P m → 0 < m ∧ m < 2 ^ 30) :
    Ew c ρ (tCall (SpW c.K R_draw) [] E (tCons (tVar i) (tCons te tNil))) PyData.int (fun x => ∃ m, P m ∧ 0 ≤ x ∧ x < m) ρ1 :=
  ew_imp (ew_callW (e := PyData.int) (P3 := fun (p : Int × Unit) x => 0 ≤ x ∧ x < p.1) (ds := fun p : Int × Unit => [.int p.1]) (ewa_raw hi0 (ewa_cons h ewa_nil)) hi (fun x px => ⟨x.1, rfl, (hp _ px.1).1, (hp _ px.1).2, fun y hy => ⟨y, hy, rfl⟩⟩)) fun y ⟨p, hp, hy⟩ => ⟨p.1, hp.1, hy⟩
theorem mem_ix {l : List PyData} {x : Int} {d : PyData} (h : atI l x = some d) : d ∈ l := by
  unfold atI at h
  cases q : ixN l.length x with
  | none => rw [q] at h; cases h
  | some j => rw [q] at h; exact List.mem_of_getElem? h
theorem ew_ixAny {ds : List PyData} {s : PyData} {P : Int → Prop} (hs : s = .list ds ∨ s = .tuple ds) (ha : Ed c ρ ta s ρ1) (hb : Ew c ρ1 tb PyData.int P ρ2) (hp : ∀ x, P x → 0 ≤ x ∧ x < ds.length) :
    Ew c ρ (tOp (fun x y H Q => rIxL c.K x y H Q ∨ rIxT c.K x y H Q) ta tb) (fun d => d) (fun d => d ∈ ds) ρ2 := fun T σ H W Q q => ha T σ H W _ fun v H1 W1 => hb _ σ H1 W1 _ fun x w H2 px W2 => by
  have hx := hp x px
  obtain ⟨d0, e⟩ : ∃ d0, atI ds x = some d0 := ⟨ds[x.toNat]'(by omega), by
    unfold atI; rw [ixN_nn hx]
    show ds[x.toNat]? = _
    exact List.getElem?_eq_getElem (by omega)⟩
  rcases hs with rfl | rfl
  · obtain ⟨a, xs, rfl, hs, h2⟩ := dp_lst W2.pop.dp
    obtain ⟨z, h3, h4⟩ := atI_dp h2 e
    exact .inl ⟨a, xs, x, z, rfl, dp_int W2.dp, ex_l (hide_ex _ _) hs, h3, q _ z H2 (mem_ix e) (W2.pop.pop.push h4)⟩
  · obtain ⟨a, xs, rfl, hs, h2⟩ := dp_tup W2.pop.dp
    obtain ⟨z, h3, h4⟩ := atI_dp h2 e
    exact .inr ⟨a, xs, x, z, rfl, dp_int W2.dp, (ex_p (hide_ex _ _) hs).sq, h3, q _ z H2 (mem_ix e) (W2.pop.pop.push h4)⟩
/-- _law_pick(state, list) -/
theorem ew_pickL {i : Nat} {l : Bool} {a : Addr} {f : α → PyData} {P : List α → Prop} {E : XK} (h : Ew c ρ te (fun l : List α => .list (l.map f)) P ρ1) (hi0 : ρ[i]? = some (.mu l a (.any StOk))) (hi : ρ1[i]? = some (.mu l a (.any StOk))) (hp : ∀ m, P m → 0 < m.length ∧ m.length < 2 ^ 30) :
    Ew c ρ (tCall (SpW c.K R_pick) [] E (tCons (tVar i) (tCons te tNil))) f (fun x => ∃ m, P m ∧ x ∈ m) ρ1 :=
  ew_imp (ew_callW (e := f) (P3 := fun (p : List α × Unit) x => x ∈ p.1) (ds := fun p : List α × Unit => [.list (p.1.map f)]) (ewa_raw hi0 (ewa_cons h ewa_nil)) hi (fun x px => ⟨x.1.map f, .inl rfl, by rw [List.length_map]; exact (hp _ px.1).1, by rw [List.length_map]; exact (hp _ px.1).2, fun d hd => by
    obtain ⟨z, hz, e⟩ := List.mem_map.mp hd
    exact ⟨z, hz, e.symm⟩⟩)) fun y ⟨p, hp, hy⟩ => ⟨p.1, hp.1, hy⟩
theorem ew_pickT {i : Nat} {l : Bool} {a : Addr} {f : α → PyData} {P : List α → Prop} {E : XK} (h : Ew c ρ te (fun l : List α => .tuple (l.map f)) P ρ1) (hi0 : ρ[i]? = some (.mu l a (.any StOk))) (hi : ρ1[i]? = some (.mu l a (.any StOk))) (hp : ∀ m, P m → 0 < m.length ∧ m.length < 2 ^ 30) :
    Ew c ρ (tCall (SpW c.K R_pick) [] E (tCons (tVar i) (tCons te tNil))) f (fun x => ∃ m, P m ∧ x ∈ m) ρ1 :=
  ew_imp (ew_callW (e := f) (P3 := fun (p : List α × Unit) x => x ∈ p.1) (ds := fun p : List α × Unit => [.tuple (p.1.map f)]) (ewa_raw hi0 (ewa_cons h ewa_nil)) hi (fun x px => ⟨x.1.map f, .inr rfl, by rw [List.length_map]; exact (hp _ px.1).1, by rw [List.length_map]; exact (hp _ px.1).2, fun d hd => by
    obtain ⟨z, hz, e⟩ := List.mem_map.mp hd
    exact ⟨z, hz, e.symm⟩⟩)) fun y ⟨p, hp, hy⟩ => ⟨p.1, hp.1, hy⟩
end
end Nz

/-! what gen.py names for defs that draw -/
namespace Nz
open PySem PySem.Spec PyProof.Rows L2 RZ
section
variable {c : Cz} {ρ ρ1 ρ2 ρ3 : List Sl} {ta tb te tx : TE} {t u : TT} {d d1 d2 d3 : PyData} {T : Tm} {H H' : Hp} {σ : L2.St}
variable {α β γ : Type} {f : α → PyData} {g : β → PyData} {e : γ → PyData} {P : α → Prop} {P2 : β → Prop} {P3 : γ → Prop}
theorem ew_drawD {i : Nat} {l : Bool} {a : Addr} {m : Int} {E : XK} (h : Ed c ρ te (.int m) ρ1) (hi0 : ρ[i]? = some (.mu l a (.any StOk))) (hi : ρ1[i]? = some (.mu l a (.any StOk))) (hp : 0 < m ∧ m < 2 ^ 30) :
    Ew c ρ (tCall (SpW c.K R_draw) [] E (tCons (tVar i) (tCons te tNil))) PyData.int (fun x => 0 ≤ x ∧ x < m) ρ1 :=
  ew_imp (ew_draw (ew_det (f := PyData.int) h) hi0 hi (fun n e => by subst e; exact hp)) fun x ⟨n, e, hx⟩ => by subst e; exact hx
theorem ew_pickLD {i : Nat} {l : Bool} {a : Addr} {f : α → PyData} {m : List α} {E : XK} (h : Ed c ρ te (.list (m.map f)) ρ1) (hi0 : ρ[i]? = some (.mu l a (.any StOk))) (hi : ρ1[i]? = some (.mu l a (.any StOk))) (hp : 0 < m.length ∧ m.length < 2 ^ 30) :
    Ew c ρ (tCall (SpW c.K R_pick) [] E (tCons (tVar i) (tCons te tNil))) f (fun x => x ∈ m) ρ1 :=
  ew_imp (ew_pickL (f := f) (ew_det (f := fun l : List α => .list (l.map f)) h) hi0 hi (fun n e => by subst e; exact hp)) fun x ⟨n, e, hx⟩ => by subst e; exact hx
theorem ew_pickTD {i : Nat} {l : Bool} {a : Addr} {f : α → PyData} {m : List α} {E : XK} (h : Ed c ρ te (.tuple (m.map f)) ρ1) (hi0 : ρ[i]? = some (.mu l a (.any StOk))) (hi : ρ1[i]? = some (.mu l a (.any StOk))) (hp : 0 < m.length ∧ m.length < 2 ^ 30) :
    Ew c ρ (tCall (SpW c.K R_pick) [] E (tCons (tVar i) (tCons te tNil))) f (fun x => x ∈ m) ρ1 :=
  ew_imp (ew_pickT (f := f) (ew_det (f := fun l : List α => .tuple (l.map f)) h) hi0 hi (fun n e => by subst e; exact hp)) fun x ⟨n, e, hx⟩ => by subst e; exact hx
theorem ew_callWD {R : List PyData → (PyData → Prop) → Prop} {ts : TA} {ds : List PyData} {E : XK} {i : Nat} {l : Bool} {a : Addr} (h : Ea c ρ ts (.raw (.ref a) :: ds.map .dat) ρ1) (hi : ρ1[i]? = some (.mu l a (.any StOk)))
    (hR : R ds (fun d => ∃ z, P3 z ∧ d = e z)) : Ew c ρ (tCall (SpW c.K R) [] E ts) e P3 ρ1 :=
  ew_imp (ew_callW (e := e) (P3 := fun (_ : Unit) z => P3 z) (ds := fun _ => ds) (ewa_det (x := ()) (as := fun _ => .raw (.ref a) :: ds.map .dat) h) hi (fun _ _ => hR)) fun z ⟨_, _, hz⟩ => hz
theorem ed_sumM {xs : List Int} {j : Nat} {l : Bool} {a : Addr} (ha : ρ[j]? = some (.mu l a (.lst (xs.map .int)))) : Ed c ρ (tCB (rSumT c.K) (tCons (tVar j) tNil)) (.int xs.sum) ρ := fun T σ H W Q q => by
  obtain ⟨h0, _, ys, h1, h2⟩ := W.ok j _ ha
  have := dpaInts h2
  subst this
  exact ⟨.ref a, h0, a, xs, rfl, .inr (sq_of h1), q _ H (W.push (.int _))⟩
theorem el_lcW1 {δ : Type} {wi : TI} {g : TG} {vs : List Nat} {xs : List δ} {ea : δ → Itm} {eb : γ → PyData} {R : δ → γ → Prop} (h : Ei c ρ wi (xs.map ea) ρ1) (hsz : xs.length ≤ 100000) (hvs : ∀ j ∈ vs, ρ1[j]? = some .no)
    (turn : ∀ (S : List Addr) (B : Hp) (x : δ), x ∈ xs → ∃ ρa, Nz.wipeS ρa vs = ρ1 ∧ Eg (c.at S B) g (ea x) ρ1 ρa vs ∧ Ew (c.at S B) ρa te eb (R x) ρa) :
    EwL c ρ (tLc wi g tYes te vs) (fun l : List γ => l.map eb) (fun l => Fa R xs l) ρ1 := fun T σ H W Q q =>
  el_lcW (xs := fun _ : Unit => xs) (R := fun _ => R) (eiw_det (x := ()) (its := fun _ => xs.map ea) h) (fun _ _ => hsz) hvs (fun S B _ x _ hx => turn S B x hx) T σ H W Q fun l p H' ⟨_, _, hf⟩ => q l p H' hf
variable {D : Ends} {nx bk ct : L2.St → Hp → Prop} {rt : VK}
theorem s_retP (h : Ew c ρ te f P ρ1) (hr : ∀ x, P x → Rt c (f x) [] D.rt) : Ss c T ρ (tRet te) D := fun σ H W => h T σ H W _ fun x v H1 px W1 => hr x px v H1 W1.keep (fun _ hp => by cases hp) (dpm hide_S0 W1.dp)
/-- the first state of a law -/
theorem s_state {i : Nat} {l : List Int} {s : Nat} (h : EdL c ρ te [.list (l.map .int), .int 0, .int 0, .int (s : Int)] ρ1) (k : ∀ p, Sk c T (ρ1.set i (.mu true p (.any StOk))) nx) : Ss c T ρ (tAsg te (gName i)) ⟨nx, rt, bk, ct⟩ :=
  s_asgM (i := i) h fun p σ H W => k p σ H (W.le ⟨by simp, fun j s s' h1 h2 => by
    rcases get_set h2 with ⟨rfl, hi, e⟩ | ⟨q, e⟩
    · rw [List.getElem?_set_self hi] at h1
      cases h1; subst e
      exact ⟨rfl, rfl, .inr ⟨_, _, rfl, rfl, ⟨l, 0, 0, _, rfl⟩⟩⟩
    · rw [List.getElem?_set_ne q] at h1
      rw [h1] at e; cases e
      exact slLe_refl _⟩)
end
end Nz

/-! lists or tuples; pairs that are quotients -/
namespace Nz
open PySem PySem.Spec PyProof.Rows L2 RZ
def eS {α : Type} (f : α → PyData) : Bool × List α → PyData
  | (true, l) => eL f l
  | (false, l) => eT f l
abbrev qp (r : Rat) : Int × Int := (r.num, (r.den : Int))
def qv (p : Int × Int) : Rat := Rat.divInt p.1 p.2
theorem qv_qp (r : Rat) : qv (qp r) = r := Rat.num_divInt_den r
section
variable {X : Cx} {e : Expr} {te : TE}
def iSeq (K : PySem.W.Frag) (te : TE) : TI := fun σ H R => iList K te σ H R ∨ iTup K te σ H R
theorem pi_seq {tg : Expr} (h : PE X e te) : PI X tg e (iSeq X.K te) := ⟨fun pins s σ H R I q => by
  rcases q with q | q
  · exact (pi_list h).run pins s σ H R I q
  · exact (pi_tup h).run pins s σ H R I q⟩
end
section
variable {c : Cz} {ρ ρ1 ρ2 : List Sl} {ta tb te : TE} {d : PyData} {T : Tm} {D : Ends} {nx bk ct : L2.St → Hp → Prop} {rt : VK}
theorem ei_seqX {α : Type} {f : α → PyData} {p : Bool × List α} (h : Ed c ρ te (eS f p) ρ1) : Ei c ρ (iSeq c.K te) (p.2.map fun x => Itm.hard (f x)) ρ1 := by
  obtain ⟨b, l⟩ := p
  cases b with
  | true => exact fun T σ H W R q => .inl (ei_listX (l := l) (f := f) h T σ H W R q)
  | false => exact fun T σ H W R q => .inr (ei_tupX (l := l) (f := f) h T σ H W R q)
/-- a, b = new list that will change, data -/
theorem s_parM1 {i j : Nat} {ds : List PyData} {y : PyData} (h : EdL c ρ ta ds ρ1) (h2 : ∀ S B, Ed (c.at S B) ρ1 tb y ρ1) (hij : i ≠ j) (k : ∀ p, Sk c T ((ρ1.set i (.mu true p (.lst ds))).set j (.da y)) nx) : Ss c T ρ (tPar i j (tCons ta (tCons tb tNil))) ⟨nx, rt, bk, ct⟩ := fun σ H W =>
  h T σ H W _ fun p H1 hB hn mo W1 => by
    obtain ⟨xs, hx, dx⟩ := mo
    have hs := W.sub
    have nS : p ∉ c.S0 := fun m => hn (List.mem_append_left _ m)
    have W2 : Wd (c.at (p :: c.S0) (upd c.B p (.lst xs))) (xs.zip ds ++ T) H1 σ ρ1 := (W1.pin hx hB hs nS).pushAll dx
    refine h2 _ _ _ σ H1 W2 _ fun v H2 W3 => ?_
    have lx := dpa_length dx
    obtain ⟨hp2, W4⟩ := W3.unpin hB (fun m => nS (hs p m))
    have hn4 := W4.notin nS hs
    have dx2 := Wd.allOf (T := T) lx W4.pop
    have W5 := W4.setM hs i (l := true) (o := .lst ds) (by rw [if_pos rfl]; exact hB) hn4 ⟨xs, hp2, dx2⟩
    have dy : Dz c.K (hide (hid c (ρ1.set i (.mu true p (.lst ds)))) H2) v y := W5.tmp (v, y) (List.mem_cons_self ..)
    have W6 := W5.setD j dy
    refine ⟨.ref p, v, rfl, ?_⟩
    exact k p _ _ (W6.tmps fun q hq => List.mem_cons_of_mem _ (List.mem_append_right _ hq))
end
end Nz

/-! the mathematics of quotients, for the defs that all laws share -/
namespace Nz
open PySem PySem.Spec PyProof.Rows L2 RZ

abbrev eN (n : Nat) : PyData := .int (n : Int)
def isIntD (d : PyData) : Bool := isi_int d && !isi_bool d
theorem gcd_turn (a b : Nat) : Nat.gcd b (a % b) = Nat.gcd a b := by rw [Nat.gcd_comm b, ← Nat.gcd_rec, Nat.gcd_comm]
theorem gcd_end {a b : Nat} {n : Nat} (h : Nat.gcd a b = n) (hb : decide ((0 : Int) < (b : Int)) = false) : PyData.int (a : Int) = eN n := by
  have : b = 0 := by have := of_decide_eq_false hb; omega
  subst this
  rw [Nat.gcd_zero_right] at h
  rw [h]
/-- both parts below 2 ^ 4400 -/
def Qb (r : Rat) : Prop := r.num.natAbs < 2 ^ 4400 ∧ r.den < 2 ^ 4400
theorem quo_gcd {a b : Int} (h : b ≠ 0) : 0 < (Nat.gcd a.natAbs b.natAbs : Int) := by
  have := Nat.gcd_pos_of_pos_right a.natAbs (show 0 < b.natAbs by omega)
  omega
theorem quo_le {a b : Int} (h : b ≠ 0) : Nat.gcd a.natAbs b.natAbs ≤ b.natAbs := Nat.le_of_dvd (by omega) (Nat.gcd_dvd_right _ _)
theorem eN_abs {i : Int} (h : 0 ≤ i) : PyData.int i = eN i.natAbs := by
  show PyData.int i = PyData.int (i.natAbs : Int)
  rw [show (i.natAbs : Int) = i by omega]
theorem quo_div {a b : Int} (h : b ≠ 0) (h2 : b.natAbs < 2 ^ 8999) {i : Int} : CDivG i (Nat.gcd a.natAbs b.natAbs : Int) := by
  have h3 := quo_le (a := a) h
  exact div_b (quo_gcd h) (Nat.lt_of_le_of_lt (by omega) h2)
theorem quo_num (a b : Int) (h : 0 < b) : (Rat.divInt a b).num = a / (Nat.gcd a.natAbs b.natAbs : Int) := by
  rw [Rat.num_divInt, Int.sign_eq_one_of_pos h, Int.one_mul, Int.gcd_comm]; rfl
theorem quo_den (a b : Int) (h : 0 < b) : ((Rat.divInt a b).den : Int) = b / (Nat.gcd a.natAbs b.natAbs : Int) := by
  rw [Rat.den_divInt, if_neg (by omega), Int.gcd_comm]
  show ((b.natAbs / Nat.gcd a.natAbs b.natAbs : Nat) : Int) = _
  rw [Int.natCast_ediv, show (b.natAbs : Int) = b by omega]
theorem quo_pos {a b : Int} (h0 : b ≠ 0) (h : decide (b < 0) = false) : PyData.tuple [.int (a / (Nat.gcd a.natAbs b.natAbs : Int)), .int (b / (Nat.gcd a.natAbs b.natAbs : Int))] = eQ (Rat.divInt a b) := by
  have hb : 0 < b := by have := of_decide_eq_false h; omega
  show _ = PyData.tuple [.int _, .int _]
  rw [quo_num a b hb, quo_den a b hb]
theorem quo_neg {a b : Int} (h : decide (b < 0) = true) : PyData.tuple [.int ((-a) / (Nat.gcd (-a).natAbs (-b).natAbs : Int)), .int ((-b) / (Nat.gcd (-a).natAbs (-b).natAbs : Int))] = eQ (Rat.divInt a b) := by
  have hb : 0 < -b := by have := of_decide_eq_true h; omega
  rw [← Rat.neg_divInt_neg]
  show _ = PyData.tuple [.int _, .int _]
  rw [quo_num (-a) (-b) hb, quo_den (-a) (-b) hb]
theorem den_ne (a : Rat) : (a.den : Int) ≠ 0 := by have := a.den_nz; omega
theorem q_add (a b : Rat) : Rat.divInt (a.num * b.den + b.num * a.den) (a.den * b.den) = a + b := by
  rw [Rat.add_def', ← Rat.divInt_ofNat]; push_cast; rfl
theorem q_sub (a b : Rat) : Rat.divInt (a.num * b.den - b.num * a.den) (a.den * b.den) = a - b := by
  rw [Rat.sub_def', ← Rat.divInt_ofNat]; push_cast; rfl
theorem q_mul (a b : Rat) : Rat.divInt (a.num * b.num) (a.den * b.den) = a * b := by
  rw [Rat.mul_def', ← Rat.divInt_ofNat]; push_cast; rfl
theorem q_div (a b : Rat) : Rat.divInt (a.num * b.den) (a.den * b.num) = a / b := by
  rw [Rat.div_def, Rat.inv_def]
  conv => rhs; rw [← Rat.num_divInt_den a, Rat.divInt_mul_divInt]
theorem den_nz2 (a b : Rat) : (a.den : Int) * (b.den : Int) ≠ 0 := Int.mul_ne_zero (den_ne a) (den_ne b)
theorem num_ne {b : Rat} (h : b ≠ 0) : b.num ≠ 0 := fun e => h (Rat.num_eq_zero.mp e)
theorem den_nz3 (a : Rat) {b : Rat} (h : b ≠ 0) : (a.den : Int) * b.num ≠ 0 := Int.mul_ne_zero (den_ne a) (num_ne h)
theorem lt_pow {a b : Nat} (ha : a < 2 ^ 4400) (hb : b < 2 ^ 4400) : a * b < 2 ^ 8999 :=
  Nat.lt_of_lt_of_le (Nat.mul_lt_mul'' ha hb) (by rw [← Nat.pow_add]; exact Nat.pow_le_pow_right (by decide) (by decide))
theorem den_lt2 {a b : Rat} (ha : Qb a) (hb : Qb b) : ((a.den : Int) * (b.den : Int)).natAbs < 2 ^ 8999 := by
  rw [Int.natAbs_mul]; exact lt_pow ha.2 hb.2
theorem den_lt3 {a b : Rat} (ha : Qb a) (hb : Qb b) : ((a.den : Int) * b.num).natAbs < 2 ^ 8999 := by
  rw [Int.natAbs_mul]; exact lt_pow ha.2 hb.1
theorem mul_nd {a b : Rat} (ha : Qb a) (hb : Qb b) : IntMulOk a.num (b.den : Int) := mul_b ha.1 (show ((b.den : Int)).natAbs < 2 ^ 4400 from hb.2)
theorem mul_dn {a b : Rat} (ha : Qb a) (hb : Qb b) : IntMulOk (a.den : Int) b.num := mul_b (show ((a.den : Int)).natAbs < 2 ^ 4400 from ha.2) hb.1
theorem mul_dd {a b : Rat} (ha : Qb a) (hb : Qb b) : IntMulOk (a.den : Int) (b.den : Int) := mul_b (show ((a.den : Int)).natAbs < 2 ^ 4400 from ha.2) (show ((b.den : Int)).natAbs < 2 ^ 4400 from hb.2)
theorem mul_nn {a b : Rat} (ha : Qb a) (hb : Qb b) : IntMulOk a.num b.num := mul_b ha.1 hb.1
end Nz

set_option exponentiation.threshold 10000
/-! quotients: sizes -/
namespace Nz
open PySem PySem.Spec PyProof.Rows L2 RZ
/-- both parts at most 2 ^ k -/
def Qk (k : Nat) (r : Rat) : Prop := r.num.natAbs ≤ 2 ^ k ∧ r.den ≤ 2 ^ k
theorem Qk.mono {j k : Nat} {r : Rat} (h : Qk j r) (hk : j ≤ k) : Qk k r := ⟨Nat.le_trans h.1 (Nat.pow_le_pow_right (by decide) hk), Nat.le_trans h.2 (Nat.pow_le_pow_right (by decide) hk)⟩
theorem Qk.qb {k : Nat} {r : Rat} (h : Qk k r) (hk : k < 4400) : Qb r := ⟨Nat.lt_of_le_of_lt h.1 (Nat.pow_lt_pow_right (by decide) hk), Nat.lt_of_le_of_lt h.2 (Nat.pow_lt_pow_right (by decide) hk)⟩
theorem Qk.gd {k : Nat} {r : Rat} (h : Qk k r) (hk : k < 1900) : Gd 1 1209 (eQ r) := gd_Q (Nat.lt_of_le_of_lt h.1 (Nat.pow_lt_pow_right (by decide) hk)) (Nat.lt_of_le_of_lt h.2 (Nat.pow_lt_pow_right (by decide) hk))
theorem div_natAbs_le {a : Int} {g : Nat} : (a / (g : Int)).natAbs ≤ a.natAbs := Int.natAbs_ediv_le_natAbs _ _
theorem divInt_le (a b : Int) (h : 0 < b) : (Rat.divInt a b).num.natAbs ≤ a.natAbs ∧ (Rat.divInt a b).den ≤ b.natAbs := by
  rw [quo_num a b h]
  refine ⟨div_natAbs_le, ?_⟩
  have := quo_den a b h
  have h2 := div_natAbs_le (a := b) (g := Nat.gcd a.natAbs b.natAbs)
  rw [← this] at h2
  exact h2
theorem Qk_divInt {k : Nat} {a b : Int} (h : 0 < b) (ha : a.natAbs ≤ 2 ^ k) (hb : b.natAbs ≤ 2 ^ k) : Qk k (Rat.divInt a b) := by
  obtain ⟨h1, h2⟩ := divInt_le a b h
  exact ⟨Nat.le_trans h1 ha, Nat.le_trans h2 hb⟩
theorem Qk_mul {j k : Nat} {r q : Rat} (h1 : Qk j r) (h2 : Qk k q) : Qk (j + k) (r * q) := by
  rw [← q_mul]
  have := r.den_nz
  have := q.den_nz
  refine Qk_divInt (Int.mul_pos (by omega) (by omega)) ?_ ?_
  · rw [Int.natAbs_mul, Nat.pow_add]; exact Nat.mul_le_mul h1.1 h2.1
  · rw [Int.natAbs_mul, Nat.pow_add]; exact Nat.mul_le_mul h1.2 h2.2
theorem Qk_zero (k : Nat) : Qk k 0 := ⟨Nat.zero_le _, Nat.one_le_two_pow⟩
theorem Qk_one (k : Nat) : Qk k 1 := ⟨Nat.one_le_two_pow, Nat.one_le_two_pow⟩
/-- a part of D, of at most M -/
def Bd (M D : Nat) (r : Rat) : Prop := 0 < D ∧ ∃ n : Int, n.natAbs ≤ M ∧ r = Rat.divInt n D
theorem Bd.qk {M D k : Nat} {r : Rat} (h : Bd M D r) (hM : M ≤ 2 ^ k) (hD : D ≤ 2 ^ k) : Qk k r := by
  obtain ⟨h0, n, hn, rfl⟩ := h
  exact Qk_divInt (by omega) (Nat.le_trans hn hM) (by simpa using hD)
theorem Bd.mono {M M' D : Nat} {r : Rat} (h : Bd M D r) (hM : M ≤ M') : Bd M' D r := by
  obtain ⟨h0, n, hn, e⟩ := h
  exact ⟨h0, n, Nat.le_trans hn hM, e⟩
theorem Bd_zero {M D : Nat} (h : 0 < D) : Bd M D 0 := ⟨h, 0, Nat.zero_le _, by rw [Rat.zero_divInt]⟩
theorem Bd_add {M M' D : Nat} {r q : Rat} (h1 : Bd M D r) (h2 : Bd M' D q) : Bd (M + M') D (r + q) := by
  obtain ⟨h0, n, hn, rfl⟩ := h1
  obtain ⟨_, m, hm, rfl⟩ := h2
  exact ⟨h0, n + m, Nat.le_trans (Int.natAbs_add_le _ _) (Nat.add_le_add hn hm), by rw [Rat.divInt_add_divInt _ _ (by omega) (by omega), ← Int.add_mul, Rat.divInt_mul_right (by omega)]⟩
theorem Bd_mul {M M' D D' : Nat} {r q : Rat} (h1 : Bd M D r) (h2 : Bd M' D' q) : Bd (M * M') (D * D') (r * q) := by
  obtain ⟨h0, n, hn, rfl⟩ := h1
  obtain ⟨h0', m, hm, rfl⟩ := h2
  exact ⟨Nat.mul_pos h0 h0', n * m, by rw [Int.natAbs_mul]; exact Nat.mul_le_mul hn hm, by rw [Rat.divInt_mul_divInt]; push_cast; rfl⟩
theorem Bd_div {a b : Int} {M : Nat} (h : 0 < b) (ha : a.natAbs ≤ M) : Bd M b.toNat (Rat.divInt a b) := ⟨by omega, a, ha, by rw [Int.toNat_of_nonneg (by omega)]⟩
/-! ### the law's own quotients -/
def Pb (p : Int × Int) : Prop := p.1.natAbs < 2 ^ 4400 ∧ p.2 ≠ 0 ∧ p.2.natAbs < 2 ^ 4400
theorem Qb.pb {r : Rat} (h : Qb r) : Pb (qp r) := ⟨h.1, den_ne r, h.2⟩
theorem pb_small {a b : Int} (ha : -(2 ^ 64) < a ∧ a < 2 ^ 64) (h0 : b ≠ 0) (hb : -(2 ^ 64) < b ∧ b < 2 ^ 64) : Pb (a, b) :=
  ⟨Nat.lt_of_lt_of_le (show a.natAbs < 2 ^ 64 by omega) (Nat.pow_le_pow_right (by decide) (by decide)), h0, Nat.lt_of_lt_of_le (show b.natAbs < 2 ^ 64 by omega) (Nat.pow_le_pow_right (by decide) (by decide))⟩
theorem pb_den {a b : Int × Int} (h0 : Pb a) (h1 : Pb b) : (a.2 * b.2).natAbs < 2 ^ 8999 := by rw [Int.natAbs_mul]; exact lt_pow h0.2.2 h1.2.2
theorem pb_add {a b : Int × Int} (h0 : Pb a) (h1 : Pb b) : qv a + qv b = Rat.divInt (a.1 * b.2 + b.1 * a.2) (a.2 * b.2) := Rat.divInt_add_divInt _ _ h0.2.1 h1.2.1
theorem pb_mul (a b : Int × Int) : qv a * qv b = Rat.divInt (a.1 * b.1) (a.2 * b.2) := Rat.divInt_mul_divInt _ _
theorem lawq_gcd {a : Nat × Nat} {n : Nat} (hP : Nat.gcd a.1 a.2 = n) (hb : decide ((0 : Int) < (a.2 : Int)) = false) : a.1 = n := by
  have : a.2 = 0 := by have := of_decide_eq_false hb; omega
  rw [this, Nat.gcd_zero_right] at hP
  exact hP
theorem lawq_pos {a : Nat × Nat} {up down : Int} (hP : Nat.gcd a.1 a.2 = Nat.gcd up.natAbs down.natAbs) (hb : decide ((0 : Int) < (a.2 : Int)) = false) (h : decide ((0 : Int) < down) = true) :
    PyData.tuple [.int (up / (a.1 : Int)), .int (down / (a.1 : Int))] = eQ (Rat.divInt up down) := by
  have hd := of_decide_eq_true h
  rw [lawq_gcd hP hb]
  exact quo_pos (by omega) (decide_eq_false (by omega))
theorem lawq_neg {a : Nat × Nat} {up down : Int} (hP : Nat.gcd a.1 a.2 = Nat.gcd up.natAbs down.natAbs) (hb : decide ((0 : Int) < (a.2 : Int)) = false) (h0 : down ≠ 0) (h : decide ((0 : Int) < down) = false) :
    PyData.tuple [.int ((0 - up) / (a.1 : Int)), .int ((0 - down) / (a.1 : Int))] = eQ (Rat.divInt up down) := by
  have hd := of_decide_eq_false h
  rw [lawq_gcd hP hb, Int.zero_sub, Int.zero_sub]
  have := quo_neg (a := up) (b := down) (decide_eq_true (by omega))
  rw [Int.natAbs_neg, Int.natAbs_neg] at this
  exact this
theorem lawq_div {a : Nat × Nat} {up down i : Int} (h0 : down ≠ 0) (h1 : down.natAbs < 2 ^ 8999) (hP : Nat.gcd a.1 a.2 = Nat.gcd up.natAbs down.natAbs) (hb : decide ((0 : Int) < (a.2 : Int)) = false) : CDivG i (a.1 : Int) := by
  rw [lawq_gcd hP hb]; exact quo_div h0 h1
theorem sumQ_step {l : List Rat} {i : Nat} {x : Rat} (h : l[i]? = some x) : (l.take i).sum + x = (l.take (i + 1)).sum := by
  rw [List.take_add_one, h]
  simp [Rat.add_zero]
theorem Bd_sum {M D : Nat} {l : List Rat} (hD : 0 < D) (h : ∀ r ∈ l, Bd M D r) : Bd (l.length * M) D l.sum := by
  induction l with
  | nil => exact Bd_zero hD
  | cons a l ih =>
    rw [List.sum_cons, List.length_cons, Nat.add_mul, Nat.one_mul, Nat.add_comm]
    exact Bd_add (h a (List.mem_cons_self ..)) (ih fun r hr => h r (List.mem_cons_of_mem _ hr))
theorem Bd.qb {M D : Nat} {r : Rat} (h : Bd M D r) (hM : M < 2 ^ 4400) (hD : D < 2 ^ 4400) : Qb r := by
  obtain ⟨h0, n, hn, rfl⟩ := h
  obtain ⟨h1, h2⟩ := divInt_le n D (by omega)
  exact ⟨Nat.lt_of_le_of_lt (Nat.le_trans h1 hn) hM, Nat.lt_of_le_of_lt (by simpa using h2) hD⟩
theorem sum_qb {l : List Rat} (h : ∃ M D, (∀ r ∈ l, Bd M D r) ∧ (l.length + 1) * M < 2 ^ 4400 ∧ 0 < D ∧ D < 2 ^ 4400) (i : Nat) {x : Rat} (hx : l[i]? = some x) : Qb (l.take i).sum ∧ Qb x := by
  obtain ⟨M, D, h1, h2, h3, h4⟩ := h
  have hM : ∀ k, k ≤ l.length + 1 → k * M < 2 ^ 4400 := fun k hk => Nat.lt_of_le_of_lt (Nat.mul_le_mul_right _ hk) h2
  refine ⟨(Bd_sum h3 fun r hr => h1 r (List.mem_of_mem_take hr)).qb (hM _ (by rw [List.length_take]; omega)) h4, (h1 x (List.mem_of_getElem? hx)).qb ?_ h4⟩
  have := hM 1 (by omega)
  omega
end Nz

/-! urns: the mathematics -/
namespace Nz
open PySem PySem.Spec PyProof.Rows L2 RZ
/-! ### binomials -/
def bin : Nat → Nat → Nat
  | _, 0 => 1
  | 0, _ + 1 => 0
  | n + 1, k + 1 => bin n k + bin n (k + 1)
theorem bin_zero (n : Nat) : bin n 0 = 1 := by cases n <;> rfl
theorem bin_gt : ∀ {n k : Nat}, n < k → bin n k = 0
  | 0, _ + 1, _ => rfl
  | n + 1, k + 1, h => by
    show bin n k + bin n (k + 1) = 0
    rw [bin_gt (by omega), bin_gt (by omega)]
theorem bin_self : ∀ n, bin n n = 1
  | 0 => rfl
  | n + 1 => by
    show bin n n + bin n (n + 1) = 1
    rw [bin_self, bin_gt (by omega)]
theorem bin_pos : ∀ {n k : Nat}, k ≤ n → 0 < bin n k
  | _, 0, _ => by rw [bin_zero]; decide
  | n + 1, k + 1, h => by
    show 0 < bin n k + bin n (k + 1)
    have := bin_pos (n := n) (k := k) (by omega)
    omega
theorem bin_le : ∀ n k, bin n k ≤ 2 ^ n
  | 0, 0 => by decide
  | 0, _ + 1 => by show 0 ≤ 1; decide
  | n + 1, 0 => by rw [bin_zero]; exact Nat.one_le_two_pow
  | n + 1, k + 1 => by
    show bin n k + bin n (k + 1) ≤ 2 ^ (n + 1)
    have := bin_le n k
    have := bin_le n (k + 1)
    rw [Nat.pow_succ]; omega
/-- (k + 1) C(n, k + 1) = (n - k) C(n, k) -/
theorem bin_step : ∀ n k, bin n (k + 1) * (k + 1) = bin n k * (n - k)
  | 0, k => by
    show 0 * (k + 1) = _
    rw [Nat.zero_sub, Nat.mul_zero, Nat.zero_mul]
  | n + 1, 0 => by
    have h : bin n 1 = n := by simpa [bin_zero] using bin_step n 0
    show (bin n 0 + bin n 1) * 1 = bin (n + 1) 0 * (n + 1)
    rw [bin_zero, bin_zero, h]
    omega
  | n + 1, k + 1 => by
    have h1 := bin_step n k
    have h2 := bin_step n (k + 1)
    show (bin n (k + 1) + bin n (k + 2)) * (k + 2) = (bin n k + bin n (k + 1)) * (n + 1 - (k + 1))
    by_cases hk : k ≤ n
    · by_cases hk2 : k = n
      · subst hk2
        rw [bin_gt (show k < k + 1 by omega), bin_gt (show k < k + 2 by omega)]
        simp
      · obtain ⟨m, rfl⟩ : ∃ m, n = k + 1 + m := ⟨n - (k + 1), by omega⟩
        rw [show k + 1 + m - k = m + 1 by omega] at h1
        rw [show k + 1 + m - (k + 1) = m by omega] at h2
        rw [show k + 1 + m + 1 - (k + 1) = m + 1 by omega]
        have e1 : (bin (k + 1 + m) (k + 1) + bin (k + 1 + m) (k + 2)) * (k + 2) = bin (k + 1 + m) (k + 1) * (k + 1) + bin (k + 1 + m) (k + 1) + bin (k + 1 + m) (k + 1 + 1) * (k + 1 + 1) := by
          rw [Nat.add_mul, Nat.mul_add _ (k + 1) 1, Nat.mul_one]
        rw [e1, h1, h2, Nat.add_mul]
        rw [Nat.mul_add (bin (k + 1 + m) (k + 1)) m 1, Nat.mul_one]
        omega
    · rw [bin_gt (show n < k + 1 by omega), bin_gt (show n < k + 2 by omega), bin_gt (show n < k by omega)]
      simp
theorem bin_next {n k : Nat} : bin n k * (n - k) / (k + 1) = bin n (k + 1) := by
  rw [← bin_step]; exact Nat.mul_div_cancel _ (by omega)
/-- what choose gives -/
def chI (n k : Int) : Int := if k < 0 ∨ n < k then 0 else (bin n.toNat k.toNat : Int)
theorem chI_nat {n k : Nat} : chI n k = (bin n k : Int) := by
  unfold chI
  by_cases h : n < k
  · rw [if_pos (.inr (by omega)), bin_gt h]; rfl
  · rw [if_neg (by omega)]; rfl
theorem bin_stepI {n : Int} {k : Nat} (h : (k : Int) < n) : ((bin n.toNat k : Nat) : Int) * (n - (k : Int)) / ((k : Int) + 1) = ((bin n.toNat (k + 1) : Nat) : Int) := by
  rw [← bin_next, Int.natCast_ediv, Int.natCast_mul]
  have : ((n.toNat - k : Nat) : Int) = n - k := by omega
  rw [this]; rfl
/-- also beyond the end -/
theorem bin_stepJ {n : Int} {k : Nat} (h : 0 ≤ n) : ((bin n.toNat k : Nat) : Int) * (n - (k : Int)) / ((k : Int) + 1) = ((bin n.toNat (k + 1) : Nat) : Int) := by
  by_cases hk : (k : Int) < n
  · exact bin_stepI hk
  · rw [bin_gt (show n.toNat < k + 1 by omega)]
    by_cases e : (k : Int) = n
    · rw [e, Int.sub_self, Int.mul_zero, Int.zero_ediv]; rfl
    · rw [bin_gt (show n.toNat < k by omega)]; simp
theorem chI_nonneg (n k : Int) : 0 ≤ chI n k := by unfold chI; split <;> omega
theorem chI_le {n k : Int} : (chI n k).natAbs ≤ 2 ^ n.toNat := by
  unfold chI
  split
  · simp
  · exact bin_le _ _
/-! ### urns -/
def UrnOk (urn : List Int) : Prop := 1 ≤ urn.length ∧ urn.length ≤ 6 ∧ (∀ x ∈ urn, 0 ≤ x ∧ x ≤ 60) ∧ 0 < urn.sum
def CntOk (urn counts : List Int) : Prop := counts.length = urn.length ∧ ∀ x ∈ counts, 0 ≤ x ∧ x ≤ 60
def DrwOk (urn draws : List Int) : Prop := draws.length ≤ 60 ∧ ∀ x ∈ draws, 0 ≤ x ∧ x < urn.length
theorem sum_nonneg {l : List Int} (h : ∀ x ∈ l, 0 ≤ x) : 0 ≤ l.sum := by
  induction l with
  | nil => simp
  | cons a l ih =>
    rw [List.sum_cons]
    have := h a (List.mem_cons_self ..)
    have := ih fun x hx => h x (List.mem_cons_of_mem _ hx)
    omega
theorem sum_le {l : List Int} {b : Int} (h : ∀ x ∈ l, x ≤ b) : l.sum ≤ b * l.length := by
  induction l with
  | nil => simp
  | cons a l ih =>
    rw [List.sum_cons, List.length_cons]
    have := h a (List.mem_cons_self ..)
    have := ih fun x hx => h x (List.mem_cons_of_mem _ hx)
    rw [Int.natCast_add, Int.mul_add]
    omega
theorem UrnOk.sum_le {urn : List Int} (h : UrnOk urn) : urn.sum ≤ 360 := by
  have := Nz.sum_le (b := 60) fun x hx => (h.2.2.1 x hx).2
  have := h.2.1
  omega
theorem all_id {α : Type} {l : List α} {f : α → Bool} (h : ∀ x ∈ l, f x = true) : (l.map f).all id = true := by
  rw [List.all_map, List.all_eq_true]
  exact h
theorem rng_get {n i x : Nat} (h : (List.range n)[i]? = some x) : x = i ∧ i < n := by
  have hi := (List.getElem?_eq_some_iff.mp h).1
  rw [List.length_range] at hi
  rw [List.getElem?_range hi] at h
  cases h
  exact ⟨rfl, hi⟩
theorem ch_out {n k : Int} (h : (decide (k < 0) || decide (n < k)) = true) : PyData.int 0 = PyData.int (chI n k) := by
  simp only [Bool.or_eq_true, decide_eq_true_eq] at h
  unfold chI; rw [if_pos h]
theorem ch_in {n k : Int} (h : (decide (k < 0) || decide (n < k)) = false) : PyData.int ((bin n.toNat (List.range k.toNat).length : Nat) : Int) = PyData.int (chI n k) := by
  simp only [Bool.or_eq_false_iff, decide_eq_false_iff_not] at h
  unfold chI; rw [if_neg (by omega), List.length_range]
/-- the product of the ways -/
def waysOf (l : List (Int × Int)) : Int := (l.map fun p => chI p.1 p.2).foldl (· * ·) 1
theorem waysOf_step {l : List (Int × Int)} {i : Nat} {p : Int × Int} (h : l[i]? = some p) : waysOf (l.take i) * chI p.1 p.2 = waysOf (l.take (i + 1)) := by
  unfold waysOf
  rw [List.take_add_one, h, List.map_append, List.foldl_append]
  rfl
theorem waysOf_nonneg (l : List (Int × Int)) : 0 ≤ waysOf l := by
  unfold waysOf
  suffices h : ∀ (l : List (Int × Int)) (a : Int), 0 ≤ a → 0 ≤ (l.map fun p => chI p.1 p.2).foldl (· * ·) a from h l 1 (by decide)
  intro l
  induction l with
  | nil => intro a h; exact h
  | cons p l ih => intro a h; exact ih _ (Int.mul_nonneg h (chI_nonneg _ _))
theorem waysOf_le {l : List (Int × Int)} (h : ∀ p ∈ l, p.1 ≤ 60) : (waysOf l).natAbs ≤ 2 ^ (60 * l.length) := by
  unfold waysOf
  suffices z : ∀ (l : List (Int × Int)), (∀ p ∈ l, p.1 ≤ 60) → ∀ (a : Int) (k : Nat), a.natAbs ≤ 2 ^ k → ((l.map fun p => chI p.1 p.2).foldl (· * ·) a).natAbs ≤ 2 ^ (k + 60 * l.length) by
    have := z l h 1 0 (by decide)
    rwa [Nat.zero_add] at this
  intro l
  induction l with
  | nil => intro _ a k h; exact h
  | cons p l ih =>
    intro h a k ha
    have e : k + 60 * (p :: l).length = (k + 60) + 60 * l.length := by rw [List.length_cons]; omega
    rw [e]
    refine ih (fun q hq => h q (List.mem_cons_of_mem _ hq)) _ _ ?_
    rw [Int.natAbs_mul, Nat.pow_add]
    refine Nat.mul_le_mul ha (Nat.le_trans chI_le (Nat.pow_le_pow_right (by decide) ?_))
    have := h p (List.mem_cons_self ..)
    omega
theorem urn_chk {urn : List Int} (h : UrnOk urn) : (!((List.map (fun x => ((isIntD (PyData.int x)) && ((decide ((0 : Int) ≤ x)) && (decide (x ≤ (60 : Int)))))) urn).all id) || decide (urn.sum = 0)) = false := by
  have h1 := h.2.2.2
  rw [all_id (fun x hx => by have := h.2.2.1 x hx; simp [isIntD, isi_int, isi_bool]; omega)]
  simp; omega
theorem waysOf_mul {urn counts : List Int} (h0 : UrnOk urn) (h1 : CntOk urn counts) {i : Nat} {p : Int × Int} (h : (urn.zip counts)[i]? = some p) : IntMulOk (waysOf ((urn.zip counts).take i)) (chI p.1 p.2) := by
  have hp := h0.2.2.1 p.1 (List.of_mem_zip (List.mem_of_getElem? h)).1
  refine mul_b (a := 361) (b := 61) (Nat.lt_of_le_of_lt (waysOf_le fun q hq => (h0.2.2.1 q.1 (List.of_mem_zip (List.mem_of_mem_take hq)).1).2) (Nat.pow_lt_pow_right (by decide) ?_)) (Nat.lt_of_le_of_lt chI_le (Nat.pow_lt_pow_right (by decide) (by omega)))
  have : ((urn.zip counts).take i).length ≤ urn.length := by rw [List.length_take, List.length_zip]; omega
  have := h0.2.1
  omega
theorem ch_small {urn : List Int} (h0 : UrnOk urn) (k : Int) : (chI urn.sum k).natAbs < 2 ^ 8999 :=
  Nat.lt_of_le_of_lt chI_le (Nat.pow_lt_pow_right (by decide) (by have := h0.sum_le; omega))
theorem cc_ret {urn counts : List Int} {w : Int} : eQ (if decide (chI urn.sum w = 0) = true then 0 else Rat.divInt (waysOf ((urn.zip counts).take (urn.zip counts).length)) (chI urn.sum w)) = eQ (Rat.divInt (waysOf (urn.zip counts)) (chI urn.sum w)) := by
  rw [List.take_length]
  by_cases h : chI urn.sum w = 0
  · rw [if_pos (decide_eq_true h), h, Rat.divInt_zero]
  · rw [if_neg (by simpa using h)]

/-! ### rows of draws -/
/-- the chance of the rest of a row -/
def rowGo : List Int → List Int → Int → Rat
  | _, [], _ => 1
  | there, c :: ds, a => if ixG there c ≤ 0 then 0 else Rat.divInt (ixG there c) there.sum * rowGo (there.set c.toNat (ixG there c + a)) ds a
def rowCh (urn draws : List Int) (added : Int) : Rat := rowGo urn draws added
theorem ixG_nn {l : List Int} {i : Int} (h : 0 ≤ i ∧ i < l.length) : ixG l i = l[i.toNat]'(by omega) := by
  unfold ixG atI
  rw [ixN_nn h]
  show (l[i.toNat]?).getD _ = _
  rw [List.getElem?_eq_getElem (by omega)]; rfl
theorem ixG_mem {l : List Int} {i : Int} (h : 0 ≤ i ∧ i < l.length) : ixG l i ∈ l := by rw [ixG_nn h]; exact List.getElem_mem _
structure RowOk (urn draws : List Int) (added : Int) (i : Nat) (b : List Int × Rat) : Prop where
  len : b.1.length = urn.length
  nn : ∀ x ∈ b.1, 0 ≤ x ∧ x ≤ 60 + 60 * (i : Int)
  val : b.2 * rowGo b.1 (draws.drop i) added = rowCh urn draws added
  sz : Qk (16 * i) b.2
theorem row_start {urn draws : List Int} {added : Int} (h : UrnOk urn) : RowOk urn draws added 0 (urn, 1) :=
  ⟨rfl, fun x hx => by have := h.2.2.1 x hx; omega, by rw [List.drop_zero, Rat.one_mul]; rfl, Qk_one _⟩
theorem mem_set {l : List Int} {i : Nat} {v x : Int} (h : x ∈ l.set i v) : x ∈ l ∨ x = v := List.mem_or_eq_of_mem_set h
theorem sum_ge {l : List Int} (h : ∀ x ∈ l, 0 ≤ x) : ∀ x ∈ l, x ≤ l.sum := by
  induction l with
  | nil => intro x hx; cases hx
  | cons a l ih =>
    intro x hx
    rw [List.sum_cons]
    have h0 := h a (List.mem_cons_self ..)
    have hs := sum_nonneg fun y hy => h y (List.mem_cons_of_mem _ hy)
    rcases List.mem_cons.mp hx with e | e
    · omega
    · have := ih (fun y hy => h y (List.mem_cons_of_mem _ hy)) x e
      omega
section
variable {urn draws : List Int} {added : Int} {i : Nat} {b : List Int × Rat} {x : Int}
theorem row_ix (hu : UrnOk urn) (hd : DrwOk urn draws) (h : RowOk urn draws added i b) (hx : draws[i]? = some x) : 0 ≤ x ∧ x < b.1.length := by
  have := hd.2 x (List.mem_of_getElem? hx)
  have := h.len
  omega
theorem row_i (hd : DrwOk urn draws) (hx : draws[i]? = some x) : i < 60 := by
  have := (List.getElem?_eq_some_iff.mp hx).1
  have := hd.1
  omega
theorem row_sum (hu : UrnOk urn) (hd : DrwOk urn draws) (h : RowOk urn draws added i b) (hx : draws[i]? = some x) (hc : decide (ixG b.1 x ≤ 0) = false) : 0 < b.1.sum ∧ b.1.sum ≤ 22000 ∧ 0 < ixG b.1 x ∧ ixG b.1 x ≤ 3660 := by
  have hi := row_i hd hx
  have hm := ixG_mem (row_ix hu hd h hx)
  have h1 := h.nn _ hm
  have h2 := sum_ge (fun y hy => (h.nn y hy).1) _ hm
  have h3 : b.1.sum ≤ (60 + 60 * (i : Int)) * b.1.length := Nz.sum_le fun y hy => (h.nn y hy).2
  have h4 : (b.1.length : Int) ≤ 6 := by have := h.len; have := hu.2.1; omega
  have hc := of_decide_eq_false hc
  have h5 : (60 + 60 * (i : Int)) * b.1.length ≤ 3600 * 6 := Int.mul_le_mul (by omega) h4 (by omega) (by omega)
  omega
theorem row_exit (hx : draws[i]? = some x) (h : RowOk urn draws added i b) (hc : decide (ixG b.1 x ≤ 0) = true) : eQ 0 = eQ (rowCh urn draws added) := by
  have e : draws.drop i = x :: draws.drop (i + 1) := by
    obtain ⟨hi, e⟩ := List.getElem?_eq_some_iff.mp hx
    rw [List.drop_eq_getElem_cons hi, e]
  have v := h.val
  rw [e, rowGo, if_pos (of_decide_eq_true hc), Rat.mul_zero] at v
  rw [v]
theorem row_q (hu : UrnOk urn) (hd : DrwOk urn draws) (h : RowOk urn draws added i b) (hx : draws[i]? = some x) (hc : decide (ixG b.1 x ≤ 0) = false) : Qk 16 (Rat.divInt (ixG b.1 x) b.1.sum) := by
  obtain ⟨h1, h2, h3, h4⟩ := row_sum hu hd h hx hc
  exact Qk_divInt h1 (by omega) (by omega)
theorem row_next (ha : -1 ≤ added ∧ added ≤ 60) (hu : UrnOk urn) (hd : DrwOk urn draws) (h : RowOk urn draws added i b) (hx : draws[i]? = some x) (hc : decide (ixG b.1 x ≤ 0) = false) :
    RowOk urn draws added (i + 1) (b.1.set x.toNat (ixG b.1 x + added), b.2 * Rat.divInt (ixG b.1 x) b.1.sum) := by
  obtain ⟨h1, h2, h3, h4⟩ := row_sum hu hd h hx hc
  have hm := h.nn _ (ixG_mem (row_ix hu hd h hx))
  refine ⟨by rw [List.length_set]; exact h.len, fun y hy => ?_, ?_, ?_⟩
  · rcases mem_set hy with e | e
    · have := h.nn y e; omega
    · omega
  · have e : draws.drop i = x :: draws.drop (i + 1) := by
      obtain ⟨hi, e⟩ := List.getElem?_eq_some_iff.mp hx
      rw [List.drop_eq_getElem_cons hi, e]
    have v := h.val
    have hc := of_decide_eq_false hc
    rw [e, rowGo, if_neg hc] at v
    rw [← v, Rat.mul_assoc]
  · have := Qk_mul h.sz (row_q hu hd h hx (by exact hc))
    rw [show 16 * i + 16 = 16 * (i + 1) by omega] at this
    exact this
theorem row_done (h : RowOk urn draws added draws.length b) : eQ b.2 = eQ (rowCh urn draws added) := by
  have v := h.val
  rw [List.drop_length, rowGo, Rat.mul_one] at v
  rw [v]
end
/-! ### waits -/
theorem urn_ix {urn : List Int} {colour : Int} (hu : UrnOk urn) (hc : 0 ≤ colour ∧ colour < urn.length) : 0 ≤ ixG urn colour ∧ ixG urn colour ≤ 60 ∧ ixG urn colour ≤ urn.sum := by
  have hm := ixG_mem hc
  have := hu.2.2.1 _ hm
  have := sum_ge (fun y hy => (hu.2.2.1 y hy).1) _ hm
  omega
def firstF (urn : List Int) (colour : Int) (k : Nat) : Rat := Rat.divInt (chI (urn.sum - ixG urn colour) (k : Int)) (chI urn.sum (k : Int)) * Rat.divInt (ixG urn colour) (urn.sum - (k : Int))
def firstN (urn : List Int) (colour : Int) : Nat := (if decide (0 < ixG urn colour) = true then urn.sum - ixG urn colour + 1 else 0).toNat
def firstL (urn : List Int) (colour : Int) : List Rat := (List.range (firstN urn colour)).map (firstF urn colour)
theorem firstL_step {urn : List Int} {colour : Int} {n i x : Nat} (h : (List.range n)[i]? = some x) : (((List.range i).map (firstF urn colour)) ++ [firstF urn colour x]).map eQ = ((List.range (i + 1)).map (firstF urn colour)).map eQ := by
  rw [(rng_get h).1, List.range_succ, List.map_append]; simp
theorem firstN_lt {urn : List Int} {colour : Int} {k : Nat} (hu : UrnOk urn) (hc : 0 ≤ colour ∧ colour < urn.length) (h : k < firstN urn colour) : 0 < ixG urn colour ∧ (k : Int) ≤ urn.sum - ixG urn colour := by
  unfold firstN at h
  have := urn_ix hu hc
  by_cases z : 0 < ixG urn colour
  · rw [if_pos (decide_eq_true z)] at h; omega
  · rw [if_neg (by simpa using z)] at h; simp at h
theorem inb {n : Nat} {i : Int} (h : 0 ≤ i ∧ i < n) : InB n i := ⟨by omega, h.2⟩
theorem small_lt {a : Int} (h : -(2 ^ 64) < a ∧ a < 2 ^ 64) : a.natAbs < 2 ^ 8999 := Nat.lt_of_lt_of_le (show a.natAbs < 2 ^ 64 by omega) (Nat.pow_le_pow_right (by decide) (by decide))
def meanW (urn : List Int) (colour many : Int) : Option Rat := if many ≤ ixG urn colour then some (Rat.divInt (many * (urn.sum + 1)) (ixG urn colour + 1)) else none
theorem chI_pos {n k : Int} (h : 0 ≤ k ∧ k ≤ n) : 0 < chI n k := by
  unfold chI
  rw [if_neg (by omega)]
  have := bin_pos (n := n.toNat) (k := k.toNat) (by omega)
  omega
theorem chI_Qk {m n k j : Int} {b : Nat} (h : 0 ≤ k ∧ k ≤ n) (hn : n ≤ b) (hm : m ≤ b) : Qk b (Rat.divInt (chI m j) (chI n k)) :=
  Qk_divInt (chI_pos h) (Nat.le_trans chI_le (Nat.pow_le_pow_right (by decide) (by omega))) (Nat.le_trans chI_le (Nat.pow_le_pow_right (by decide) (by omega)))
/-! ### how many rows are as good -/
def multi (draws : List Int) : Nat → Int × Int
  | 0 => (1, draws.length)
  | n + 1 => ((multi draws n).1 * chI (multi draws n).2 (draws.count (n : Int) : Nat), (multi draws n).2 - (draws.count (n : Int) : Nat))
theorem countP_split (l : List Int) (n : Nat) : (l.countP fun x => decide ((n : Int) ≤ x)) = (l.countP fun x => decide ((n : Int) + 1 ≤ x)) + l.count (n : Int) := by
  induction l with
  | nil => rfl
  | cons a l ih =>
    rw [List.countP_cons, List.countP_cons, List.count_cons, ih]
    by_cases h1 : (n : Int) ≤ a
    · by_cases h2 : (n : Int) + 1 ≤ a
      · have h3 : (a == (n : Int)) = false := by simp; omega
        simp [h1, h2, h3]; omega
      · have h3 : (a == (n : Int)) = true := by simp; omega
        simp [h1, h2, h3]; omega
    · have h2 : ¬ (n : Int) + 1 ≤ a := by omega
      have h3 : (a == (n : Int)) = false := by simp; omega
      simp [h1, h2, h3]
theorem multi_left {draws : List Int} (h : ∀ x ∈ draws, 0 ≤ x) : ∀ n, (multi draws n).2 = ((draws.countP fun x => decide ((n : Int) ≤ x) : Nat) : Int)
  | 0 => by
    show (draws.length : Int) = _
    rw [List.countP_eq_length.mpr fun x hx => by simpa using h x hx]
  | n + 1 => by
    show (multi draws n).2 - _ = _
    rw [multi_left h n, countP_split]
    push_cast
    omega
theorem multi_lo {draws : List Int} (h : ∀ x ∈ draws, 0 ≤ x) (n : Nat) : 0 ≤ (multi draws n).2 ∧ (multi draws n).2 ≤ draws.length := by
  rw [multi_left h n]
  have := List.countP_le_length (p := fun x => decide ((n : Int) ≤ x)) (l := draws)
  omega
theorem multi_sz {draws : List Int} (h : ∀ x ∈ draws, 0 ≤ x) (hl : draws.length ≤ 60) : ∀ n, (multi draws n).1.natAbs ≤ 2 ^ (60 * n)
  | 0 => Nat.le_refl _
  | n + 1 => by
    show ((multi draws n).1 * _).natAbs ≤ _
    rw [Int.natAbs_mul, Nat.mul_add, Nat.pow_add]
    have := multi_lo h n
    exact Nat.mul_le_mul (multi_sz h hl n) (Nat.le_trans chI_le (Nat.pow_le_pow_right (by decide) (by omega)))
theorem multi_nonneg (draws : List Int) : ∀ n, 0 ≤ (multi draws n).1
  | 0 => by show (0 : Int) ≤ 1; decide
  | n + 1 => Int.mul_nonneg (multi_nonneg draws n) (chI_nonneg _ _)
theorem multi_mul {draws : List Int} (h : ∀ x ∈ draws, 0 ≤ x) (hl : draws.length ≤ 60) {n : Nat} (hn : n < 100) : IntMulOk (multi draws n).1 (chI (multi draws n).2 (draws.count (n : Int) : Nat)) := by
  have := multi_lo h n
  exact mul_b (a := 6001) (b := 61) (Nat.lt_of_le_of_lt (multi_sz h hl n) (Nat.pow_lt_pow_right (by decide) (by omega))) (Nat.lt_of_le_of_lt chI_le (Nat.pow_lt_pow_right (by decide) (by omega)))

/-! ### spreads -/
def spA (own0 added w : Int) (rows : List Rat) (k : Nat) : Rat := rows[k]?.getD 0 * Rat.divInt (w - (own0 + (k : Int) * added)) w
def spB (own0 added w : Int) (rows : List Rat) (k : Nat) : Rat := rows[k]?.getD 0 * Rat.divInt (own0 + (k : Int) * added) w
/-- after j of the rows -/
def spPart (own0 added w : Int) (rows : List Rat) (j : Nat) : List Rat := (List.range (rows.length + 1)).map fun k => (if 0 < k ∧ k ≤ j then spB own0 added w rows (k - 1) else 0) + (if k < j then spA own0 added w rows k else 0)
def spNext (own0 added w : Int) (rows : List Rat) : List Rat := spPart own0 added w rows rows.length
def spL (urn : List Int) (colour added : Int) : Nat → List Rat
  | 0 => [1]
  | n + 1 => spNext (ixG urn colour) added (urn.sum + (n : Int) * added) (spL urn colour added n)
def spD (urn : List Int) (added : Int) : Nat → Nat
  | 0 => 1
  | n + 1 => spD urn added n * (urn.sum + (n : Int) * added).toNat
def SpOk (urn : List Int) (colour draws added : Int) : Prop := UrnOk urn ∧ (0 ≤ colour ∧ colour < urn.length) ∧ (0 ≤ draws ∧ draws ≤ 60) ∧ (-1 ≤ added ∧ added ≤ 60) ∧ (added = -1 → draws ≤ urn.sum)
section
variable {urn : List Int} {colour draws added own0 w : Int} {rows : List Rat} {i j n : Nat} {p : Rat × Nat}
theorem spPart_len : (spPart own0 added w rows j).length = rows.length + 1 := by unfold spPart; rw [List.length_map, List.length_range]
theorem spPart_get {k : Nat} (h : k ≤ rows.length) : (spPart own0 added w rows j)[k]? = some ((if 0 < k ∧ k ≤ j then spB own0 added w rows (k - 1) else 0) + (if k < j then spA own0 added w rows k else 0)) := by
  unfold spPart; rw [List.getElem?_map, List.getElem?_range (by omega)]; rfl
theorem ixG_Q {l : List Rat} {k : Nat} {v : Rat} (h : l[k]? = some v) : ixG l (k : Int) = v := ixG_nat h
theorem sp_init {n : Int} (h : n.toNat = rows.length + 1) : (List.replicate n.toNat [(0 : Rat)]).flatten = spPart own0 added w rows 0 := by
  apply List.ext_getElem?
  intro k
  have e : (List.replicate n.toNat [(0 : Rat)]).flatten = List.replicate n.toNat 0 := by
    generalize n.toNat = m
    induction m with
    | zero => rfl
    | succ m ih => rw [List.replicate_succ, List.replicate_succ, List.flatten_cons, ih]; rfl
  rw [e, h]
  by_cases hk : k ≤ rows.length
  · rw [spPart_get hk, List.getElem?_replicate, if_pos (by omega), if_neg (by omega), if_neg (by omega), Rat.add_zero]
  · rw [List.getElem?_eq_none_iff.mpr (by rw [List.length_replicate]; omega), List.getElem?_eq_none_iff.mpr (by rw [spPart_len]; omega)]
theorem en_get {α : Type} {l : List α} {i : Nat} {p : α × Nat} (h : l.zipIdx[i]? = some p) : p.2 = i ∧ l[i]? = some p.1 ∧ i < l.length := by
  rw [List.getElem?_zipIdx] at h
  cases e : l[i]? with
  | none => rw [e] at h; cases h
  | some a =>
    rw [e] at h
    cases h
    exact ⟨by simp, rfl, (List.getElem?_eq_some_iff.mp e).1⟩
theorem sp_up (hj : j < rows.length) : ixG (spPart own0 added w rows j) ((j : Int) + 1) = 0 := by
  rw [show (j : Int) + 1 = ((j + 1 : Nat) : Int) by omega, ixG_Q (spPart_get (by omega)), if_neg (by omega), if_neg (by omega), Rat.add_zero]
theorem sp_own (hj : j < rows.length) {F : List Rat} {v : Rat} (hF : F = (spPart own0 added w rows j).set (j + 1) v) : ixG F (j : Int) = if 0 < j then spB own0 added w rows (j - 1) else 0 := by
  subst hF
  have : ((spPart own0 added w rows j).set (j + 1) v)[j]? = some (if 0 < j then spB own0 added w rows (j - 1) else 0) := by
    rw [List.getElem?_set_ne (by omega), spPart_get (by omega)]
    rw [if_neg (show ¬ j < j by omega), Rat.add_zero]
    by_cases h : 0 < j
    · rw [if_pos h, if_pos ⟨h, Nat.le_refl _⟩]
    · rw [if_neg h, if_neg (fun q => h q.1)]
  exact ixG_Q this
theorem sp_step (h : rows.zipIdx[j]? = some p) :
    ((spPart own0 added w rows j).set (((p.2 : Int) + 1)).toNat (ixG (spPart own0 added w rows j) ((p.2 : Int) + 1) + p.1 * Rat.divInt (own0 + (p.2 : Int) * added) w)).set ((p.2 : Int)).toNat
      (ixG ((spPart own0 added w rows j).set (((p.2 : Int) + 1)).toNat (ixG (spPart own0 added w rows j) ((p.2 : Int) + 1) + p.1 * Rat.divInt (own0 + (p.2 : Int) * added) w)) (p.2 : Int) + p.1 * Rat.divInt (w - (own0 + (p.2 : Int) * added)) w)
      = spPart own0 added w rows (j + 1) := by
  obtain ⟨h1, h2, h3⟩ := en_get h
  rw [h1, show ((j : Int) + 1).toNat = j + 1 by omega, show ((j : Int)).toNat = j by omega, sp_up h3, Rat.zero_add, sp_own h3 rfl]
  have eB : p.1 * Rat.divInt (own0 + (j : Int) * added) w = spB own0 added w rows j := by unfold spB; rw [h2]; rfl
  have eA : p.1 * Rat.divInt (w - (own0 + (j : Int) * added)) w = spA own0 added w rows j := by unfold spA; rw [h2]; rfl
  rw [eA, eB]
  apply List.ext_getElem?
  intro k
  by_cases hk : k ≤ rows.length
  · rw [spPart_get hk]
    by_cases e1 : j = k
    · subst e1
      rw [List.getElem?_set_self (by rw [List.length_set, spPart_len]; omega), if_pos (show j < j + 1 by omega)]
      by_cases h0 : 0 < j
      · rw [if_pos h0, if_pos ⟨h0, by omega⟩]
      · rw [if_neg h0, if_neg (fun q => h0 q.1)]
    · rw [List.getElem?_set_ne e1]
      by_cases e2 : j + 1 = k
      · subst e2
        rw [List.getElem?_set_self (by rw [spPart_len]; omega), if_pos (by omega), if_neg (by omega), Rat.add_zero]; rfl
      · rw [List.getElem?_set_ne e2, spPart_get hk]
        have a1 : (0 < k ∧ k ≤ j) ↔ (0 < k ∧ k ≤ j + 1) := by omega
        have a2 : k < j ↔ k < j + 1 := by omega
        simp only [a1, a2]
  · rw [List.getElem?_eq_none_iff.mpr (by rw [List.length_set, List.length_set, spPart_len]; omega), List.getElem?_eq_none_iff.mpr (by rw [spPart_len]; omega)]
theorem spQ_len : ∀ n, (spL urn colour added n).length = n + 1
  | 0 => rfl
  | n + 1 => by show (spNext _ _ _ _).length = _; unfold spNext; rw [spPart_len, spQ_len n]
theorem sp_w (h : SpOk urn colour draws added) (hn : (n : Int) < draws) : 0 < urn.sum + (n : Int) * added ∧ urn.sum + (n : Int) * added ≤ 4000 := by
  obtain ⟨hu, hc, hd, ha, hm⟩ := h
  have h1 := hu.sum_le
  have h2 := hu.2.2.2
  have h3 : (n : Int) * added ≤ 59 * 60 := by
    by_cases z : 0 ≤ added
    · exact Int.mul_le_mul (by omega) (by omega) z (by omega)
    · have : added = -1 := by omega
      rw [this]; omega
  refine ⟨?_, by omega⟩
  by_cases z : 0 ≤ added
  · have := Int.mul_nonneg (show (0 : Int) ≤ n by omega) z
    omega
  · have e : added = -1 := by omega
    have := hm e
    rw [e]; omega
theorem sp_o (h : SpOk urn colour draws added) {k : Nat} (hk : k ≤ 60) : -60 ≤ ixG urn colour + (k : Int) * added ∧ ixG urn colour + (k : Int) * added ≤ 3660 := by
  obtain ⟨hu, hc, hd, ha, hm⟩ := h
  have h1 := urn_ix hu hc
  have h2 : (k : Int) * added ≤ 60 * 60 ∧ -60 ≤ (k : Int) * added := by
    by_cases z : 0 ≤ added
    · have := Int.mul_nonneg (show (0 : Int) ≤ k by omega) z
      exact ⟨Int.mul_le_mul (by omega) (by omega) z (by omega), by omega⟩
    · have : added = -1 := by omega
      rw [this]; omega
  omega
theorem spD_pos (h : SpOk urn colour draws added) : ∀ n : Nat, (n : Int) ≤ draws → 0 < spD urn added n
  | 0, _ => Nat.zero_lt_one
  | n + 1, hn => by
    have := sp_w h (n := n) (by omega)
    exact Nat.mul_pos (spD_pos h n (by omega)) (by omega)
theorem spD_le (h : SpOk urn colour draws added) : ∀ n : Nat, (n : Int) ≤ draws → spD urn added n ≤ 2 ^ (12 * n)
  | 0, _ => Nat.le_refl 1
  | n + 1, hn => by
    have := sp_w h (n := n) (by omega)
    rw [Nat.mul_add, Nat.pow_add]
    exact Nat.mul_le_mul (spD_le h n (by omega)) (show _ ≤ 4096 by omega)
theorem spGet {M D : Nat} (hD : 0 < D) (h : ∀ r ∈ rows, Bd M D r) (k : Nat) : Bd M D (rows[k]?.getD 0) := by
  cases e : rows[k]? with
  | none => exact Bd_zero hD
  | some v => exact h v (List.mem_of_getElem? e)
theorem spB_bd (h : SpOk urn colour draws added) (hn : (n : Int) < draws) {M D : Nat} (hD : 0 < D) (hr : ∀ r ∈ rows, Bd M D r) {k : Nat} (hk : k ≤ 60) :
    Bd (M * 2 ^ 13) (D * (urn.sum + (n : Int) * added).toNat) (spB (ixG urn colour) added (urn.sum + (n : Int) * added) rows k) := by
  have := sp_w h hn
  have := sp_o h hk
  exact Bd_mul (spGet hD hr k) (Bd_div (by omega) (by omega))
theorem spA_bd (h : SpOk urn colour draws added) (hn : (n : Int) < draws) {M D : Nat} (hD : 0 < D) (hr : ∀ r ∈ rows, Bd M D r) {k : Nat} (hk : k ≤ 60) :
    Bd (M * 2 ^ 13) (D * (urn.sum + (n : Int) * added).toNat) (spA (ixG urn colour) added (urn.sum + (n : Int) * added) rows k) := by
  have := sp_w h hn
  have := sp_o h hk
  exact Bd_mul (spGet hD hr k) (Bd_div (by omega) (by omega))
theorem spL_bd (h : SpOk urn colour draws added) : ∀ n : Nat, (n : Int) ≤ draws → ∀ r ∈ spL urn colour added n, Bd (2 ^ (14 * n)) (spD urn added n) r
  | 0, _ => fun r hr => by
    have : r = 1 := by simpa [spL] using hr
    subst this
    exact ⟨Nat.zero_lt_one, 1, Nat.le_refl 1, (by decide +kernel : (1 : Rat) = Rat.divInt 1 ((1 : Nat) : Int))⟩
  | n + 1, hn => fun r hr => by
    have ih := spL_bd h n (by omega)
    have hD := spD_pos h n (by omega)
    have hd := h.2.2.1
    have hw := sp_w h (n := n) (by omega)
    have hr : r ∈ spPart (ixG urn colour) added (urn.sum + (n : Int) * added) (spL urn colour added n) (spL urn colour added n).length := hr
    unfold spPart at hr
    obtain ⟨k, hk, rfl⟩ := List.mem_map.mp hr
    rw [List.mem_range, spQ_len] at hk
    rw [show 2 ^ (14 * (n + 1)) = 2 ^ (14 * n) * 2 ^ 13 + 2 ^ (14 * n) * 2 ^ 13 by rw [Nat.mul_add, Nat.pow_add]; omega]
    have hp : 0 < spD urn added n * (urn.sum + (n : Int) * added).toNat := Nat.mul_pos hD (by omega)
    refine Bd_add ?_ ?_
    · split
      · exact spB_bd h (by omega) hD ih (by omega)
      · exact Bd_zero hp
    · split
      · exact spA_bd h (by omega) hD ih (by omega)
      · exact Bd_zero hp
theorem spL_qk (h : SpOk urn colour draws added) (hn : (n : Int) ≤ draws) : ∀ r ∈ spL urn colour added n, Qk (14 * n) r := fun r hr =>
  (spL_bd h n hn r hr).qk (Nat.le_refl _) (Nat.le_trans (spD_le h n hn) (Nat.pow_le_pow_right (by decide) (by omega)))
/-- the sizes in the inner loop -/
theorem sp_in (h : SpOk urn colour draws added) (hn : (n : Int) < draws) (hp : (spL urn colour added n).zipIdx[j]? = some p) :
    (p.2 = j ∧ j ≤ n ∧ (spL urn colour added n)[j]? = some p.1) ∧ Qb p.1 ∧ Qb (Rat.divInt (ixG urn colour + (p.2 : Int) * added) (urn.sum + (n : Int) * added)) ∧ Qb (Rat.divInt (urn.sum + (n : Int) * added - (ixG urn colour + (p.2 : Int) * added)) (urn.sum + (n : Int) * added)) ∧
      Qb (p.1 * Rat.divInt (ixG urn colour + (p.2 : Int) * added) (urn.sum + (n : Int) * added)) ∧ Qb (p.1 * Rat.divInt (urn.sum + (n : Int) * added - (ixG urn colour + (p.2 : Int) * added)) (urn.sum + (n : Int) * added)) ∧
      Qb (ixG (spPart (ixG urn colour) added (urn.sum + (n : Int) * added) (spL urn colour added n) j) ((p.2 : Int) + 1)) ∧
      ∀ v, Qb (ixG ((spPart (ixG urn colour) added (urn.sum + (n : Int) * added) (spL urn colour added n) j).set ((p.2 : Int) + 1).toNat v) (p.2 : Int)) := by
  obtain ⟨h1, h2, h3⟩ := en_get hp
  rw [spQ_len] at h3
  have hd := h.2.2.1
  have hw := sp_w h hn
  have ho := sp_o h (k := j) (by omega)
  have q1 : Qk (14 * n) p.1 := spL_qk h (by omega) _ (List.mem_of_getElem? h2)
  have q2 : Qk 13 (Rat.divInt (ixG urn colour + (j : Int) * added) (urn.sum + (n : Int) * added)) := Qk_divInt hw.1 (by omega) (by omega)
  have q3 : Qk 13 (Rat.divInt (urn.sum + (n : Int) * added - (ixG urn colour + (j : Int) * added)) (urn.sum + (n : Int) * added)) := Qk_divInt hw.1 (by omega) (by omega)
  have hlt : j < (spL urn colour added n).length := by rw [spQ_len]; exact h3
  rw [h1]
  refine ⟨⟨rfl, by omega, h2⟩, q1.qb (by omega), q2.qb (by decide), q3.qb (by decide), (Qk_mul q1 q2).qb (by omega), (Qk_mul q1 q3).qb (by omega), ?_, fun v => ?_⟩
  · rw [sp_up hlt]; exact (Qk_zero 0).qb (by decide)
  · rw [show ((j : Int) + 1).toNat = j + 1 by omega, sp_own hlt rfl]
    split
    · have b := spB_bd h hn (spD_pos h n (by omega)) (spL_bd h n (by omega)) (k := j - 1) (by omega)
      have e1 : 2 ^ (14 * n) * 2 ^ 13 ≤ 2 ^ (14 * n + 13) := by rw [Nat.pow_add]; exact Nat.le_refl _
      have e2 : spD urn added n * (urn.sum + (n : Int) * added).toNat ≤ 2 ^ (14 * n + 13) := by
        rw [Nat.pow_add]
        refine Nat.mul_le_mul (Nat.le_trans (spD_le h n (by omega)) (Nat.pow_le_pow_right (by decide) (by omega))) (by omega)
      exact (b.qk e1 e2).qb (by omega)
    · exact (Qk_zero 0).qb (by decide)
end
theorem lawch_ret {many few : Int} (h : 0 ≤ many) : PyData.int (if (decide ((0 : Int) ≤ few) && decide (few ≤ many)) = true then ((bin many.toNat (List.range few.toNat).length : Nat) : Int) else 0) = PyData.int (chI many few) := by
  rw [List.length_range]
  unfold chI
  by_cases h1 : few < 0 ∨ many < few
  · rw [if_pos h1, if_neg (by simp; omega)]
  · rw [if_neg h1, if_pos (by simp; omega)]
theorem cut_last {α : Type} (l : List α) : cutX l none (some (-(1 : Int))) = l.take (l.length - 1) := by
  unfold cutX
  have e0 : HT.sIx l.length 0 none = 0 := rfl
  have e1 : HT.sIx l.length l.length (some (-(1 : Int))) = l.length - 1 := by
    unfold HT.sIx
    simp
    omega
  rw [e0, e1, List.drop_zero, Nat.sub_zero]
theorem cut_len {l : List Int} : (cutX l none (some (-(1 : Int)))).length ≤ l.length := by rw [cut_last, List.length_take]; omega
theorem urn_made {l : List Int} (hl : 1 ≤ l.length ∧ l.length ≤ 6) (hz : ∀ z ∈ l, 0 ≤ z ∧ z ≤ 60) : UrnOk (if decide (0 < l.sum) = true then l else cutX l none (some (-(1 : Int))) ++ [1]) := by
  by_cases h : 0 < l.sum
  · rw [if_pos (decide_eq_true h)]
    exact ⟨hl.1, hl.2, hz, h⟩
  · rw [if_neg (by simpa using h), cut_last]
    have hm : ∀ z ∈ l.take (l.length - 1), 0 ≤ z ∧ z ≤ 60 := fun z hz' => hz z (List.mem_of_mem_take hz')
    refine ⟨by simp, by rw [List.length_append, List.length_take]; simp; omega, fun z hz' => ?_, ?_⟩
    · rcases List.mem_append.mp hz' with m | m
      · exact hm z m
      · simp at m; omega
    · rw [List.sum_append]
      have := sum_nonneg fun z hz' => (hm z hz').1
      simp; omega
end Nz
set_option exponentiation.threshold 10000
/-! urns: rows may be exchanged; counts; spreads; waits -/
namespace Nz
open PySem PySem.Spec PyProof.Rows L2 RZ
theorem divI (a b : Int) : Rat.divInt a b = (a : Rat) / (b : Rat) := Rat.divInt_eq_div a b
/-! ### exchange -/
theorem sum_set {l : List Int} {i : Nat} (v : Int) (h : i < l.length) : (l.set i v).sum = l.sum - l[i] + v := by
  induction l generalizing i with
  | nil => simp at h
  | cons a l ih =>
    cases i with
    | zero => simp; omega
    | succ i =>
      have h' : i < l.length := by simpa using h
      rw [List.set_cons_succ, List.sum_cons, List.sum_cons, ih h']
      simp; omega
theorem sum_setG {l : List Int} {i : Int} (v : Int) (h : 0 ≤ i ∧ i < l.length) : (l.set i.toNat v).sum = l.sum - ixG l i + v := by
  rw [ixG_nn h]; exact sum_set v (by omega)
theorem ixG_set {l : List Int} {i j : Int} (v : Int) (hi : 0 ≤ i ∧ i < l.length) (hj : 0 ≤ j ∧ j < l.length) : ixG (l.set i.toNat v) j = if i = j then v else ixG l j := by
  rw [ixG_nn (by rw [List.length_set]; exact hj), List.getElem_set]
  by_cases e : i = j
  · rw [if_pos e, if_pos (by rw [e])]
  · rw [if_neg e, if_neg (by omega), ixG_nn hj]
theorem rowGo_swap {there : List Int} {c d : Int} {ds : List Int} {a : Int} (hc : 0 ≤ c ∧ c < there.length) (hd : 0 ≤ d ∧ d < there.length) : rowGo there (c :: d :: ds) a = rowGo there (d :: c :: ds) a := by
  by_cases e : c = d
  · subst e; rfl
  · simp only [rowGo]
    rw [ixG_set _ hc hd, ixG_set _ hd hc, if_neg e, if_neg (Ne.symm e), sum_setG _ hc, sum_setG _ hd]
    have e1 : (there.set c.toNat (ixG there c + a)).set d.toNat (ixG there d + a) = (there.set d.toNat (ixG there d + a)).set c.toNat (ixG there c + a) := List.set_comm _ _ (by omega)
    rw [e1]
    have s1 : there.sum - ixG there c + (ixG there c + a) = there.sum + a := by omega
    have s2 : there.sum - ixG there d + (ixG there d + a) = there.sum + a := by omega
    rw [s1, s2]
    simp only [divI]
    by_cases h1 : ixG there c ≤ 0
    · by_cases h2 : ixG there d ≤ 0
      · rw [if_pos h1, if_pos h2]
      · simp only [if_pos h1, if_neg h2, Rat.mul_zero]
    · by_cases h2 : ixG there d ≤ 0
      · simp only [if_neg h1, if_pos h2, Rat.mul_zero]
      · simp only [if_neg h1, if_neg h2]
        generalize rowGo _ ds a = R
        grind
theorem rowGo_perm {ds es : List Int} (h : ds.Perm es) {a : Int} : ∀ {there : List Int}, (∀ x ∈ ds, 0 ≤ x ∧ x < there.length) → rowGo there ds a = rowGo there es a := by
  induction h with
  | nil => intro _ _; rfl
  | cons x _ ih =>
    intro there hx
    simp only [rowGo]
    rw [ih fun y hy => by rw [List.length_set]; exact hx y (List.mem_cons_of_mem _ hy)]
  | swap x y l =>
    intro there hx
    exact rowGo_swap (hx y (by simp)) (hx x (by simp))
  | trans h1 h2 ih1 ih2 =>
    intro there hx
    rw [ih1 hx, ih2 fun y hy => hx y (h1.mem_iff.mpr hy)]
theorem rowCh_perm {urn ds es : List Int} {a : Int} (h : ds.Perm es) (hd : DrwOk urn ds) : rowCh urn es a = rowCh urn ds a := (rowGo_perm h hd.2).symm
theorem drw_perm {urn ds es : List Int} (h : ds.Perm es) (hd : DrwOk urn ds) : DrwOk urn es := ⟨by rw [← h.length_eq]; exact hd.1, fun x hx => hd.2 x (h.mem_iff.mpr hx)⟩
theorem cut_back {α : Type} (l : List α) (k : Int) (hk : 0 ≤ k ∧ k ≤ l.length) : cutX l (some k) none = l.drop k.toNat ∧ cutX l none (some k) = l.take k.toNat := by
  have h0 : HT.sIx l.length 0 none = 0 := rfl
  have h1 : HT.sIx l.length l.length none = l.length := rfl
  have h2 : ∀ d, HT.sIx l.length d (some k) = k.toNat := fun d => by
    show (if k < 0 then _ else min k.toNat l.length) = _
    rw [if_neg (by omega)]; omega
  unfold cutX
  rw [h0, h1, h2, h2]
  refine ⟨?_, by simp⟩
  rw [List.take_of_length_le (by rw [List.length_drop]; omega)]
theorem rot_perm {l : List Int} {k : Int} (hk : 0 ≤ k ∧ k ≤ l.length) : l.Perm (cutX l (some k) none ++ cutX l none (some k)) := by
  obtain ⟨e1, e2⟩ := cut_back l k hk
  rw [e1, e2]
  have := (List.perm_append_comm (l₁ := l.take k.toNat) (l₂ := l.drop k.toNat))
  rwa [List.take_append_drop] at this
theorem rows_ok {urn draws row : List Int} {cut : Int} (hd : DrwOk urn draws) (hk : 0 ≤ cut ∧ cut ≤ draws.length) (h : row ∈ [draws, draws.reverse, cutX draws (some cut) none ++ cutX draws none (some cut)]) : DrwOk urn row := by
  simp only [List.mem_cons, List.not_mem_nil, or_false] at h
  rcases h with rfl | rfl | rfl
  · exact hd
  · exact drw_perm (List.reverse_perm draws).symm hd
  · exact drw_perm (rot_perm hk) hd
theorem told_eq {urn draws : List Int} {cut added : Int} (hd : DrwOk urn draws) (hk : 0 ≤ cut ∧ cut ≤ draws.length) :
    eL eQ ([draws, draws.reverse, cutX draws (some cut) none ++ cutX draws none (some cut)].map fun row => rowCh urn row added) = eL eQ (List.replicate (3 : Int).toNat [rowCh urn draws added]).flatten := by
  simp only [List.map_cons, List.map_nil]
  rw [rowCh_perm (List.reverse_perm draws).symm hd, rowCh_perm (rot_perm hk) hd]
  rfl
/-- the size of a row's chance -/
theorem rowGo_sz {urn draws : List Int} {added : Int} (hu : UrnOk urn) (ha : -1 ≤ added ∧ added ≤ 60) (hd : DrwOk urn draws) : Qk 960 (rowCh urn draws added) := by
  suffices z : ∀ (n i : Nat) (b : List Int × Rat), draws.length = i + n → RowOk urn draws added i b → Qk 960 (rowCh urn draws added) from z draws.length 0 _ (by omega) (row_start hu)
  intro n
  induction n with
  | zero =>
    intro i b e h
    have v := h.val
    rw [List.drop_of_length_le (by omega), rowGo, Rat.mul_one] at v
    rw [← v]
    exact h.sz.mono (by have := hd.1; omega)
  | succ n ih =>
    intro i b e h
    have hi : i < draws.length := by omega
    have hx : draws[i]? = some draws[i] := List.getElem?_eq_getElem hi
    cases hc : decide (ixG b.1 draws[i] ≤ 0) with
    | true =>
      have := row_exit hx h hc
      have e2 : rowCh urn draws added = 0 := by
        have := congrArg (fun d => match d with | PyData.tuple [.int a, .int b] => Rat.divInt a b | _ => 0) this
        simp only [Rat.num_divInt_den] at this
        exact this.symm
      rw [e2]; exact Qk_zero _
    | false => exact ih (i + 1) _ (by omega) (row_next ha hu hd h hx hc)
/-! ### falling products -/
def fct : Nat → Nat
  | 0 => 1
  | n + 1 => (n + 1) * fct n
def ff (n : Nat) : Nat → Nat
  | 0 => 1
  | k + 1 => ff n k * (n - k)
theorem fct_pos : ∀ n, 0 < fct n
  | 0 => Nat.one_pos
  | n + 1 => Nat.mul_pos (by omega) (fct_pos n)
theorem ff_bin (n : Nat) : ∀ k, ff n k = bin n k * fct k
  | 0 => by rw [bin_zero]; rfl
  | k + 1 => by
    show ff n k * (n - k) = bin n (k + 1) * ((k + 1) * fct k)
    rw [ff_bin n k, ← Nat.mul_assoc, bin_step, Nat.mul_right_comm]
theorem ff_succ (n : Nat) : ∀ k, ff (n + 1) (k + 1) = (n + 1) * ff n k
  | 0 => by show 1 * (n + 1 - 0) = (n + 1) * 1; omega
  | k + 1 => by
    show ff (n + 1) (k + 1) * (n + 1 - (k + 1)) = (n + 1) * (ff n k * (n - k))
    rw [ff_succ n k, Nat.mul_assoc, show n + 1 - (k + 1) = n - k by omega]
theorem ff_fct (n : Nat) : ∀ k, k ≤ n → ff n k * fct (n - k) = fct n
  | 0, _ => by show 1 * fct (n - 0) = _; simp
  | k + 1, h => by
    show ff n k * (n - k) * fct (n - (k + 1)) = _
    rw [← ff_fct n k (by omega)]
    obtain ⟨m, hm⟩ : ∃ m, n - k = m + 1 := ⟨n - k - 1, by omega⟩
    rw [show n - (k + 1) = m by omega, hm, Nat.mul_assoc]
    rfl
def prodN (f : Nat → Nat) : Nat → Nat
  | 0 => 1
  | n + 1 => prodN f n * f n
theorem prodN_congr {f g : Nat → Nat} : ∀ {n : Nat}, (∀ k, k < n → f k = g k) → prodN f n = prodN g n
  | 0, _ => rfl
  | n + 1, h => by
    show prodN f n * f n = prodN g n * g n
    rw [prodN_congr fun k hk => h k (by omega), h n (by omega)]
theorem prodN_mul (f g : Nat → Nat) : ∀ n, prodN (fun k => f k * g k) n = prodN f n * prodN g n
  | 0 => rfl
  | n + 1 => by
    show prodN _ n * (f n * g n) = prodN f n * f n * (prodN g n * g n)
    rw [prodN_mul f g n]
    simp only [Nat.mul_assoc, Nat.mul_left_comm]
theorem prodN_upd {f g : Nat → Nat} {c x : Nat} (hx : f c = x * g c) : ∀ {n : Nat}, (∀ k, k < n → k ≠ c → f k = g k) → c < n → prodN f n = x * prodN g n
  | n + 1, h, hc => by
    show prodN f n * f n = x * (prodN g n * g n)
    by_cases e : c = n
    · subst e
      rw [prodN_congr fun k hk => h k (by omega) (by omega), hx]
      simp only [Nat.mul_assoc, Nat.mul_left_comm]
    · rw [prodN_upd hx (fun k hk => h k (by omega)) (by omega), h n (by omega) (Ne.symm e), Nat.mul_assoc]
theorem prodN_pos {f : Nat → Nat} (h : ∀ k, 0 < f k) : ∀ n, 0 < prodN f n
  | 0 => Nat.one_pos
  | n + 1 => Nat.mul_pos (prodN_pos h n) (h n)
def ixN' (l : List Int) (k : Nat) : Nat := (ixG l (k : Int)).toNat
/-- the ways to draw the row's counts, in order -/
def PF (there ds : List Int) : Nat := prodN (fun k => ff (ixN' there k) (ds.count (k : Int))) there.length
theorem rowGo_ff : ∀ (ds there : List Int), (∀ x ∈ there, 0 ≤ x) → (∀ x ∈ ds, 0 ≤ x ∧ x < there.length) → rowGo there ds (-1) * ((ff there.sum.toNat ds.length : Nat) : Rat) = ((PF there ds : Nat) : Rat)
  | [], there, h, _ => by
    have : PF there [] = 1 := by
      unfold PF
      have : ∀ n, prodN (fun k => ff (ixN' there k) (([] : List Int).count (k : Int))) n = 1 := fun n => by
        induction n with
        | zero => rfl
        | succ n ih => show prodN _ n * _ = 1; rw [ih]; rfl
      exact this _
    rw [this]
    show (1 : Rat) * ((1 : Nat) : Rat) = ((1 : Nat) : Rat)
    rw [Rat.one_mul]
  | c :: ds, there, h, hd => by
    have hc := hd c (List.mem_cons_self ..)
    have hm := ixG_mem hc
    have hx0 := h _ hm
    have hs := sum_ge h _ hm
    have hcc : c = ((c.toNat : Nat) : Int) := by omega
    simp only [rowGo]
    by_cases h1 : ixG there c ≤ 0
    · rw [if_pos h1, Rat.zero_mul]
      have : PF there (c :: ds) = 0 := by
        unfold PF
        have := prodN_upd (f := fun k => ff (ixN' there k) ((c :: ds).count (k : Int))) (g := fun k => ff (ixN' there k) ((c :: ds).count (k : Int))) (c := c.toNat) (x := 0) (by
          show ff (ixN' there c.toNat) _ = 0 * _
          have e0 : ixN' there c.toNat = 0 := by unfold ixN'; rw [← hcc]; omega
          rw [e0, ← hcc, List.count_cons_self, Nat.zero_mul]
          generalize ds.count c = m
          induction m with
          | zero => rfl
          | succ m ih => show ff 0 (m + 1) * _ = 0; rw [ih, Nat.zero_mul]) (n := there.length) (fun _ _ _ => rfl) (by omega)
        rw [this, Nat.zero_mul]
      rw [this]; rfl
    · rw [if_neg h1]
      have hx : 0 < ixG there c := by omega
      have hsum := sum_setG (ixG there c + -1) hc
      have ih := rowGo_ff ds (there.set c.toNat (ixG there c + -1)) (fun y hy => by
        rcases mem_set hy with m | m
        · exact h y m
        · omega) (fun y hy => by rw [List.length_set]; exact hd y (List.mem_cons_of_mem _ hy))
      have es : (there.set c.toNat (ixG there c + -1)).sum.toNat = there.sum.toNat - 1 := by rw [hsum]; omega
      rw [es] at ih
      have ef : ff there.sum.toNat (c :: ds).length = there.sum.toNat * ff (there.sum.toNat - 1) ds.length := by
        rw [List.length_cons]
        obtain ⟨m, hm⟩ : ∃ m, there.sum.toNat = m + 1 := ⟨there.sum.toNat - 1, by omega⟩
        rw [hm, ff_succ]; rfl
      have ep : PF there (c :: ds) = (ixG there c).toNat * PF (there.set c.toNat (ixG there c + -1)) ds := by
        unfold PF
        rw [List.length_set]
        refine prodN_upd (c := c.toNat) ?_ (fun k hk hne => ?_) (by omega)
        · show ff (ixN' there c.toNat) ((c :: ds).count ((c.toNat : Nat) : Int)) = (ixG there c).toNat * ff (ixN' (there.set c.toNat (ixG there c + -1)) c.toNat) (ds.count ((c.toNat : Nat) : Int))
          unfold ixN'
          rw [← hcc, List.count_cons_self, ixG_set _ hc hc, if_pos rfl]
          obtain ⟨m, hm⟩ : ∃ m, (ixG there c).toNat = m + 1 := ⟨(ixG there c).toNat - 1, by omega⟩
          rw [show (ixG there c + -1).toNat = m by omega, hm, ff_succ]
        · show ff (ixN' there k) ((c :: ds).count (k : Int)) = ff (ixN' (there.set c.toNat (ixG there c + -1)) k) (ds.count (k : Int))
          unfold ixN'
          rw [ixG_set _ hc (show 0 ≤ (k : Int) ∧ (k : Int) < there.length by omega), if_neg (by omega), List.count_cons_of_ne (by omega)]
      rw [ef, ep, divI]
      rw [Rat.natCast_mul, Rat.natCast_mul, ← ih]
      have c1 : ((there.sum.toNat : Nat) : Rat) = ((there.sum : Int) : Rat) := by rw [← Rat.intCast_natCast]; congr 1; omega
      have c2 : (((ixG there c).toNat : Nat) : Rat) = ((ixG there c : Int) : Rat) := by rw [← Rat.intCast_natCast]; congr 1; omega
      rw [c1, c2]
      have hne : ((there.sum : Int) : Rat) ≠ 0 := by
        intro q
        have : there.sum = 0 := by exact_mod_cast q
        omega
      generalize rowGo _ ds (-1) = R
      generalize ((ff (there.sum.toNat - 1) ds.length : Nat) : Rat) = F
      grind
/-- more drawn than is there -/
theorem rowGo_over : ∀ (ds there : List Int), (∀ x ∈ there, 0 ≤ x) → (∀ x ∈ ds, 0 ≤ x ∧ x < there.length) → there.sum < ds.length → rowGo there ds (-1) = 0
  | [], there, h, _, hl => by have := sum_nonneg h; simp at hl; omega
  | c :: ds, there, h, hd, hl => by
    have hc := hd c (List.mem_cons_self ..)
    simp only [rowGo]
    by_cases h1 : ixG there c ≤ 0
    · rw [if_pos h1]
    · rw [if_neg h1, rowGo_over ds _ (fun y hy => by
        rcases mem_set hy with m | m
        · exact h y m
        · omega) (fun y hy => by rw [List.length_set]; exact hd y (List.mem_cons_of_mem _ hy)) (by rw [sum_setG _ hc]; simp at hl; omega), Rat.mul_zero]
/-! ### counts -/
def cntL (urn draws : List Int) : List Int := (List.range urn.length).map fun (x : Nat) => ((draws.count (x : Int) : Nat) : Int)
def wayN (urn counts : List Int) : Nat → Int
  | 0 => 1
  | n + 1 => wayN urn counts n * chI (ixG urn (n : Int)) (ixG counts (n : Int))
theorem cntL_len {urn draws : List Int} : (cntL urn draws).length = urn.length := by unfold cntL; rw [List.length_map, List.length_range]
theorem cntL_ix {urn draws : List Int} {k : Nat} (h : k < urn.length) : ixG (cntL urn draws) (k : Int) = ((draws.count (k : Int) : Nat) : Int) := ixG_nat (by unfold cntL; rw [List.getElem?_map, List.getElem?_range h]; rfl)
theorem cnt_left (draws : List Int) : ∀ n, (multi draws n).2 = draws.length - ((List.range n).map fun (x : Nat) => ((draws.count (x : Int) : Nat) : Int)).sum
  | 0 => by show (draws.length : Int) = _; simp
  | n + 1 => by
    show (multi draws n).2 - _ = _
    rw [cnt_left draws n, List.range_succ, List.map_append, List.sum_append]
    simp; omega
theorem left_end {urn draws : List Int} (hd : DrwOk urn draws) : (multi draws urn.length).2 = 0 := by
  rw [multi_left fun x hx => (hd.2 x hx).1]
  have : (draws.countP fun x => decide ((urn.length : Int) ≤ x)) = 0 := by
    rw [List.countP_eq_zero]
    intro x hx
    have := hd.2 x hx
    simp; omega
  rw [this]; rfl
theorem cntL_sum {urn draws : List Int} (hd : DrwOk urn draws) : (cntL urn draws).sum = draws.length := by
  have h1 := cnt_left draws urn.length
  rw [left_end hd] at h1
  unfold cntL
  omega
theorem multi_fct {draws : List Int} (h : ∀ x ∈ draws, 0 ≤ x) : ∀ n, (multi draws n).1.toNat * prodN (fun k => fct (draws.count (k : Int))) n * fct (multi draws n).2.toNat = fct draws.length
  | 0 => by show (1 : Int).toNat * 1 * fct ((draws.length : Int)).toNat = _; simp
  | n + 1 => by
    have ih := multi_fct h n
    have hl := multi_lo h n
    have hl' := multi_lo h (n + 1)
    have hn := multi_nonneg draws n
    have e2 : (multi draws (n + 1)).2 = (multi draws n).2 - (draws.count (n : Int) : Nat) := rfl
    have e1 : (multi draws (n + 1)).1 = (multi draws n).1 * chI (multi draws n).2 (draws.count (n : Int) : Nat) := rfl
    have hc : draws.count (n : Int) ≤ (multi draws n).2.toNat := by omega
    rw [e1, e2]
    have e3 : ((multi draws n).1 * chI (multi draws n).2 (draws.count (n : Int) : Nat)).toNat = (multi draws n).1.toNat * bin (multi draws n).2.toNat (draws.count (n : Int)) := by
      have : chI (multi draws n).2 (draws.count (n : Int) : Nat) = ((bin (multi draws n).2.toNat (draws.count (n : Int)) : Nat) : Int) := by
        rw [← chI_nat]; congr 1; omega
      rw [this, Int.toNat_mul hn (by omega)]; rfl
    rw [e3, ← ih]
    have e4 : ((multi draws n).2 - (draws.count (n : Int) : Nat)).toNat = (multi draws n).2.toNat - draws.count (n : Int) := by omega
    rw [e4, ← ff_fct _ _ hc, ff_bin]
    show _ * (prodN _ n * fct _) * _ = _
    simp only [Nat.mul_assoc, Nat.mul_left_comm]
theorem wayN_nat {urn draws : List Int} (hu : ∀ x ∈ urn, 0 ≤ x) : ∀ n, n ≤ urn.length → wayN urn (cntL urn draws) n = ((prodN (fun k => bin (ixN' urn k) (draws.count (k : Int))) n : Nat) : Int)
  | 0, _ => rfl
  | n + 1, h => by
    show wayN urn _ n * chI _ _ = ((prodN _ n * _ : Nat) : Int)
    rw [wayN_nat hu n (by omega), cntL_ix (by omega), Int.natCast_mul]
    congr 1
    have := hu _ (ixG_mem (l := urn) (i := (n : Int)) (by omega))
    rw [← chI_nat]
    congr 1
    unfold ixN'; omega
theorem waysOf_wayN {urn counts : List Int} (hl : counts.length = urn.length) : ∀ n, n ≤ urn.length → waysOf ((urn.zip counts).take n) = wayN urn counts n
  | 0, _ => rfl
  | n + 1, h => by
    have h1 : urn[n]? = some urn[n] := List.getElem?_eq_getElem (by omega)
    have h2 : counts[n]? = some counts[n] := List.getElem?_eq_getElem (by omega)
    have hz : (urn.zip counts)[n]? = some (urn[n], counts[n]) := by rw [List.getElem?_zip_eq_some]; exact ⟨h1, h2⟩
    rw [← waysOf_step hz, waysOf_wayN hl n (by omega)]
    show _ = wayN urn counts n * chI (ixG urn (n : Int)) (ixG counts (n : Int))
    rw [ixG_nat h1, ixG_nat h2]
theorem ways_all {urn draws : List Int} : waysOf (urn.zip (cntL urn draws)) = wayN urn (cntL urn draws) urn.length := by
  rw [← waysOf_wayN cntL_len urn.length (Nat.le_refl _), List.take_of_length_le (by rw [List.length_zip]; omega)]
theorem nn_of {urn : List Int} (hu : UrnOk urn) : ∀ x ∈ urn, 0 ≤ x := fun x hx => (hu.2.2.1 x hx).1
/-- a row's chance, and how many rows are as good -/
theorem due_eq {urn draws : List Int} (hu : UrnOk urn) (hd : DrwOk urn draws) : rowCh urn draws (-1) * (((multi draws urn.length).1 : Int) : Rat) = Rat.divInt (wayN urn (cntL urn draws) urn.length) (chI urn.sum (draws.length : Int)) := by
  have hS := hu.2.2.2
  by_cases hlt : urn.sum < draws.length
  · have e1 : rowCh urn draws (-1) = 0 := rowGo_over draws urn (nn_of hu) hd.2 hlt
    have e2 : chI urn.sum (draws.length : Int) = 0 := by unfold chI; rw [if_pos (.inr hlt)]
    rw [e1, e2, Rat.zero_mul, Rat.divInt_zero]
  · have h1 := rowGo_ff draws urn (nn_of hu) hd.2
    have h2 := multi_fct (fun x hx => (hd.2 x hx).1) urn.length
    rw [left_end hd] at h2
    have h2 : (multi draws urn.length).1.toNat * prodN (fun k => fct (draws.count (k : Int))) urn.length = fct draws.length := by simpa [fct] using h2
    have h3 : PF urn draws = prodN (fun k => bin (ixN' urn k) (draws.count (k : Int))) urn.length * prodN (fun k => fct (draws.count (k : Int))) urn.length := by
      unfold PF
      rw [← prodN_mul]
      exact prodN_congr fun k _ => ff_bin _ _
    have h4 := ff_bin urn.sum.toNat draws.length
    have h5 := wayN_nat (draws := draws) (nn_of hu) urn.length (Nat.le_refl _)
    have h6 : chI urn.sum (draws.length : Int) = ((bin urn.sum.toNat draws.length : Nat) : Int) := by rw [← chI_nat]; congr 1; omega
    have hb := bin_pos (n := urn.sum.toNat) (k := draws.length) (by omega)
    have hf := prodN_pos (f := fun k => fct (draws.count (k : Int))) (fun k => fct_pos _) urn.length
    have hF := fct_pos draws.length
    have hm : (((multi draws urn.length).1 : Int) : Rat) = (((multi draws urn.length).1.toNat : Nat) : Rat) := by
      rw [← Rat.intCast_natCast]; congr 1
      have := multi_nonneg draws urn.length
      omega
    rw [h5, h6, divI, hm]
    rw [h3, h4] at h1
    have h1' : rowGo urn draws (-1) * (((bin urn.sum.toNat draws.length : Nat) : Rat) * ((fct draws.length : Nat) : Rat)) = ((prodN (fun k => bin (ixN' urn k) (draws.count (k : Int))) urn.length : Nat) : Rat) * ((prodN (fun k => fct (draws.count (k : Int))) urn.length : Nat) : Rat) := by
      rw [← Rat.natCast_mul, ← Rat.natCast_mul]; exact h1
    have h2' : (((multi draws urn.length).1.toNat : Nat) : Rat) * ((prodN (fun k => fct (draws.count (k : Int))) urn.length : Nat) : Rat) = ((fct draws.length : Nat) : Rat) := by
      rw [← Rat.natCast_mul, h2]
    have nb : ((bin urn.sum.toNat draws.length : Nat) : Rat) ≠ 0 := fun q => absurd (show bin urn.sum.toNat draws.length = 0 by exact_mod_cast q) (by omega)
    have nf : ((prodN (fun k => fct (draws.count (k : Int))) urn.length : Nat) : Rat) ≠ 0 := fun q => absurd (show prodN (fun k => fct (draws.count (k : Int))) urn.length = 0 by exact_mod_cast q) (by omega)
    rw [Rat.intCast_natCast, Rat.intCast_natCast]
    show rowGo urn draws (-1) * _ = _
    generalize rowGo urn draws (-1) = R at *
    generalize ((bin urn.sum.toNat draws.length : Nat) : Rat) = B at *
    generalize ((prodN (fun k => fct (draws.count (k : Int))) urn.length : Nat) : Rat) = F at *
    generalize ((prodN (fun k => bin (ixN' urn k) (draws.count (k : Int))) urn.length : Nat) : Rat) = W at *
    generalize (((multi draws urn.length).1.toNat : Nat) : Rat) = M at *
    generalize ((fct draws.length : Nat) : Rat) = G at *
    subst h2'
    have : R * M * B * F = W * F := by grind
    grind
theorem qv_one (k : Int) : qv (k, 1) = (k : Rat) := by unfold qv; rw [divI]; show (k : Rat) / ((1 : Int) : Rat) = _; grind
theorem rows_fin {urn draws : List Int} {added : Int} {n m : Nat} (hn : n = urn.length) (hm : m = urn.length) (hu : UrnOk urn) (hd : DrwOk urn draws) :
    (!decide (added = -(1 : Int)) || decide (rowCh urn draws added * qv ((multi draws n).1, 1) = (if decide ((cntL urn draws).sum ≤ urn.sum) = true then Rat.divInt (wayN urn (cntL urn draws) m) (chI urn.sum (cntL urn draws).sum) else 0))) = true := by
  subst hn; subst hm
  by_cases h : added = -1
  · subst h
    rw [cntL_sum hd, qv_one, due_eq hu hd]
    by_cases z : (draws.length : Int) ≤ urn.sum
    · rw [if_pos (decide_eq_true z)]; simp
    · have : chI urn.sum (draws.length : Int) = 0 := by unfold chI; rw [if_pos (.inr (by omega))]
      rw [if_neg (by simpa using z), this, Rat.divInt_zero]; simp
  · simp [h]
/-- what chance_of_counts gives, and what is due -/
theorem counts_eq {urn draws : List Int} {m : Nat} (hm : m = urn.length) : eQ (Rat.divInt (waysOf (urn.zip (cntL urn draws))) (chI urn.sum (cntL urn draws).sum)) = eQ (if decide ((cntL urn draws).sum ≤ urn.sum) = true then Rat.divInt (wayN urn (cntL urn draws) m) (chI urn.sum (cntL urn draws).sum) else 0) := by
  subst hm
  rw [ways_all]
  by_cases z : (cntL urn draws).sum ≤ urn.sum
  · rw [if_pos (decide_eq_true z)]
  · have : chI urn.sum (cntL urn draws).sum = 0 := by unfold chI; rw [if_pos (.inr (by omega))]
    rw [if_neg (by simpa using z), this, Rat.divInt_zero]
theorem wayN_sz {urn draws : List Int} (hu : UrnOk urn) : ∀ n, n ≤ urn.length → (wayN urn (cntL urn draws) n).natAbs ≤ 2 ^ (60 * n)
  | 0, _ => Nat.le_refl 1
  | n + 1, h => by
    show (wayN urn _ n * chI _ _).natAbs ≤ _
    rw [Int.natAbs_mul, Nat.mul_add, Nat.pow_add]
    have := hu.2.2.1 _ (ixG_mem (l := urn) (i := (n : Int)) (by omega))
    exact Nat.mul_le_mul (wayN_sz hu n (by omega)) (Nat.le_trans chI_le (Nat.pow_le_pow_right (by decide) (by omega)))
theorem wayN_mul {urn draws : List Int} (hu : UrnOk urn) {n : Nat} (h : n < urn.length) : IntMulOk (wayN urn (cntL urn draws) n) (chI (ixG urn (n : Int)) (ixG (cntL urn draws) (n : Int))) := by
  have := hu.2.2.1 _ (ixG_mem (l := urn) (i := (n : Int)) (by omega))
  have := hu.2.1
  exact mul_b (a := 361) (b := 61) (Nat.lt_of_le_of_lt (wayN_sz hu n (by omega)) (Nat.pow_lt_pow_right (by decide) (by omega))) (Nat.lt_of_le_of_lt chI_le (Nat.pow_lt_pow_right (by decide) (by omega)))
theorem exact_gd {urn draws : List Int} {m : Nat} (hm : m = urn.length) (hu : UrnOk urn) : Qk 360 (if decide ((cntL urn draws).sum ≤ urn.sum) = true then Rat.divInt (wayN urn (cntL urn draws) m) (chI urn.sum (cntL urn draws).sum) else 0) := by
  subst hm
  have h1 := hu.sum_le
  have h2 := hu.2.1
  have h3 := hu.2.2.2
  split
  · rename_i z
    have z := of_decide_eq_true z
    have hc : 0 ≤ (cntL urn draws).sum := sum_nonneg fun x hx => by
      unfold cntL at hx
      obtain ⟨k, _, rfl⟩ := List.mem_map.mp hx
      omega
    exact Qk_divInt (chI_pos ⟨hc, z⟩) (Nat.le_trans (wayN_sz hu _ (Nat.le_refl _)) (Nat.pow_le_pow_right (by decide) (by omega))) (Nat.le_trans chI_le (Nat.pow_le_pow_right (by decide) (by omega)))
  · exact Qk_zero _
theorem cnt_ok {urn draws : List Int} (hu : UrnOk urn) (hm : ¬ (maxOf (cntL urn draws) > 60)) : CntOk urn (cntL urn draws) := ⟨cntL_len, fun x hx => by
  have := maxOf_ge hx
  unfold cntL at hx
  obtain ⟨k, _, rfl⟩ := List.mem_map.mp hx
  omega⟩
theorem rows_gd {urn draws : List Int} {cut added : Int} (hd : DrwOk urn draws) (hk : 0 ≤ cut ∧ cut ≤ draws.length) (h : Qk 960 (rowCh urn draws added)) :
    Gd 20 15000000 (eL eQ ([draws, draws.reverse, cutX draws (some cut) none ++ cutX draws none (some cut)].map fun row => rowCh urn row added)) := by
  rw [told_eq hd hk]
  refine (gd_L (n := 3) (k := 1) (len := 1209) (fun r hr => ?_) (by simp)).mono (by decide) (by decide)
  have : r = rowCh urn draws added := by simpa using hr
  subst this
  exact h.gd (by decide)
theorem multi_gd {draws : List Int} (h : ∀ x ∈ draws, 0 ≤ x) (hl : draws.length ≤ 60) {n : Nat} (hn : n ≤ 6) : Gd 20 15000000 (.int (multi draws n).1) :=
  (gd_int (Nat.lt_of_le_of_lt (multi_sz h hl n) (Nat.pow_lt_pow_right (by decide) (by omega)))).mono (by decide) (by decide)
theorem multi_pb {draws : List Int} (h : ∀ x ∈ draws, 0 ≤ x) (hl : draws.length ≤ 60) {n : Nat} (hn : n ≤ 6) : Pb ((multi draws n).1, 1) :=
  ⟨Nat.lt_of_le_of_lt (multi_sz h hl n) (Nat.pow_lt_pow_right (by decide) (by omega)), (by show (1 : Int) ≠ 0; decide), (by show (1 : Nat) < 2 ^ 4400; exact Nat.one_lt_two_pow (by decide))⟩
end Nz

set_option exponentiation.threshold 10000
/-! urns: spreads and waits -/
namespace Nz
open PySem PySem.Spec PyProof.Rows L2 RZ
def sumR (f : Nat → Rat) : Nat → Rat
  | 0 => 0
  | n + 1 => sumR f n + f n
theorem sumR_list (f : Nat → Rat) : ∀ n, ((List.range n).map f).sum = sumR f n
  | 0 => rfl
  | n + 1 => by
    rw [List.range_succ, List.map_append, List.sum_append, sumR_list f n]
    show _ + (f n + 0) = sumR f n + f n
    rw [Rat.add_zero]
theorem sumR_congr {f g : Nat → Rat} : ∀ {n : Nat}, (∀ k, k < n → f k = g k) → sumR f n = sumR g n
  | 0, _ => rfl
  | n + 1, h => by
    show sumR f n + f n = sumR g n + g n
    rw [sumR_congr fun k hk => h k (by omega), h n (by omega)]
theorem sumR_add (f g : Nat → Rat) : ∀ n, sumR (fun k => f k + g k) n = sumR f n + sumR g n
  | 0 => by show (0 : Rat) = 0 + 0; rw [Rat.add_zero]
  | n + 1 => by
    show sumR _ n + (f n + g n) = sumR f n + f n + (sumR g n + g n)
    rw [sumR_add f g n]; grind
theorem sumR_mul (c : Rat) (f : Nat → Rat) : ∀ n, sumR (fun k => c * f k) n = c * sumR f n
  | 0 => by show (0 : Rat) = c * 0; rw [Rat.mul_zero]
  | n + 1 => by
    show sumR _ n + c * f n = c * (sumR f n + f n)
    rw [sumR_mul c f n]; grind
theorem sumR_head (f : Nat → Rat) : ∀ n, sumR f (n + 1) = f 0 + sumR (fun k => f (k + 1)) n
  | 0 => by show (0 : Rat) + f 0 = f 0 + 0; rw [Rat.add_zero, Rat.zero_add]
  | n + 1 => by
    show sumR f (n + 1) + f (n + 1) = f 0 + (sumR _ n + f (n + 1))
    rw [sumR_head f n]; grind
theorem list_sumR (l : List Rat) : l.sum = sumR (fun k => l[k]?.getD 0) l.length := by
  rw [← sumR_list]
  congr 1
  apply List.ext_getElem?
  intro i
  by_cases h : i < l.length
  · rw [List.getElem?_map, List.getElem?_range h, List.getElem?_eq_getElem h]; simp [h]
  · rw [List.getElem?_eq_none_iff.mpr (by omega), List.getElem?_eq_none_iff.mpr (by rw [List.length_map, List.length_range]; omega)]
/-- sums of the next row, with weights -/
theorem spNext_sum {own0 added w : Int} {rows : List Rat} (φ : Nat → Rat) : sumR (fun k => φ k * (spNext own0 added w rows)[k]?.getD 0) (rows.length + 1) = sumR (fun k => φ k * spA own0 added w rows k + φ (k + 1) * spB own0 added w rows k) rows.length := by
  have h1 : sumR (fun k => φ k * (spNext own0 added w rows)[k]?.getD 0) (rows.length + 1) = sumR (fun k => φ k * (if k < rows.length then spA own0 added w rows k else 0)) (rows.length + 1) + sumR (fun k => φ k * (if 0 < k then spB own0 added w rows (k - 1) else 0)) (rows.length + 1) := by
    rw [← sumR_add]
    refine sumR_congr fun k hk => ?_
    unfold spNext
    rw [spPart_get (by omega)]
    have e : (0 < k ∧ k ≤ rows.length) ↔ 0 < k := by omega
    simp only [e, Option.getD_some]
    grind
  rw [h1]
  have h2 : sumR (fun k => φ k * (if k < rows.length then spA own0 added w rows k else 0)) (rows.length + 1) = sumR (fun k => φ k * spA own0 added w rows k) rows.length := by
    show sumR _ rows.length + φ rows.length * (if rows.length < rows.length then _ else 0) = _
    rw [if_neg (by omega), Rat.mul_zero, Rat.add_zero]
    exact sumR_congr fun k hk => by rw [if_pos hk]
  have h3 : sumR (fun k => φ k * (if 0 < k then spB own0 added w rows (k - 1) else 0)) (rows.length + 1) = sumR (fun k => φ (k + 1) * spB own0 added w rows k) rows.length := by
    rw [sumR_head]
    rw [if_neg (by omega), Rat.mul_zero, Rat.zero_add]
    exact sumR_congr fun k hk => by rw [if_pos (by omega)]; rfl
  rw [h2, h3, sumR_add]
section
variable {urn : List Int} {colour draws added : Int}
theorem spL_one (h : SpOk urn colour draws added) : ∀ n : Nat, (n : Int) ≤ draws → sumR (fun k => (spL urn colour added n)[k]?.getD 0) (n + 1) = 1
  | 0, _ => by show (0 : Rat) + 1 = 1; rw [Rat.zero_add]
  | n + 1, hn => by
    have hw := sp_w h (n := n) (by omega)
    have ih := spL_one h n (by omega)
    have e := spNext_sum (own0 := ixG urn colour) (added := added) (w := urn.sum + (n : Int) * added) (rows := spL urn colour added n) (fun _ => 1)
    rw [spQ_len] at e
    have e2 : sumR (fun k => (spL urn colour added (n + 1))[k]?.getD 0) (n + 1 + 1) = sumR (fun k => (fun _ => (1 : Rat)) k * (spNext (ixG urn colour) added (urn.sum + (n : Int) * added) (spL urn colour added n))[k]?.getD 0) (n + 1 + 1) := sumR_congr fun k _ => by
      show (spNext _ _ _ _)[k]?.getD 0 = 1 * _
      rw [Rat.one_mul]
    rw [e2, e, ← ih]
    refine sumR_congr fun k _ => ?_
    unfold spA spB
    rw [divI, divI]
    have hne : ((urn.sum + (n : Int) * added : Int) : Rat) ≠ 0 := fun q => absurd (show urn.sum + (n : Int) * added = 0 by exact_mod_cast q) (by omega)
    rw [Rat.intCast_sub]
    generalize ((urn.sum + (n : Int) * added : Int) : Rat) = W at *
    generalize ((ixG urn colour + (k : Int) * added : Int) : Rat) = O at *
    grind
theorem spL_mean (h : SpOk urn colour draws added) : ∀ n : Nat, (n : Int) ≤ draws → sumR (fun k => (k : Rat) * (spL urn colour added n)[k]?.getD 0) (n + 1) = (n : Rat) * ((ixG urn colour : Int) : Rat) / (urn.sum : Rat)
  | 0, _ => by
    show (0 : Rat) + ((0 : Nat) : Rat) * 1 = ((0 : Nat) : Rat) * _ / _
    have : ((0 : Nat) : Rat) = 0 := rfl
    rw [this]; grind
  | n + 1, hn => by
    have hw := sp_w h (n := n) (by omega)
    have ih := spL_mean h n (by omega)
    have h1 := spL_one h n (by omega)
    have e := spNext_sum (own0 := ixG urn colour) (added := added) (w := urn.sum + (n : Int) * added) (rows := spL urn colour added n) (fun k => (k : Rat))
    rw [spQ_len] at e
    have hS : (urn.sum : Rat) ≠ 0 := fun q => absurd (show urn.sum = 0 by exact_mod_cast q) (by have := h.1.2.2.2; omega)
    have hne : ((urn.sum + (n : Int) * added : Int) : Rat) ≠ 0 := fun q => absurd (show urn.sum + (n : Int) * added = 0 by exact_mod_cast q) (by omega)
    show sumR (fun k => (k : Rat) * (spNext (ixG urn colour) added (urn.sum + (n : Int) * added) (spL urn colour added n))[k]?.getD 0) (n + 1 + 1) = _
    rw [e]
    have e3 : sumR (fun k => (k : Rat) * spA (ixG urn colour) added (urn.sum + (n : Int) * added) (spL urn colour added n) k + ((k + 1 : Nat) : Rat) * spB (ixG urn colour) added (urn.sum + (n : Int) * added) (spL urn colour added n) k) (n + 1)
        = sumR (fun k => (1 + (added : Rat) / ((urn.sum + (n : Int) * added : Int) : Rat)) * ((k : Rat) * (spL urn colour added n)[k]?.getD 0) + (((ixG urn colour : Int) : Rat) / ((urn.sum + (n : Int) * added : Int) : Rat)) * (spL urn colour added n)[k]?.getD 0) (n + 1) := by
      refine sumR_congr fun k _ => ?_
      unfold spA spB
      rw [divI, divI]
      have c1 : ((k + 1 : Nat) : Rat) = (k : Rat) + 1 := by push_cast; rfl
      have c2 : ((ixG urn colour + (k : Int) * added : Int) : Rat) = ((ixG urn colour : Int) : Rat) + (k : Rat) * (added : Rat) := by push_cast; rfl
      rw [c1, Rat.intCast_sub, c2]
      generalize ((urn.sum + (n : Int) * added : Int) : Rat) = W at *
      grind
    rw [e3, sumR_add, sumR_mul, sumR_mul, ih, h1]
    have c3 : ((urn.sum + (n : Int) * added : Int) : Rat) = (urn.sum : Rat) + (n : Rat) * (added : Rat) := by push_cast; rfl
    have c4 : ((n + 1 : Nat) : Rat) = (n : Rat) + 1 := by push_cast; rfl
    rw [c4]
    rw [c3] at hne ⊢
    generalize (urn.sum : Rat) = S at *
    generalize (n : Rat) = N at *
    generalize (added : Rat) = A at *
    generalize ((ixG urn colour : Int) : Rat) = O at *
    grind
end
/-! ### without putting back -/
theorem bin_stepQ (n k : Nat) : ((bin n k : Nat) : Rat) * ((n : Rat) - (k : Rat)) = ((k : Rat) + 1) * ((bin n (k + 1) : Nat) : Rat) := by
  have h := bin_step n k
  by_cases hk : k ≤ n
  · have c : ((n - k : Nat) : Rat) = (n : Rat) - (k : Rat) := by
      have : (n : Rat) = ((n - k : Nat) : Rat) + (k : Rat) := by rw [← Rat.natCast_add]; congr 1; omega
      rw [this]; grind
    have h2 : ((bin n (k + 1) * (k + 1) : Nat) : Rat) = ((bin n k * (n - k) : Nat) : Rat) := by rw [h]
    rw [Rat.natCast_mul, Rat.natCast_mul, c] at h2
    have c2 : ((k + 1 : Nat) : Rat) = (k : Rat) + 1 := by push_cast; rfl
    rw [c2] at h2
    grind
  · rw [bin_gt (by omega), bin_gt (by omega)]
    show ((0 : Nat) : Rat) * _ = _ * ((0 : Nat) : Rat)
    have : ((0 : Nat) : Rat) = 0 := rfl
    rw [this]; grind
theorem frac2 {x y u v B W : Rat} (hB : B ≠ 0) (hW : W ≠ 0) : x / B * (u / W) + y / B * (v / W) = (x * u + y * v) / (B * W) := by grind
theorem frac1 {x u B W : Rat} (hB : B ≠ 0) (hW : W ≠ 0) : x / B * (u / W) = (x * u) / (B * W) := by grind
theorem frac0 {m N B : Rat} (hN : N ≠ 0) (hB : B ≠ 0) : N * m / (B * N) = m / B := by grind
/-- k of the first kind in n draws -/
def hyp (own rest n k : Nat) : Rat := ((bin own k * bin rest (n - k) : Nat) : Rat) / ((bin (own + rest) n : Nat) : Rat)
theorem hyp_next {own rest n : Nat} (hn : n < own + rest) : ∀ k, k ≤ n + 1 →
    (if 0 < k then hyp own rest n (k - 1) * (((own : Rat) - ((k - 1 : Nat) : Rat)) / (((own + rest : Nat) : Rat) - (n : Rat))) else 0) + (if k < n + 1 then hyp own rest n k * ((((own + rest : Nat) : Rat) - (n : Rat) - ((own : Rat) - (k : Rat))) / (((own + rest : Nat) : Rat) - (n : Rat))) else 0) = hyp own rest (n + 1) k := fun k hk => by
  have hb := bin_pos (n := own + rest) (k := n) (by omega)
  have hb2 := bin_pos (n := own + rest) (k := n + 1) (by omega)
  have hB : ((bin (own + rest) n : Nat) : Rat) ≠ 0 := fun q => absurd (show bin (own + rest) n = 0 by exact_mod_cast q) (by omega)
  have hB2 : ((bin (own + rest) (n + 1) : Nat) : Rat) ≠ 0 := fun q => absurd (show bin (own + rest) (n + 1) = 0 by exact_mod_cast q) (by omega)
  have hst := bin_stepQ (own + rest) n
  have hW : ((own + rest : Nat) : Rat) - (n : Rat) ≠ 0 := fun q => by
    have : ((own + rest : Nat) : Rat) = (n : Rat) := by grind
    have : own + rest = n := by exact_mod_cast this
    omega
  have hN : (n : Rat) + 1 ≠ 0 := fun q => by
    have c : ((n + 1 : Nat) : Rat) = 0 := by push_cast; exact q
    have : n + 1 = 0 := by exact_mod_cast c
    omega
  have cS : ((own + rest : Nat) : Rat) = (own : Rat) + (rest : Rat) := by push_cast; rfl
  unfold hyp
  simp only [Rat.natCast_mul]
  -- the second part
  have p2 : k < n + 1 → ((bin own k : Nat) : Rat) * ((bin rest (n - k) : Nat) : Rat) * ((((own + rest : Nat) : Rat) - (n : Rat) - ((own : Rat) - (k : Rat)))) = ((bin own k : Nat) : Rat) * (((n : Rat) - (k : Rat) + 1) * ((bin rest (n + 1 - k) : Nat) : Rat)) := fun h => by
    have s := bin_stepQ rest (n - k)
    have c : ((n - k : Nat) : Rat) = (n : Rat) - (k : Rat) := by
      have : (n : Rat) = ((n - k : Nat) : Rat) + (k : Rat) := by rw [← Rat.natCast_add]; congr 1; omega
      rw [this]; grind
    rw [c, show n - k + 1 = n + 1 - k by omega] at s
    rw [cS]
    grind
  have p1 : 0 < k → ((bin own (k - 1) : Nat) : Rat) * ((own : Rat) - ((k - 1 : Nat) : Rat)) = (k : Rat) * ((bin own k : Nat) : Rat) := fun h => by
    have s := bin_stepQ own (k - 1)
    have c : ((k - 1 : Nat) : Rat) + 1 = (k : Rat) := by
      have : (k : Rat) = ((k - 1 + 1 : Nat) : Rat) := by congr 1; omega
      rw [this]; push_cast; rfl
    rw [show k - 1 + 1 = k by omega, c] at s
    exact s
  by_cases h0 : 0 < k
  · have q1 := p1 h0
    by_cases h1 : k < n + 1
    · have q2 := p2 h1
      rw [if_pos h0, if_pos h1, show n - (k - 1) = n + 1 - k by omega]
      generalize ((bin own k : Nat) : Rat) = a at *
      generalize ((bin own (k - 1) : Nat) : Rat) = a' at *
      generalize ((bin rest (n + 1 - k) : Nat) : Rat) = b at *
      generalize ((bin rest (n - k) : Nat) : Rat) = b' at *
      generalize ((bin (own + rest) n : Nat) : Rat) = B at *
      generalize ((bin (own + rest) (n + 1) : Nat) : Rat) = B2 at *
      generalize hWW : ((own + rest : Nat) : Rat) - (n : Rat) = W at *
      generalize ((k - 1 : Nat) : Rat) = k1 at *
      have e : (a' * b * ((own : Rat) - k1) + a * b' * (W - ((own : Rat) - (k : Rat)))) = ((n : Rat) + 1) * (a * b) := by
        have t1 : a' * b * ((own : Rat) - k1) = (a' * ((own : Rat) - k1)) * b := by rw [Rat.mul_assoc, Rat.mul_assoc, Rat.mul_comm b]
        rw [t1, q1, q2]
        clear q1 q2 p1 p2 hst hB hB2 hW t1
        grind
      have e2 : B2 * ((n : Rat) + 1) = B * W := by rw [hst, Rat.mul_comm]
      rw [frac2 hB hW, e, ← e2, frac0 hN hB2]
    · have hk' : k = n + 1 := by omega
      rw [if_pos h0, if_neg h1, show n - (k - 1) = n + 1 - k by omega, Rat.add_zero]
      have ck : (k : Rat) = (n : Rat) + 1 := by rw [hk']; push_cast; rfl
      rw [ck] at q1
      generalize ((bin own k : Nat) : Rat) = a at *
      generalize ((bin own (k - 1) : Nat) : Rat) = a' at *
      generalize ((bin rest (n + 1 - k) : Nat) : Rat) = b at *
      generalize ((bin (own + rest) n : Nat) : Rat) = B at *
      generalize ((bin (own + rest) (n + 1) : Nat) : Rat) = B2 at *
      generalize ((own + rest : Nat) : Rat) - (n : Rat) = W at *
      generalize ((k - 1 : Nat) : Rat) = k1 at *
      have e2 : B2 * ((n : Rat) + 1) = B * W := by rw [hst, Rat.mul_comm]
      have t1 : a' * b * ((own : Rat) - k1) = ((n : Rat) + 1) * (a * b) := by
        have t2 : a' * b * ((own : Rat) - k1) = (a' * ((own : Rat) - k1)) * b := by rw [Rat.mul_assoc, Rat.mul_assoc, Rat.mul_comm b]
        rw [t2, q1, Rat.mul_assoc]
      rw [frac1 hB hW, t1, ← e2, frac0 hN hB2]
  · have hk0 : k = 0 := by omega
    subst hk0
    have q2 := p2 (by omega)
    rw [if_neg (by omega), if_pos (by omega), Rat.zero_add]
    have c0 : ((0 : Nat) : Rat) = 0 := rfl
    rw [c0] at q2 ⊢
    generalize ((bin own 0 : Nat) : Rat) = a at *
    generalize ((bin rest (n + 1 - 0) : Nat) : Rat) = b at *
    generalize ((bin rest (n - 0) : Nat) : Rat) = b' at *
    generalize ((bin (own + rest) n : Nat) : Rat) = B at *
    generalize ((bin (own + rest) (n + 1) : Nat) : Rat) = B2 at *
    generalize ((own + rest : Nat) : Rat) - (n : Rat) = W at *
    have e2 : B2 * ((n : Rat) + 1) = B * W := by rw [hst, Rat.mul_comm]
    have t1 : a * b' * (W - ((own : Rat) - 0)) = ((n : Rat) + 1) * (a * b) := by
      rw [q2]
      clear q2 p1 p2 hst hB hB2 hW
      grind
    rw [frac1 hB hW, t1, ← e2, frac0 hN hB2]
theorem castN {i : Int} (h : 0 ≤ i) : ((i : Int) : Rat) = ((i.toNat : Nat) : Rat) := by
  rw [← Rat.intCast_natCast]; congr 1; omega
theorem spQ_hyp {urn : List Int} {colour draws : Int} (h : SpOk urn colour draws (-1)) : ∀ n : Nat, (n : Int) ≤ draws → ∀ k, k ≤ n → (spL urn colour (-1) n)[k]? = some (hyp (ixG urn colour).toNat (urn.sum - ixG urn colour).toNat n k)
  | 0, _, k, hk => by
    have : k = 0 := by omega
    subst this
    show some (1 : Rat) = some (hyp _ _ 0 0)
    congr 1
    unfold hyp
    rw [bin_zero, bin_zero, bin_zero]
    show (1 : Rat) = ((1 : Nat) : Rat) / ((1 : Nat) : Rat)
    have : ((1 : Nat) : Rat) = 1 := rfl
    rw [this]; grind
  | n + 1, hn, k, hk => by
    have hw := sp_w h (n := n) (by omega)
    have ih := spQ_hyp h n (by omega)
    have hu := urn_ix h.1 h.2.1
    have hS : (ixG urn colour).toNat + (urn.sum - ixG urn colour).toNat = urn.sum.toNat := by omega
    have hl : (spL urn colour (-1) n).length = n + 1 := spQ_len n
    show (spPart _ _ _ (spL urn colour (-1) n) (spL urn colour (-1) n).length)[k]? = _
    rw [spPart_get (by omega), hl]
    congr 1
    rw [← hyp_next (by omega) k (by omega), hS]
    have cw : ((urn.sum + (n : Int) * -1 : Int) : Rat) = ((urn.sum.toNat : Nat) : Rat) - (n : Rat) := by
      rw [show urn.sum + (n : Int) * -1 = urn.sum - (n : Int) by omega, Rat.intCast_sub, castN (show 0 ≤ urn.sum by omega)]; rfl
    have co : ∀ j : Nat, ((ixG urn colour + (j : Int) * -1 : Int) : Rat) = (((ixG urn colour).toNat : Nat) : Rat) - (j : Rat) := fun j => by
      rw [show ixG urn colour + (j : Int) * -1 = ixG urn colour - (j : Int) by omega, Rat.intCast_sub, castN hu.1]; rfl
    congr 1
    · by_cases h0 : 0 < k
      · rw [if_pos ⟨h0, by omega⟩, if_pos h0]
        unfold spB
        rw [ih (k - 1) (by omega), divI, cw, co]; rfl
      · rw [if_neg (fun q => h0 q.1), if_neg h0]
    · by_cases h1 : k < n + 1
      · rw [if_pos h1, if_pos h1]
        unfold spA
        rw [ih k (by omega), divI, Rat.intCast_sub, cw, co]; rfl
      · rw [if_neg h1, if_neg h1]
theorem spQ_list {urn : List Int} {colour draws : Int} (h : SpOk urn colour draws (-1)) {own rest S : Int} (ho : own = ixG urn colour) (hr : rest = urn.sum - ixG urn colour) (hs : S = urn.sum) :
    spL urn colour (-1) draws.toNat = (List.range (draws + 1).toNat).map fun (k : Nat) => Rat.divInt (chI own (k : Int) * chI rest (draws - (k : Int))) (chI S draws) := by
  subst ho; subst hr; subst hs
  have hd := h.2.2.1
  have hu := urn_ix h.1 h.2.1
  have hS : (ixG urn colour).toNat + (urn.sum - ixG urn colour).toNat = urn.sum.toNat := by omega
  apply List.ext_getElem?
  intro k
  by_cases hk : k ≤ draws.toNat
  · rw [spQ_hyp h _ (by omega) k hk, List.getElem?_map, List.getElem?_range (by omega)]
    show some _ = some _
    congr 1
    unfold hyp
    have c1 : chI (ixG urn colour) (k : Int) = ((bin (ixG urn colour).toNat k : Nat) : Int) := by rw [← chI_nat]; congr 1; omega
    have c2 : chI (urn.sum - ixG urn colour) (draws - (k : Int)) = ((bin (urn.sum - ixG urn colour).toNat (draws.toNat - k) : Nat) : Int) := by rw [← chI_nat]; congr 1 <;> omega
    have c3 : chI urn.sum draws = ((bin urn.sum.toNat draws.toNat : Nat) : Int) := by rw [← chI_nat]; congr 1 <;> omega
    show _ = Rat.divInt (chI (ixG urn colour) (k : Int) * chI (urn.sum - ixG urn colour) (draws - (k : Int))) (chI urn.sum draws)
    rw [c1, c2, c3, hS, divI]
    rw [← Int.natCast_mul]; rfl
  · rw [List.getElem?_eq_none_iff.mpr (by rw [spQ_len]; omega), List.getElem?_eq_none_iff.mpr (by rw [List.length_map, List.length_range]; omega)]
/-! ### two colours made one -/
def sumI (f : Nat → Int) : Nat → Int
  | 0 => 0
  | n + 1 => sumI f n + f n
theorem sumI_list (f : Nat → Int) : ∀ n, ((List.range n).map f).sum = sumI f n
  | 0 => rfl
  | n + 1 => by
    rw [List.range_succ, List.map_append, List.sum_append, sumI_list f n]
    simp [sumI]
theorem sumI_ix (l : List Int) : sumI (fun k => ixG l (k : Int)) l.length = l.sum := by
  rw [← sumI_list]
  congr 1
  apply List.ext_getElem?
  intro i
  by_cases h : i < l.length
  · rw [List.getElem?_map, List.getElem?_range h, List.getElem?_eq_getElem h]
    show some (ixG l (i : Int)) = _
    rw [ixG_nat (List.getElem?_eq_getElem h)]
  · rw [List.getElem?_eq_none_iff.mpr (by rw [List.length_map, List.length_range]; omega), List.getElem?_eq_none_iff.mpr (by omega)]
theorem sumI_one (f : Nat → Int) (v : Int) (c : Int) : ∀ n : Nat, sumI (fun k => f k + (if decide ((k : Int) = c) = true then v else 0)) n = sumI f n + (if 0 ≤ c ∧ c < n then v else 0)
  | 0 => by show (0 : Int) = 0 + _; rw [if_neg (by omega)]; rfl
  | n + 1 => by
    show sumI _ n + (f n + _) = sumI f n + f n + _
    rw [sumI_one f v c n]
    by_cases e : (n : Int) = c
    · rw [if_pos (decide_eq_true e), if_neg (by omega), if_pos (by omega)]; omega
    · have e1 : (if decide ((n : Int) = c) = true then v else 0) = 0 := if_neg (by simpa using e)
      rw [e1]
      by_cases h : 0 ≤ c ∧ c < n
      · rw [if_pos h, if_pos (by omega)]; omega
      · rw [if_neg h, if_neg (by omega)]; omega
theorem filter_sum (f : Nat → Int) (o : Int) : ∀ n : Nat, (((List.range n).filter fun x : Nat => !decide ((x : Int) = o)).map f).sum = sumI f n - (if 0 ≤ o ∧ o < n then f o.toNat else 0)
  | 0 => by simp [sumI]; omega
  | n + 1 => by
    rw [List.range_succ, List.filter_append, List.map_append, List.sum_append, filter_sum f o n]
    show _ = sumI f n + f n - _
    by_cases e : (n : Int) = o
    · have : List.filter (fun x : Nat => !decide ((x : Int) = o)) [n] = [] := by simp [e]
      rw [this, if_neg (by omega), if_pos (by omega), show o.toNat = n by omega]; simp
    · have : List.filter (fun x : Nat => !decide ((x : Int) = o)) [n] = [n] := by simp [e]
      rw [this]
      by_cases h : 0 ≤ o ∧ o < n
      · rw [if_pos h, if_pos (by omega)]; simp; omega
      · rw [if_neg h, if_neg (by omega)]; simp
theorem filter_len (o : Int) : ∀ n : Nat, ((List.range n).filter fun x : Nat => !decide ((x : Int) = o)).length = n - (if 0 ≤ o ∧ o < n then 1 else 0)
  | 0 => by simp
  | n + 1 => by
    rw [List.range_succ, List.filter_append, List.length_append, filter_len o n]
    by_cases e : (n : Int) = o
    · have : List.filter (fun x : Nat => !decide ((x : Int) = o)) [n] = [] := by simp [e]
      rw [this, if_neg (by omega), if_pos (by omega)]; simp
    · have : List.filter (fun x : Nat => !decide ((x : Int) = o)) [n] = [n] := by simp [e]
      rw [this]
      by_cases h : 0 ≤ o ∧ o < n
      · rw [if_pos h, if_pos (by omega)]; simp; omega
      · rw [if_neg h, if_neg (by omega)]; simp
theorem filter_get (o : Int) : ∀ n : Nat, (0 ≤ o ∧ o < n) → ∀ p : Nat, p < n - 1 → ((List.range n).filter fun x : Nat => !decide ((x : Int) = o))[p]? = some (if (p : Int) < o then p else p + 1)
  | 0, h, _, _ => by omega
  | n + 1, h, p, hp => by
    rw [List.range_succ, List.filter_append]
    have hlen := filter_len o n
    by_cases e : (n : Int) = o
    · have e1 : List.filter (fun x : Nat => !decide ((x : Int) = o)) [n] = [] := by simp [e]
      have e2 : (List.range n).filter (fun x : Nat => !decide ((x : Int) = o)) = List.range n := List.filter_eq_self.mpr fun x hx => by
        have := List.mem_range.mp hx
        simp; omega
      rw [e1, List.append_nil, e2, List.getElem?_range (by omega), if_pos (by omega)]
    · have e1 : List.filter (fun x : Nat => !decide ((x : Int) = o)) [n] = [n] := by simp [e]
      rw [if_pos (by omega)] at hlen
      rw [e1]
      by_cases hp2 : p < n - 1
      · rw [List.getElem?_append_left (by omega)]
        exact filter_get o n (by omega) p hp2
      · rw [List.getElem?_append_right (by omega), hlen, show p - (n - 1) = 0 by omega, if_neg (by omega)]
        show some n = _
        congr 1; omega
def oneL (urn : List Int) (colour other : Int) : List Int := ((List.range urn.length).filter fun x : Nat => !decide ((x : Int) = other)).map fun (x : Nat) => ixG urn (x : Int) + (if decide ((x : Int) = colour) = true then ixG urn other else 0)
theorem one_ok {urn : List Int} {colour other at' : Int} (hu : UrnOk urn) (hc : 0 ≤ colour ∧ colour < urn.length) (ho : 0 ≤ other ∧ other < urn.length) (hne : other ≠ colour) (h60 : ixG urn colour + ixG urn other ≤ 60)
    (hat : at' = colour - (if decide (other < colour) = true then 1 else 0)) :
    UrnOk (oneL urn colour other) ∧ (0 ≤ at' ∧ at' < (oneL urn colour other).length) ∧ ixG (oneL urn colour other) at' = ixG urn colour + ixG urn other ∧ (oneL urn colour other).sum = urn.sum := by
  have hl : (oneL urn colour other).length = urn.length - 1 := by
    unfold oneL; rw [List.length_map, filter_len, if_pos ho]
  have hs : (oneL urn colour other).sum = urn.sum := by
    unfold oneL
    rw [filter_sum, if_pos ho, sumI_one, sumI_ix, if_pos hc]
    rw [if_neg (by simp; omega), show ((other.toNat : Nat) : Int) = other by omega]; omega
  have h2 : 2 ≤ urn.length := by omega
  have ha : 0 ≤ at' ∧ at' < (oneL urn colour other).length := by
    rw [hl, hat]
    by_cases z : other < colour
    · rw [if_pos (decide_eq_true z)]; omega
    · rw [if_neg (by simpa using z)]; omega
  refine ⟨⟨by omega, by have := hu.2.1; omega, fun x hx => ?_, by rw [hs]; exact hu.2.2.2⟩, ha, ?_, hs⟩
  · unfold oneL at hx
    obtain ⟨k, hk, rfl⟩ := List.mem_map.mp hx
    have hk := List.mem_range.mp (List.mem_filter.mp hk).1
    have h1 := hu.2.2.1 _ (ixG_mem (l := urn) (i := (k : Int)) (by omega))
    have h3 := hu.2.2.1 _ (ixG_mem ho)
    by_cases e : (k : Int) = colour
    · rw [if_pos (decide_eq_true e), e]
      rw [e] at h1
      omega
    · rw [if_neg (by simpa using e)]; omega
  · have hg := filter_get other urn.length ho at'.toNat (by omega)
    have ek : (((if ((at'.toNat : Nat) : Int) < other then at'.toNat else at'.toNat + 1) : Nat) : Int) = colour := by
      by_cases z : other < colour
      · rw [if_pos (decide_eq_true z)] at hat
        rw [if_neg (by omega)]; omega
      · rw [if_neg (by simpa using z)] at hat
        rw [if_pos (by omega)]; omega
    have : (oneL urn colour other)[at'.toNat]? = some (ixG urn colour + ixG urn other) := by
      unfold oneL
      rw [List.getElem?_map, hg, Option.map_some]
      show some (ixG urn (((if ((at'.toNat : Nat) : Int) < other then at'.toNat else at'.toNat + 1) : Nat) : Int) + _) = _
      rw [ek, if_pos (decide_eq_true rfl)]
    have e := ixG_nat this
    rwa [show ((at'.toNat : Nat) : Int) = at' by omega] at e
/-- the other colour -/
theorem next_ne {n c o x : Int} (hc : 0 ≤ c ∧ c < n) (hn : 2 ≤ n) (hx : 0 ≤ x ∧ x < n - 1) (ho : o = (c + 1 + x) % n) : 0 ≤ o ∧ o < n ∧ o ≠ c := by
  subst ho
  by_cases h : c + 1 + x < n
  · rw [Int.emod_eq_of_lt (by omega) h]; omega
  · have : (c + 1 + x) % n = c + 1 + x - n := by
      rw [← Int.sub_emod_right]
      exact Int.emod_eq_of_lt (by omega) (by omega)
    rw [this]; omega
def drw2 (added draws : Int) (urn : List Int) : Int := if decide (added = -(1 : Int)) = true then minOf [draws, urn.sum] else draws
theorem drw2_ok {urn : List Int} {colour added draws : Int} (hu : UrnOk urn) (hc : 0 ≤ colour ∧ colour < urn.length) (ha : -1 ≤ added ∧ added ≤ 60) (hd : 0 ≤ draws ∧ draws ≤ 60) : SpOk urn colour (drw2 added draws urn) added ∧ drw2 added draws urn ≤ draws := by
  have h1 : minOf [draws, urn.sum] ≤ draws := minOf_le (by simp)
  have h2 : minOf [draws, urn.sum] ≤ urn.sum := minOf_le (by simp)
  have h3 := minOf_mem (l := [draws, urn.sum]) (by simp)
  have h4 := hu.2.2.2
  have h5 : 0 ≤ minOf [draws, urn.sum] := by
    simp only [List.mem_cons, List.not_mem_nil, or_false] at h3
    rcases h3 with e | e <;> omega
  unfold drw2
  by_cases z : added = -1
  · rw [if_pos (decide_eq_true (by omega))]
    exact ⟨⟨hu, hc, by omega, ha, fun _ => h2⟩, h1⟩
  · rw [if_neg (by simpa using (show ¬ added = -(1 : Int) by omega))]
    exact ⟨⟨hu, hc, hd, ha, fun e => absurd e z⟩, Int.le_refl _⟩
theorem sp_sum {urn : List Int} {colour draws added : Int} (h : SpOk urn colour draws added) : (spL urn colour added draws.toNat).sum = 1 := by
  rw [list_sumR, spQ_len]
  exact spL_one h _ (by have := h.2.2.1; omega)
theorem sp_mean {urn : List Int} {colour draws added : Int} {n : Nat} (h : SpOk urn colour draws added) (hn : n = draws.toNat + 1) :
    ((List.range n).map fun (k : Nat) => ixG (spL urn colour added draws.toNat) (k : Int) * qv ((k : Int), 1)).sum = Rat.divInt (draws * ixG urn colour) urn.sum := by
  subst hn
  have hd := h.2.2.1
  rw [sumR_list]
  have := spL_mean h draws.toNat (by omega)
  have e : sumR (fun k => ixG (spL urn colour added draws.toNat) (k : Int) * qv ((k : Int), 1)) (draws.toNat + 1) = sumR (fun k => (k : Rat) * (spL urn colour added draws.toNat)[k]?.getD 0) (draws.toNat + 1) := sumR_congr fun k hk => by
    have hlt : k < (spL urn colour added draws.toNat).length := by rw [spQ_len]; exact hk
    rw [qv_one, ixG_nat (List.getElem?_eq_getElem hlt), List.getElem?_eq_getElem hlt, Rat.mul_comm]; rfl
  rw [e, this, divI, Rat.intCast_mul, castN hd.1]
theorem sp_sumpre {urn : List Int} {colour draws added : Int} (h : SpOk urn colour draws added) (hd : draws ≤ 20) (b : Bool) : ∃ M D, (∀ r ∈ (b, spL urn colour added draws.toNat).2, Bd M D r) ∧ ((b, spL urn colour added draws.toNat).2.length + 1) * M < 2 ^ 4400 ∧ 0 < D ∧ D < 2 ^ 4400 := by
  have h3 := h.2.2.1
  refine ⟨2 ^ (14 * draws.toNat), spD urn added draws.toNat, spL_bd h _ (by omega), ?_, spD_pos h _ (by omega), Nat.lt_of_le_of_lt (spD_le h _ (by omega)) (Nat.pow_lt_pow_right (by decide) (by omega))⟩
  show ((spL urn colour added draws.toNat).length + 1) * _ < _
  rw [spQ_len]
  calc (draws.toNat + 1 + 1) * 2 ^ (14 * draws.toNat) ≤ 2 ^ 5 * 2 ^ (14 * draws.toNat) := Nat.mul_le_mul_right _ (by omega)
    _ = 2 ^ (5 + 14 * draws.toNat) := by rw [← Nat.pow_add]
    _ < 2 ^ 4400 := Nat.pow_lt_pow_right (by decide) (by omega)
theorem qv_bd {k : Int} {M : Nat} (h : k.natAbs ≤ M) : Bd M 1 (qv (k, 1)) := ⟨by decide, k, h, rfl⟩
theorem sp_meanpre {urn : List Int} {colour draws added : Int} {n : Nat} (h : SpOk urn colour draws added) (hd : draws ≤ 20) (hn : n = draws.toNat + 1) (b : Bool) :
    ∃ M D, (∀ r ∈ (b, (List.range n).map fun (k : Nat) => ixG (spL urn colour added draws.toNat) (k : Int) * qv ((k : Int), 1)).2, Bd M D r) ∧ ((b, (List.range n).map fun (k : Nat) => ixG (spL urn colour added draws.toNat) (k : Int) * qv ((k : Int), 1)).2.length + 1) * M < 2 ^ 4400 ∧ 0 < D ∧ D < 2 ^ 4400 := by
  subst hn
  have h3 := h.2.2.1
  refine ⟨2 ^ (14 * draws.toNat) * 2 ^ 5, spD urn added draws.toNat * 1, fun r hr => ?_, ?_, Nat.mul_pos (spD_pos h _ (by omega)) (by decide), ?_⟩
  · obtain ⟨k, hk, rfl⟩ := List.mem_map.mp hr
    have hk := List.mem_range.mp hk
    have hlt : k < (spL urn colour added draws.toNat).length := by rw [spQ_len]; exact hk
    refine Bd_mul ?_ (qv_bd (by omega))
    rw [ixG_nat (List.getElem?_eq_getElem hlt)]
    exact spL_bd h _ (by omega) _ (List.getElem_mem _)
  · show (((List.range (draws.toNat + 1)).map _).length + 1) * _ < _
    rw [List.length_map, List.length_range, ← Nat.pow_add]
    calc (draws.toNat + 1 + 1) * 2 ^ (14 * draws.toNat + 5) ≤ 2 ^ 5 * 2 ^ (14 * draws.toNat + 5) := Nat.mul_le_mul_right _ (by omega)
      _ = 2 ^ (5 + (14 * draws.toNat + 5)) := by rw [← Nat.pow_add]
      _ < 2 ^ 4400 := Nat.pow_lt_pow_right (by decide) (by omega)
  · rw [Nat.mul_one]
    exact Nat.lt_of_le_of_lt (spD_le h _ (by omega)) (Nat.pow_lt_pow_right (by decide) (by omega))
theorem sp_gd {urn : List Int} {colour draws added : Int} (h : SpOk urn colour draws added) : Gd 20 15000000 (eT eQ (spL urn colour added draws.toNat)) := by
  have h3 := h.2.2.1
  refine (gd_T (n := 61) (k := 1) (len := 1209) (fun r hr => ?_) (by rw [spQ_len]; omega)).mono (by decide) (by decide)
  exact (spL_qk h (n := draws.toNat) (by omega) r hr).gd (by omega)
theorem nz_or3 {a b c : Bool} (ha : a = false) (hb : b = false) (hc : c = false) : (a || (b || c)) = false := by rw [ha, hb, hc]; rfl
theorem nz_ne {α : Type} [DecidableEq α] {a b : α} (h : a = b) : (!decide (a = b)) = false := by simp [h]
theorem ixQ_mem {l : List Rat} {k : Nat} (h : k < l.length) : ixG l (k : Int) ∈ l := by rw [ixG_nat (List.getElem?_eq_getElem h)]; exact List.getElem_mem _
theorem ch_mul {a b c d : Int} (h : a ≤ 400) (h2 : c ≤ 400) : IntMulOk (chI a b) (chI c d) :=
  mul_b (a := 401) (b := 401) (Nat.lt_of_le_of_lt chI_le (Nat.pow_lt_pow_right (by decide) (by omega))) (Nat.lt_of_le_of_lt chI_le (Nat.pow_lt_pow_right (by decide) (by omega)))
theorem sp_both {urn one : List Int} {c o at' draws added rest : Int} (h : SpOk one at' draws added) (ha : added = -1) (h3 : ixG one at' = ixG urn c + ixG urn o) (h4 : one.sum = urn.sum) (hr : rest = urn.sum - ixG urn c - ixG urn o) :
    spL one at' added draws.toNat = (List.range (draws + 1).toNat).map fun (k : Nat) => Rat.divInt (chI (ixG urn c + ixG urn o) (k : Int) * chI rest (draws - (k : Int))) (chI urn.sum draws) := by
  subst ha
  exact spQ_list h h3.symm (by omega) h4.symm
end Nz

set_option exponentiation.threshold 10000
/-! urns: waits -/
namespace Nz
open PySem PySem.Spec PyProof.Rows L2 RZ
theorem bin_fct {n k : Nat} (h : k ≤ n) : bin n k * fct k * fct (n - k) = fct n := by rw [← ff_bin, ff_fct n k h]
theorem fctQ (n : Nat) : ((fct n : Nat) : Rat) ≠ 0 := fun q => by
  have h := fct_pos n
  have : fct n = 0 := by exact_mod_cast q
  omega
theorem first_alg {b1 b2 b3 b4 fk fok fo fw f1 fo1 n wk : Rat} (k1 : fk ≠ 0) (k2 : fok ≠ 0) (k3 : fo ≠ 0) (k4 : fw ≠ 0) (k5 : f1 ≠ 0) (k6 : fo1 ≠ 0) (k7 : n ≠ 0) (k8 : wk ≠ 0)
    (h1 : b1 * fk * fok = fo) (h2 : b2 * fk * (wk * f1) = fw) (h3 : b3 * fo1 * fok = f1) (h4 : b4 * (n * fo1) * fo = fw) : b1 / b2 * (n / wk) = b3 / b4 := by
  have e1 : b1 = fo / (fk * fok) := by clear h2 h3 h4; grind
  have e2 : b2 = fw / (fk * (wk * f1)) := by clear h1 h3 h4 e1; grind
  have e3 : b3 = f1 / (fo1 * fok) := by clear h1 h2 h4 e1 e2; grind
  have e4 : b4 = fw / (n * fo1 * fo) := by clear h1 h2 h3 e1 e2 e3; grind
  rw [e1, e2, e3, e4]
  clear h1 h2 h3 h4 e1 e2 e3 e4
  grind
theorem first_id {own o k : Nat} (hk : k ≤ o) (h0 : 0 < own) : ((bin o k : Nat) : Rat) / ((bin (own + o) k : Nat) : Rat) * (((own : Nat) : Rat) / ((own + o - k : Nat) : Rat)) = ((bin (own + o - k - 1) (own - 1) : Nat) : Rat) / ((bin (own + o) own : Nat) : Rat) := by
  have h1 := bin_fct hk
  have h2 := bin_fct (n := own + o) (k := k) (by omega)
  have h3 := bin_fct (n := own + o - k - 1) (k := own - 1) (by omega)
  have h4 := bin_fct (n := own + o) (k := own) (by omega)
  have e2 : fct (own + o - k) = (own + o - k) * fct (own + o - k - 1) := by
    obtain ⟨m, hm⟩ : ∃ m, own + o - k = m + 1 := ⟨own + o - k - 1, by omega⟩
    rw [hm]; rfl
  have e4 : fct own = own * fct (own - 1) := by
    obtain ⟨m, hm⟩ : ∃ m, own = m + 1 := ⟨own - 1, by omega⟩
    rw [hm]; rfl
  rw [e2] at h2
  rw [show own + o - k - 1 - (own - 1) = o - k by omega] at h3
  rw [e4, show own + o - own = o by omega] at h4
  have c : ∀ {a b : Nat}, a = b → ((a : Nat) : Rat) = ((b : Nat) : Rat) := fun h => by rw [h]
  have q1 := c h1
  have q2 := c h2
  have q3 := c h3
  have q4 := c h4
  simp only [Rat.natCast_mul] at q1 q2 q3 q4
  exact first_alg (fctQ k) (fctQ (o - k)) (fctQ o) (fctQ (own + o)) (fctQ (own + o - k - 1)) (fctQ (own - 1)) (fun q => absurd (show own = 0 by exact_mod_cast q) (by omega)) (fun q => absurd (show own + o - k = 0 by exact_mod_cast q) (by omega)) q1 q2 q3 q4
theorem hockey (m : Nat) : ∀ o, sumR (fun k => ((bin (m + o - k) m : Nat) : Rat)) (o + 1) = ((bin (m + 1 + o) (m + 1) : Nat) : Rat)
  | 0 => by
    show (0 : Rat) + ((bin (m + 0 - 0) m : Nat) : Rat) = _
    rw [show m + 0 - 0 = m by omega, show m + 1 + 0 = m + 1 by omega, bin_self, bin_self, Rat.zero_add]
  | o + 1 => by
    rw [sumR_head]
    have e : sumR (fun k => ((bin (m + (o + 1) - (k + 1)) m : Nat) : Rat)) (o + 1) = sumR (fun k => ((bin (m + o - k) m : Nat) : Rat)) (o + 1) := sumR_congr fun k _ => by rw [show m + (o + 1) - (k + 1) = m + o - k by omega]
    rw [e, hockey m o]
    have p : bin (m + 1 + (o + 1)) (m + 1) = bin (m + (o + 1) - 0) m + bin (m + 1 + o) (m + 1) := by
      rw [show m + 1 + (o + 1) = (m + 1 + o) + 1 by omega, show m + (o + 1) - 0 = m + 1 + o by omega]; rfl
    rw [p, Rat.natCast_add]
/-- what the law says of the first draw -/
def lawFirst (whole own : Int) : List Rat := if decide (0 < own) = true then (List.range (whole - own + 1).toNat).map fun (k : Nat) => Rat.divInt (chI (whole - (k : Int) - 1) (own - 1)) (chI whole own) else []
section
variable {urn : List Int} {colour whole own : Int}
theorem lawF_term (h0 : 0 < own) (hw : own ≤ whole) {k : Nat} (hk : (k : Int) ≤ whole - own) : Rat.divInt (chI (whole - (k : Int) - 1) (own - 1)) (chI whole own) = ((bin (whole.toNat - k - 1) (own.toNat - 1) : Nat) : Rat) / ((bin whole.toNat own.toNat : Nat) : Rat) := by
  have c1 : chI (whole - (k : Int) - 1) (own - 1) = ((bin (whole.toNat - k - 1) (own.toNat - 1) : Nat) : Int) := by rw [← chI_nat]; congr 1 <;> omega
  have c2 : chI whole own = ((bin whole.toNat own.toNat : Nat) : Int) := by rw [← chI_nat]; congr 1 <;> omega
  rw [c1, c2, divI]; rfl
theorem first_eq (hu : UrnOk urn) (hc : 0 ≤ colour ∧ colour < urn.length) (hw : whole = urn.sum) (ho : own = ixG urn colour) : firstL urn colour = lawFirst whole own := by
  subst hw; subst ho
  have hi := urn_ix hu hc
  unfold firstL lawFirst
  by_cases z : 0 < ixG urn colour
  · have hN : firstN urn colour = (urn.sum - ixG urn colour + 1).toNat := by unfold firstN; rw [if_pos (decide_eq_true z)]
    rw [if_pos (decide_eq_true z), hN]
    refine List.map_congr_left fun k hk => ?_
    have hk := List.mem_range.mp hk
    rw [lawF_term z hi.2.2 (by omega)]
    unfold firstF
    have c1 : chI (urn.sum - ixG urn colour) (k : Int) = ((bin (urn.sum - ixG urn colour).toNat k : Nat) : Int) := by rw [← chI_nat]; congr 1; omega
    have c2 : chI urn.sum (k : Int) = ((bin urn.sum.toNat k : Nat) : Int) := by rw [← chI_nat]; congr 1; omega
    have id := first_id (own := (ixG urn colour).toNat) (o := (urn.sum - ixG urn colour).toNat) (k := k) (by omega) (by omega)
    rw [show (ixG urn colour).toNat + (urn.sum - ixG urn colour).toNat = urn.sum.toNat by omega] at id
    rw [c1, c2, divI, divI, castN hi.1, castN (show 0 ≤ urn.sum - (k : Int) by omega), show (urn.sum - (k : Int)).toNat = urn.sum.toNat - k by omega]
    exact id
  · have hN : firstN urn colour = 0 := by unfold firstN; rw [if_neg (by simpa using z)]; rfl
    rw [if_neg (by simpa using z), hN]; rfl
theorem first_sum (h0 : 0 < own) (hw : own ≤ whole) : (lawFirst whole own).sum = 1 := by
  unfold lawFirst
  rw [if_pos (decide_eq_true h0), sumR_list]
  have e : sumR (fun k : Nat => Rat.divInt (chI (whole - (k : Int) - 1) (own - 1)) (chI whole own)) (whole - own + 1).toNat = sumR (fun k : Nat => (1 / ((bin whole.toNat own.toNat : Nat) : Rat)) * ((bin (own.toNat - 1 + (whole - own).toNat - k) (own.toNat - 1) : Nat) : Rat)) (whole - own + 1).toNat := sumR_congr fun k hk => by
    rw [lawF_term h0 hw (by omega), show whole.toNat - k - 1 = own.toNat - 1 + (whole - own).toNat - k by omega]
    grind
  rw [e, sumR_mul, show (whole - own + 1).toNat = (whole - own).toNat + 1 by omega, hockey, show own.toNat - 1 + 1 + (whole - own).toNat = whole.toNat by omega, show own.toNat - 1 + 1 = own.toNat by omega]
  have hb := bin_pos (n := whole.toNat) (k := own.toNat) (by omega)
  have hB : ((bin whole.toNat own.toNat : Nat) : Rat) ≠ 0 := fun q => absurd (show bin whole.toNat own.toNat = 0 by exact_mod_cast q) (by omega)
  grind
theorem first_bd (h0 : 0 ≤ own) (hw : own ≤ whole) : ∀ r ∈ lawFirst whole own, Bd (2 ^ whole.toNat) (chI whole own).toNat r := fun r hr => by
  unfold lawFirst at hr
  by_cases z : 0 < own
  · rw [if_pos (decide_eq_true z)] at hr
    obtain ⟨k, hk, rfl⟩ := List.mem_map.mp hr
    exact Bd_div (chI_pos ⟨h0, hw⟩) (Nat.le_trans chI_le (Nat.pow_le_pow_right (by decide) (by omega)))
  · rw [if_neg (by simpa using z)] at hr; cases hr
theorem first_len (hw : whole ≤ 360) (ho : 0 ≤ own) : (lawFirst whole own).length ≤ 361 := by
  unfold lawFirst
  split
  · rw [List.length_map, List.length_range]; omega
  · simp
theorem first_pre (h0 : 0 ≤ own) (hw : own ≤ whole) (h61 : whole ≤ 360) (b : Bool) : ∃ M D, (∀ r ∈ (b, lawFirst whole own).2, Bd M D r) ∧ ((b, lawFirst whole own).2.length + 1) * M < 2 ^ 4400 ∧ 0 < D ∧ D < 2 ^ 4400 := by
  have hp := chI_pos (n := whole) (k := own) ⟨h0, hw⟩
  refine ⟨2 ^ whole.toNat, (chI whole own).toNat, first_bd h0 hw, ?_, by omega, ?_⟩
  · have hl := first_len h61 h0
    show ((lawFirst whole own).length + 1) * _ < _
    calc ((lawFirst whole own).length + 1) * 2 ^ whole.toNat ≤ 2 ^ 9 * 2 ^ whole.toNat := Nat.mul_le_mul_right _ (by omega)
      _ = 2 ^ (9 + whole.toNat) := by rw [← Nat.pow_add]
      _ < 2 ^ 4400 := Nat.pow_lt_pow_right (by decide) (by omega)
  · refine Nat.lt_of_le_of_lt (m := (chI whole own).natAbs) (by omega) (Nat.lt_of_le_of_lt chI_le (Nat.pow_lt_pow_right (by decide) (by omega)))
theorem first_gd (h0 : 0 ≤ own) (hw : own ≤ whole) (h61 : whole ≤ 360) : Gd 20 15000000 (eT eQ (lawFirst whole own)) := by
  refine (gd_T (n := 361) (k := 1) (len := 1209) (fun r hr => ?_) (first_len h61 h0)).mono (by decide) (by decide)
  refine ((first_bd h0 hw r hr).qk (k := 360) (Nat.pow_le_pow_right (by decide) (by omega)) ?_).gd (by decide)
  have hp := chI_pos (n := whole) (k := own) ⟨h0, hw⟩
  refine Nat.le_trans (m := (chI whole own).natAbs) (by omega) (Nat.le_trans chI_le (Nat.pow_le_pow_right (by decide) (by omega)))
theorem first_chk (h0 : 0 ≤ own) (hw : own ≤ whole) (b : Bool) {c : Bool} : (!true || (!(lawFirst whole own).isEmpty && (c && !decide ((b, lawFirst whole own).2.sum = (1 : Rat))))) = false := by
  by_cases z : 0 < own
  · rw [nz_ne (show (b, lawFirst whole own).2.sum = 1 from first_sum z hw)]; simp
  · have : lawFirst whole own = [] := by unfold lawFirst; rw [if_neg (by simpa using z)]
    rw [this]; simp
end
/-! ### the rest -/
def lawDue (own many whole : Int) : Option Rat := if decide (own < many) = true then none else some (Rat.divInt (many * (whole + 1)) (own + 1))
theorem due_w {urn : List Int} {colour many whole own : Int} (hw : whole = urn.sum) (ho : own = ixG urn colour) : meanW urn colour many = lawDue own many whole := by
  subst hw; subst ho
  unfold meanW lawDue
  by_cases z : many ≤ ixG urn colour
  · rw [if_pos z, if_neg (by simp; omega)]
  · rw [if_neg z, if_pos (by simp; omega)]
theorem waits_eq {urn : List Int} {colour many whole own : Int} (hw : whole = urn.sum) (ho : own = ixG urn colour) :
    PyData.list [eO eQ (meanW urn colour many), eT eQ (urn.map fun (many : Int) => Rat.divInt many urn.sum)] = PyData.list [eO eQ (lawDue own many whole), eT eQ (urn.map fun (part : Int) => Rat.divInt part whole)] := by
  rw [due_w hw ho, hw]
theorem waits_gd {urn : List Int} {colour many : Int} (hu : UrnOk urn) (hc : 0 ≤ colour ∧ colour < urn.length) (hm : 0 ≤ many ∧ many ≤ 60) : Gd 20 15000000 (PyData.list [eO eQ (meanW urn colour many), eT eQ (urn.map fun (many : Int) => Rat.divInt many urn.sum)]) := by
  have hs := hu.sum_le
  have h0 := hu.2.2.2
  have hi := urn_ix hu hc
  have g1 : Gd 2 100000 (eO eQ (meanW urn colour many)) := by
    unfold meanW
    split
    · have hp : many * (urn.sum + 1) ≤ 60 * 361 := Int.mul_le_mul hm.2 (by omega) (by omega) (by omega)
      have hq : 0 ≤ many * (urn.sum + 1) := Int.mul_nonneg hm.1 (by omega)
      exact ((Qk_divInt (k := 20) (by omega) (by omega) (by omega)).gd (by decide)).mono (by decide) (by decide)
    · exact gd_none.mono (by decide) (by decide)
  have g2 : Gd 2 100000 (eT eQ (urn.map fun (many : Int) => Rat.divInt many urn.sum)) := by
    refine (gd_T (n := 6) (k := 1) (len := 1209) (fun r hr => ?_) (by rw [List.length_map]; exact hu.2.1)).mono (by decide) (by decide)
    obtain ⟨x, hx, rfl⟩ := List.mem_map.mp hr
    have := hu.2.2.1 x hx
    exact (Qk_divInt (k := 20) (by omega) (by omega) (by omega)).gd (by decide)
  exact (gd_list (n := 2) (fun d hd => by
    simp only [List.mem_cons, List.not_mem_nil, or_false] at hd
    rcases hd with rfl | rfl
    · exact g1
    · exact g2) (Nat.le_refl _)).mono (by decide) (by decide)
theorem gone_gd {a b : Int} (ha : 0 ≤ a ∧ a ≤ 60) (hb : 0 ≤ b ∧ b ≤ 60) (h : b + a ≠ 0) : Gd 20 15000000 (eQ (Rat.divInt a (b + a))) :=
  ((Qk_divInt (k := 20) (by omega) (by omega) (by omega)).gd (by decide)).mono (by decide) (by decide)
theorem min_two {a b : Int} : minOf [a, b] ≤ a ∧ minOf [a, b] ≤ b ∧ (minOf [a, b] = a ∨ minOf [a, b] = b) := ⟨minOf_le (by simp), minOf_le (by simp), by
  have := minOf_mem (l := [a, b]) (by simp)
  simpa using this⟩
end Nz

/-! the law's own head, for promises that hold where no repr is on the way -/
namespace Nz
open PySem PySem.Spec PyProof.Rows L2 RZ
/-- what a law's def promises -/
def R_top : List PyData → PyData → Prop := fun ds d => ∃ script : List Int, ds = [eL PyData.int script] ∧ script.length ≤ 100000 ∧ d = PyData.bool true
theorem hide_nil (H : Hp) : hide [] H = H := by
  funext b
  unfold hide
  rw [if_neg (fun m => nomatch m)]
theorem top_sp {K : PySem.W.Frag} {H : Hp} {a : Addr} {ns : List Int} (hl : ns.length ≤ 100000) (hq : SqL K H a (ns.map V.int)) : SpP K R_top [.ref a] H (fun v _ => v = .bl true) E0 :=
  ⟨[], [eL PyData.int ns], .bool true, fun _ m => (nomatch m), by rw [hide_nil]; exact .cons (.lst hq (dpa_ints ns)) .nil, ⟨ns, rfl, hl, rfl⟩, fun v H' _ dz => dp_bl dz⟩
section
variable {P : Program} {w : World} {K : PySem.W.Frag} {mg mb : Str → Option Value} {k : Nat} {g a : Addr} {fd : FuncData} {x : Str} {s : Shared} {us : List Value} {ns : List Int}
/-- the heap that is tracked: the script alone, if it is no part of the module -/
def soleH (K : PySem.W.Frag) (a : Addr) (ob : Obj) (ns : List Int) : Hp := fun b => if b = a then (if (K.lookup a).isSome = true then none else some (.frz ob (.lst (ns.map V.int)))) else none
theorem law_callG (inK : K.In s.heap) (nsG : s.heap.Ns mainGlobals mg) (nsB : s.heap.Ns builtinsNs mb) (bb : ∀ y : Str, y ≠ "__name__" → mb y = bootBuiltins y) (lim : s.heap.NoLimit) (gn : s.gens = #[])
    (at_a : s.heap.get? a = some { cls := .type "list", data := .seq us.toArray }) (allI : IntsAre us ns) (short : ns.length ≤ 100000) (room : Room k callerA)
    (F : ∀ base : Heap, K.In base → base.Ns mainGlobals mg → FnG P w K mg base k g fd [x] (SpP K R_top)) (bnd : ∀ (s : Shared) (u : Value), BindsTo s fd ⟨[u], []⟩ [(x, u)]) :
    codeAny (model P w) callerA (.call (.ref g) ⟨[.ref a], []⟩) (fun r t => r = .ok (.ret (.bool true)) ∧ OldK s.heap t.heap ∧ t.os = s.os ∧ AllBare t.gens) s := by
  have vals := vals_ints allI
  have cnt := allI.length
  have size : ns.length ≤ sizeLine := Nat.le_trans short (by decide)
  let ob : Obj := { cls := .type "list", data := .seq us.toArray }
  let H := soleH K a ob ns
  have off : ∀ {b : Addr}, b ≠ a → H b = none := fun {b} ne => if_neg ne
  have isA : ∀ {b : Addr} {u : HO}, H b = some u → b = a ∧ u = .frz ob (.lst (ns.map V.int)) ∧ K.lookup a = none := fun {b u} e => by
    by_cases q : b = a
    · subst q
      have e : (if True then (if (K.lookup b).isSome = true then none else some (HO.frz ob (.lst (ns.map V.int)))) else none) = some u := by
        have e' := e
        show (if True then _ else _) = _
        rw [if_pos trivial]
        have : H b = (if (K.lookup b).isSome = true then none else some (HO.frz ob (.lst (ns.map V.int)))) := if_pos rfl
        rw [this] at e'; exact e'
      rw [if_pos trivial] at e
      cases z : K.lookup b with
      | some o => rw [z] at e; cases e
      | none => rw [z] at e; cases e; exact ⟨rfl, rfl, rfl⟩
    · rw [off q] at e; cases e
  have seq : SqL K H a (ns.map V.int) := by
    cases z : K.lookup a with
    | some o =>
      have e := inK a o z
      rw [at_a] at e
      cases e
      exact .inr ⟨_, us.toArray, _, z, rfl, rfl, rfl, by rw [List.size_toArray, cnt]; exact size, by simpa using vals⟩
    | none =>
      refine .inl (.inr ⟨ob, ?_⟩)
      show H a = _
      have : H a = (if (K.lookup a).isSome = true then none else some (HO.frz ob (.lst (ns.map V.int)))) := if_pos rfl
      rw [this, z]; rfl
  have hok : HOk P w H s.heap := fun b u e => by
    obtain ⟨rfl, rfl, _⟩ := isA e
    exact ⟨at_a, by rw [List.length_map]; exact size, us, _, vals, at_a⟩
  have back : ∀ {b : Addr} {o : Obj}, s.heap.get? b = some o → H b = none → (hidT s.heap H).get? b = some o := fun e n => hidT_get e n
  have dict : ∀ {b : Addr} {o : Obj} {es : Array DictEntry} {m : Nat}, s.heap.get? b = some o → o.data = .dict es m → H b = none := fun {b o es m} e d => by
    cases q : H b with
    | none => rfl
    | some u =>
      obtain ⟨rfl, _, _⟩ := isA q
      rw [at_a] at e
      cases e
      have d : Data.seq us.toArray _ = Data.dict es m := d
      cases d
  have nsOf : ∀ {b : Addr} {m : Str → Option Value}, s.heap.Ns b m → (hidT s.heap H).Ns b m := fun ⟨o, es, j, e, d, r⟩ => ⟨o, es, j, back e (dict e d), d, r⟩
  have inB : K.In (hidT s.heap H) := fun b o e => back (inK b o e) (by
    cases q : H b with
    | none => rfl
    | some u =>
      obtain ⟨rfl, _, z⟩ := isA q
      rw [z] at e; cases e)
  obtain ⟨mc, lim1, lim2⟩ := lim
  have env : Env0 P w K mg (hidT s.heap H) callerA [] s H := ⟨rfl, ⟨inB, nsOf nsG, ⟨mb, nsOf nsB, bb⟩, ⟨mc, nsOf lim1, lim2⟩⟩, fun _ _ e => of_hidT e, Nat.le_of_eq (hidT_size _ _), trivial, fun b m => absurd (show b ∈ ([] : List Addr) from m) (by simp), hok, .of_eq gn⟩
  have ran := (F _ inB (nsOf nsG)).run callerA [] s H ⟨[.ref a], []⟩ [.ref a] [.ref a] (fun v _ => v = .bl true) room rfl env (bnd s (.ref a)) (.cons rfl .nil) (top_sp short seq)
  refine codeAny_mono ran fun r t h => ?_
  match r, h with
  | .error _, h => exact h.elim
  | .ok .next, h => exact h.elim
  | .ok .brk, h => exact h.elim
  | .ok .cont, h => exact h.elim
  | .ok (.ret u), h =>
    obtain ⟨v, H', os, bare, un, hok', rv, q⟩ := h
    have q : v = .bl true := q
    subst q
    have rv : u = Value.bool true := rv
    subst rv
    refine ⟨rfl, OldK.of_keep fun b o e => ?_, os, bare⟩
    cases q : H b with
    | none => exact un.keep b o e q (fun z => absurd (show b ∈ ([] : List Addr) from z) (by simp)) (by simp)
    | some u =>
      obtain ⟨rfl, rfl, _⟩ := isA q
      have e1 := (hok b _ q).1
      have e2 := (hok' b _ (un.frzs b ob _ q)).1
      rw [e] at e1
      cases e1
      exact e2
end
/-- the goal that k_head leaves -/
theorem walk_ofG {l : PySem.W.OpenLaw} {n k : Nat} {q : Program} {loose : List Str} {XP : (Str → Option Value) → Heap → Prop} {YP : World → Heap → Prop} {d : DefRec} {K : Params → PySem.W.Frag} {x : Str}
    (most : l.most = some n) (small : n ≤ 100000) (none_ : d.params.defaults = []) (room : Room k callerA) (hY : ∀ (w : World) (h : Heap), YP w h → (K w.params).In h)
    (F : ∀ (w : World) (mg : Str → Option Value) (g : Addr) (h : Heap), (K w.params).In h → h.Ns mainGlobals mg → mg d.name = some (.ref g) →
      ∃ fd : FuncData, (∀ (s : Shared) (u : Value), BindsTo s fd ⟨[u], []⟩ [(x, u)]) ∧ ∀ base : Heap, (K w.params).In base → base.Ns mainGlobals mg → FnG l.prog w (K w.params) mg base k g fd [x] (SpP (K w.params) R_top)) :
    PySem.W.WalkO q loose XP YP l.row.toRowW d [] (fun f vs => PySem.call f vs) :=
  Att.attach_call most none_ fun w s₀ s₁ mg mb g o pm cd doc a vs ns G Y ho hd hcd hmg hobj hints hlen hg =>
    have inK := hY w _ Y
    have ⟨_, bnd, all⟩ := F w mg g _ inK G.T.g hmg
    law_callG inK G.T.g G.T.b G.T.builtins G.T.nolimit hg hobj hints (Nat.le_trans hlen small) room all bnd
end Nz

namespace Nz
open PySem PySem.Spec PyProof.Rows L2 RZ
def topS (i : Nat) : Stmt := PySem.Challenge.pw_nosurewin_k76_urns_whose_draws_may_be_ex.main.body.getD i (.Pass ⟨0, 0, 0, 0⟩)
/-- what the top leaves of the names that are no defs -/
structure Gb (mg : Str → Option Value) : Prop where
  abs_ : mg "abs" = none
  all_ : mg "all" = none
  bool_ : mg "bool" = none
  enumerate_ : mg "enumerate" = none
  int_ : mg "int" = none
  isinstance_ : mg "isinstance" = none
  len_ : mg "len" = none
  list_ : mg "list" = none
  max_ : mg "max" = none
  min_ : mg "min" = none
  range_ : mg "range" = none
  repr_ : mg "repr" = none
  sum_ : mg "sum" = none
  tuple_ : mg "tuple" = none
  zip_ : mg "zip" = none
  c_MAX_BALLS : ∃ t, mg "MAX_BALLS" = some (.int 60 t)
  c_MAX_COLOURS : ∃ t, mg "MAX_COLOURS" = some (.int 6 t)
  c_MAX_DRAWS : ∃ t, mg "MAX_DRAWS" = some (.int 60 t)



/-! ### the law's own defs that touch the state -/
abbrev s_law_start : Stmt := topS 29
abbrev N_law_start : List Str := ["script", "seed", "cell"]
theorem sc_law_start : FnScope N_law_start ["script"] (defScope s_law_start) := ⟨rfl, rfl, rfl, by decide +kernel, rfl, by decide +kernel, by decide +kernel⟩
def R_law_start : List PyData → List PyData → Prop := fun ds es => ∃ script : List Int, ds = [eL .int script] ∧ script.length ≤ 100000 ∧ es = [.list (script.map .int), .int 0, .int 0, .int (seedOf script : Nat)]
theorem ok_law_start {P : Program} {w : World} {K : PySem.W.Frag} {mg : Str → Option Value} {base : Heap} (B : Gb mg) (F : Fd K mg "_law_start" s_law_start) : Cl P w K mg base 1 "_law_start" ["script"] (SpL K R_law_start) := by
  obtain ⟨f, fd, F, hm⟩ := F.ex
  refine ⟨f, fd, fnG_of (k := 0) F sc_law_start (spL_len fun ds d h => ?_) (fun cdv A outer s H hr hgd => ⟨_, (pss_cons (ps_set (i := 1) sc_law_start.nd rfl (Or.inl rfl) pe_int)
    (pss_cons (ps_for PassesOwn.never rfl (pi_list (pv 0)) (pg_name (i := 2) sc_law_start.nd rfl (Or.inl rfl)) (pss_one (ps_set (i := 1) sc_law_start.nd rfl (Or.inl rfl) (pe_op op_add (pe_op op_mod (pe_callTy call_int1 (by rfl) B.int_ PyProof.Rows.boot_int (pa_cons (pe_op op_add (pe_op op_mulG (pv 1) pe_int) (pv 2)) pa_nil)) pe_int) pe_int))))
    (pss_one (ps_ret (pe_lst (pa_cons (pe_callTy call_list_of (by rfl) B.list_ PyProof.Rows.boot_list (pa_cons (pv 0) pa_nil)) (pa_cons pe_int (pa_cons pe_int (pa_cons (pv 1) pa_nil))))))))), fun vs Q => fn_new (N := N_law_start) (fun ds d h => ?_) (fun B S ds d h D hR => ?_) vs H Q E0⟩), hm, F.kp, F.binds fun _ _ _ _ _ _ us hl => match us, hl with | [_], _ => rfl⟩
  · obtain ⟨script, rfl, h0, h1⟩ := h; rfl
  · obtain ⟨script, rfl, h0, h1⟩ := h; simp
  · obtain ⟨script, rfl, h0, h1⟩ := h
    subst h1
    show Ss _ _ [.da (eL .int script), .no, .no] _ _
    refine s_seq (s_asg ed_int (s_le (ρ1 := [.da (eL .int script), .da (.int ((seedOf [] : Nat) : Int)), .no]) (le_rfl rfl) ?_))
    refine s_seq (s_forX script (fun x => Itm.hard (PyData.int x)) (ei_listX (ed_var rfl)) (fun i => [.da (eL .int script), .da (.int ((seedOf (script.take i) : Nat) : Int)), .no]) (le_same (le_same (le_no le_nil))) (fun T' hT i x hx => ⟨_, [2], eg_name (by decide), ?_⟩) ?_)
    · show Ss _ _ [.da (eL .int script), .da (.int ((seedOf (script.take i) : Nat) : Int)), .da (.int x)] _ _
      refine s_asg (ed_I0 (ed_I (ed_intI (ed_I0 (ed_I (ed_var rfl) ed_int (mul_r (by omega) (by omega))) (ed_var rfl))) ed_int (by omega)) ed_int) (s_end (ρ1 := [.da (eL .int script), .da (.int ((seedOf (script.take (i + 1)) : Nat) : Int)), .no]) (le_same (le_da (congrArg PyData.int (seedOf_step hx).2) (le_no le_nil))))
    · refine s_retL (el_is (el_lst (ds := [eL .int script, .int 0, .int 0, .int ((seedOf (script.take script.length) : Nat) : Int)]) (ea_cons (ed_L (el_listOf (.inl (ed_var rfl)))) (ea_cons ed_int (ea_cons ed_int (ea_cons (ed_var rfl) ea_nil))))) (by rw [List.take_length])) hR
abbrev s_law_draw : Stmt := topS 30
abbrev N_law_draw : List Str := ["state", "many", "value"]
theorem sc_law_draw : FnScope N_law_draw ["state", "many"] (defScope s_law_draw) := ⟨rfl, rfl, rfl, by decide +kernel, rfl, by decide +kernel, by decide +kernel⟩
theorem ok_law_draw {P : Program} {w : World} {K : PySem.W.Frag} {mg : Str → Option Value} {base : Heap} (B : Gb mg) (F : Fd K mg "_law_draw" s_law_draw) : Cl P w K mg base 1 "_law_draw" ["state", "many"] (SpW K R_draw) := by
  obtain ⟨f, fd, F, hm⟩ := F.ex
  refine ⟨f, fd, fnG_of (k := 0) F sc_law_draw (spW_len fun ds d h => ?_) (fun cdv A outer s H hr hgd => ⟨_, (pss_cons (ps_if (PW.pt (pw_and (pt_cmpR (op_eqD hr.units) (pe_ix ix_list (pv 0) pe_int (fun _ _ => rfl)) pe_int (nomark _)) (pw_and1 (pt_cmpR op_ge (pe_ix ix_list (pv 0) pe_int (fun _ _ => rfl)) (pe_callB call_len_seq (by rfl) B.len_ PySem.boot_len (pa_cons (pe_ix ix_list (pv 0) pe_int (fun _ _ => rfl)) pa_nil)) (nomark _)))))
      (pss_cons (ps_asg (pe_op op_mod (pe_callTy call_int1 (by rfl) B.int_ PyProof.Rows.boot_int (pa_cons (pe_op op_add (pe_op op_mulG (pe_ix ix_list (pv 0) pe_int (fun _ _ => rfl)) pe_int) pe_int) pa_nil)) pe_int) (pg_sub (pv 0) pe_int set_list (fun _ => rfl)) rfl)
        (pss_one (ps_ret (pe_op op_mod (pe_callTy call_int1 (by rfl) B.int_ PyProof.Rows.boot_int (pa_cons (pe_op op_fdivG (pe_ix ix_list (pv 0) pe_int (fun _ _ => rfl)) pe_int) pa_nil)) (pv 1))))) pss_nil)
    (pss_cons (ps_if (pt_cmpR (op_eqD hr.units) (pe_ix ix_list (pv 0) pe_int (fun _ _ => rfl)) pe_int (nomark _))
      (pss_cons (ps_asg (pe_callB call_abs (by rfl) B.abs_ PyProof.Rows.boot_abs (pa_cons (pe_ix ix_list (pe_ix ix_list (pv 0) pe_int (fun _ _ => rfl)) (pe_ix ix_list (pv 0) pe_int (fun _ _ => rfl)) (fun _ _ => rfl)) pa_nil)) (pg_sub (pv 0) pe_int set_list (fun _ => rfl)) rfl)
        (pss_one (ps_asg (pe_op op_add (pe_ix ix_list (pv 0) pe_int (fun _ _ => rfl)) pe_int) (pg_sub (pv 0) pe_int set_list (fun _ => rfl)) rfl))) pss_nil)
    (pss_cons (ps_set (i := 2) sc_law_draw.nd rfl (Or.inl rfl) (pe_op op_mod (pe_callTy call_int1 (by rfl) B.int_ PyProof.Rows.boot_int (pa_cons (pe_ix ix_list (pv 0) pe_int (fun _ _ => rfl)) pa_nil)) (pv 1)))
    (pss_cons (ps_asg (pe_op op_fdivG (pe_ix ix_list (pv 0) pe_int (fun _ _ => rfl)) (pv 1)) (pg_sub (pv 0) pe_int set_list (fun _ => rfl)) rfl)
    (pss_one (ps_ret (pv 2))))))), fun vs Q => fn_draws (N := N_law_draw) (fun ds d h => ?_) (fun B S a ds Φ h D hR => ?_) vs H Q E0⟩), hm, F.kp, F.binds fun _ _ _ _ _ _ us hl => match us, hl with | [_, _], _ => rfl⟩
  · obtain ⟨many, rfl, h0, h1, h2⟩ := h; rfl
  · obtain ⟨many, rfl, h0, h1, h2⟩ := h; simp
  · obtain ⟨many, rfl, h0, h1, hΦ⟩ := h
    show Ss _ _ [.mu false a (.any StOk), .da (.int many), .no] _ _
    refine s_open (i := 0) rfl (fun ds hds => ?_)
    obtain ⟨l, cur, pos, seed, rfl⟩ := hds
    have fin : ∀ (l : List Int) (cur pos seed : Nat) (y : Int) (z : Sl), 0 ≤ y ∧ y < many → ∀ {te : TE} {T : Tm} {ρ : List Sl}, Ed ⟨K, B, [a], S⟩ ρ te (.int y) [.mu false a (.lst [.list (l.map .int), .int (cur : Int), .int (pos : Int), .int (seed : Int)]), .da (.int many), z] → Ss ⟨K, B, [a], S⟩ T ρ (tRet te) D := fun l cur pos seed y z hy te T ρ h σ H W =>
      h T σ H W _ fun v H1 W1 => by
        have W2 := W1.le (le_any (P := StOk) ⟨l, cur, pos, seed, rfl⟩ (le_same (le_same le_nil)))
        exact hR _ (hΦ y hy) v H1 W2.keep (fun p hp => by
          simp only [List.mem_singleton] at hp
          subst hp
          exact (W2.ok 0 _ rfl).2.2.mono hide_S0 rfl) (dpm hide_S0 W2.dp)
    have md : ∀ x : Int, 0 ≤ x % many ∧ x % many < many := fun x => ⟨Int.emod_nonneg _ (by omega), Int.emod_lt_of_pos _ h0⟩
    show Ss _ _ [.mu false a (.lst [.list (l.map .int), .int (cur : Int), .int (pos : Int), .int (seed : Int)]), .da (.int many), .no] _ _
    refine s_seq (s_if (b := decide ((cur : Int) = 0) && decide ((l.length : Int) ≤ (pos : Int))) (et_and (et_test (ed_eqI (ed_ixM ed_int rfl ⟨_, _, rfl⟩ rfl) ed_int)) (fun _ => et_test (ed_B0 (ed_ixM ed_int rfl ⟨_, _, rfl⟩ rfl) (ed_lenLX (ed_ixM ed_int rfl ⟨_, _, rfl⟩ rfl))))) (fun hc => ?_) (fun hc => ?_))
    · refine s_seq (s_setL (i := 0) (n := 3) (ed_I (ed_intI (ed_I0 (ed_I (ed_ixM ed_int rfl ⟨_, _, rfl⟩ rfl) ed_int (mul_r (by omega) (by omega))) ed_int)) ed_int (by omega)) ed_int ⟨_, _, rfl⟩ rfl rfl (s_le (ρ1 := [.mu false a (.lst [.list (l.map .int), .int (cur : Int), .int (pos : Int), .int ((((seed * 48271 + 69621) % 2147483629 : Nat)) : Int)]), .da (.int many), .no]) (le_rfl rfl) ?_))
      exact fin l cur pos ((seed * 48271 + 69621) % 2147483629) (((((seed * 48271 + 69621) % 2147483629 : Nat)) : Int) / 13 % many) .no (md _) (ed_I (ed_intI (ed_I (ed_ixM ed_int rfl ⟨_, _, rfl⟩ rfl) ed_int (div_small (by omega) (by omega)))) (ed_var rfl) h0)
    refine s_seq ?_
    refine s_next ?_
    have rest : ∀ (T : Tm) (cur pos : Nat), Sk ⟨K, B, [a], S⟩ T [.mu false a (.lst [.list (l.map .int), .int (cur : Int), .int (pos : Int), .int (seed : Int)]), .da (.int many), .no] (tSeq (tAsg (tOp (rI (fun _ j => 0 < j) fun i j => .int (i % j)) (tCB (fun xs H Q => (∃ i, xs = [.int i] ∧ Q (.int i) H) ∨ ∃ k, xs = [.bl k] ∧ Q (.int (if k then 1 else 0)) H) (tCons (tOp (rIxL K) (tVar 0) (tC (.int 1))) tNil)) (tVar 1)) (gName 2)) (tSeq (tAsg (tOp (rI CDivG fun i j => .int (i / j)) (tOp (rIxL K) (tVar 0) (tC (.int 1))) (tVar 1)) (gSub (tVar 0) (tC (.int 1)) rSetL)) (tRet (tVar 2))) D) := fun T cur pos => by
      refine s_seq (s_asg (ed_I (ed_intI (ed_ixM ed_int rfl ⟨_, _, rfl⟩ rfl)) (ed_var rfl) h0) (s_le (ρ1 := [.mu false a (.lst [.list (l.map .int), .int (cur : Int), .int (pos : Int), .int (seed : Int)]), .da (.int many), .da (.int ((cur : Int) % many))]) (le_rfl rfl) ?_))
      refine s_seq (s_setL (i := 0) (n := 1) (ed_I (ed_ixM ed_int rfl ⟨_, _, rfl⟩ rfl) (ed_var rfl) (div_small h0 (by omega))) ed_int ⟨_, _, rfl⟩ rfl rfl (s_le (ρ1 := [.mu false a (.lst [.list (l.map .int), .int ((cur / many.toNat : Nat) : Int), .int (pos : Int), .int (seed : Int)]), .da (.int many), .da (.int ((cur : Int) % many))]) (le_rfl ?_) ?_))
      · have e : ((cur / many.toNat : Nat) : Int) = (cur : Int) / many := by rw [Int.natCast_ediv, Int.toNat_of_nonneg (by omega)]
        rw [e]; rfl
      exact fin l _ pos seed _ _ (md _) (ed_var rfl)
    refine s_seq (s_if (b := decide ((cur : Int) = 0)) (et_test (ed_eqI (ed_ixM ed_int rfl ⟨_, _, rfl⟩ rfl) ed_int)) (fun hc2 => ?_) (fun hc2 => ?_))
    · have hp : pos < l.length := by simp only [hc2, Bool.true_and] at hc; have := of_decide_eq_false hc; omega
      refine s_seq (s_setL (i := 0) (n := 1) (ed_abs (ed_ixL (ed_ixM ed_int rfl ⟨_, _, rfl⟩ rfl) (ed_ixM ed_int rfl ⟨_, _, rfl⟩ rfl) (d := .int l[pos]) (by rw [atI_nat (v := PyData.int l[pos]) (by simp [hp])]))) ed_int ⟨_, _, rfl⟩ rfl rfl (s_le (ρ1 := [.mu false a (.lst [.list (l.map .int), .int (l[pos].natAbs : Int), .int (pos : Int), .int (seed : Int)]), .da (.int many), .no]) (le_rfl rfl) ?_))
      refine s_setL (i := 0) (n := 2) (ed_I0 (ed_ixM ed_int rfl ⟨_, _, rfl⟩ rfl) ed_int) ed_int ⟨_, _, rfl⟩ rfl rfl (s_le (ρ1 := [.mu false a (.lst [.list (l.map .int), .int (l[pos].natAbs : Int), .int ((pos + 1 : Nat) : Int), .int (seed : Int)]), .da (.int many), .no]) (le_rfl rfl) ?_)
      exact rest _ _ _
    · refine s_next ?_
      exact rest _ _ _
abbrev s_law_pick : Stmt := topS 31
abbrev N_law_pick : List Str := ["state", "some"]
theorem sc_law_pick : FnScope N_law_pick ["state", "some"] (defScope s_law_pick) := ⟨rfl, rfl, rfl, by decide +kernel, rfl, by decide +kernel, by decide +kernel⟩
theorem ok_law_pick {P : Program} {w : World} {K : PySem.W.Frag} {mg : Str → Option Value} {base : Heap} (B : Gb mg) (F : Fd K mg "_law_pick" s_law_pick) (C_law_draw : Cl P w K mg base 1 "_law_draw" ["state", "many"] (SpW K R_draw)) : Cl P w K mg base 2 "_law_pick" ["state", "some"] (SpW K R_pick) := by
  obtain ⟨f, fd, F, hm⟩ := F.ex
  refine ⟨f, fd, fnG_of (k := 1) F sc_law_pick (spW_len fun ds d h => ?_) (fun cdv A outer s H hr hgd => ⟨_, (pss_one (ps_ret (pe_ix ix_any (pv 1) (pe_cl C_law_draw (hr.mono (by decide)) hgd (by rfl) (pa_cons (pv 0) (pa_cons (pe_callB call_len_seq (by rfl) B.len_ PySem.boot_len (pa_cons (pv 1) pa_nil)) pa_nil))) (fun _ _ => rfl)))), fun vs Q => fn_draws (N := N_law_pick) (fun ds d h => ?_) (fun B S a ds Φ h D hR => ?_) vs H Q E0⟩), hm, F.kp, F.binds fun _ _ _ _ _ _ us hl => match us, hl with | [_, _], _ => rfl⟩
  · obtain ⟨l, rfl | rfl, _⟩ := h <;> rfl
  · obtain ⟨l, rfl | rfl, _⟩ := h <;> simp
  · obtain ⟨l, hl, h0, h1, hΦ⟩ := h
    rcases hl with rfl | rfl
    · show Ss _ _ [.mu false a (.any StOk), .da (.list l)] _ _
      refine s_retW (i := 0) (ρ1 := [.mu false a (.any StOk), .da (.list l)]) (P := fun d => d ∈ l) (f := fun d => d) (ew_ixAny (ds := l) (.inl rfl) (ed_var rfl) (ew_draw (ew_det (f := PyData.int) (x := (l.length : Int)) (ed_lenL (ed_var rfl))) rfl rfl (by rintro _ rfl; omega)) (by rintro x ⟨m, rfl, hx⟩; exact hx)) rfl hR hΦ
    · show Ss _ _ [.mu false a (.any StOk), .da (.tuple l)] _ _
      refine s_retW (i := 0) (ρ1 := [.mu false a (.any StOk), .da (.tuple l)]) (P := fun d => d ∈ l) (f := fun d => d) (ew_ixAny (ds := l) (.inr rfl) (ed_var rfl) (ew_draw (ew_det (f := PyData.int) (x := (l.length : Int)) (ed_lenT (ed_var rfl))) rfl rfl (by rintro _ rfl; omega)) (by rintro x ⟨m, rfl, hx⟩; exact hx)) rfl hR hΦ


/-! ### is_integer -/
abbrev s_is_integer : Stmt := topS 4
abbrev N_is_integer : List Str := ["value"]
theorem sc_is_integer : FnScope N_is_integer ["value"] (defScope s_is_integer) := ⟨rfl, rfl, rfl, by decide +kernel, rfl, by decide +kernel, by decide +kernel⟩
def R_is_integer : List PyData → PyData → Prop := fun ds d => ∃ (value : PyData), ds = [value] ∧ d = (PyData.bool (isIntD value))
set_option maxHeartbeats 4000000 in
theorem ok_is_integer {P : Program} {w : World} {K : PySem.W.Frag} {mg : Str → Option Value} {base : Heap} (B : Gb mg) (F : Fd K mg "is_integer" s_is_integer) : Cl P w K mg base 1 "is_integer" ["value"] (SpP K R_is_integer) := by
  obtain ⟨f, fd, F, hm⟩ := F.ex
  refine ⟨f, fd, fnG_of (k := 0) F sc_is_integer (spP_len fun ds d h => ?_) (fun cdv A outer s H hr hgd => ⟨_, (pss_one (ps_ret (pe_and (pe_callB (r := rIsi K) call_isi (by rfl) B.isinstance_ boot_isinstance (pa_cons (pv 0) (pa_cons (pe_bltn (v := .ty "int") (u := .type "int") (by rfl) B.int_ PyProof.Rows.boot_int rfl) pa_nil))) (pe_one (pe_not (pe_callB (r := rIsi K) call_isi (by rfl) B.isinstance_ boot_isinstance (pa_cons (pv 0) (pa_cons (pe_bltn (v := .ty "bool") (u := .type "bool") (by rfl) B.bool_ (by decide +kernel) rfl) pa_nil)))))))), fun vs Q => fn_pure (N := N_is_integer) (fun ds d h => ?_) (fun B S ds d h D hR hN => ?_) vs H Q E0⟩), hm, F.kp, F.binds fun _ _ _ _ _ _ us hl => match us, hl with | [_], _ => rfl⟩
  · obtain ⟨value, rfl, rfl⟩ := h; rfl
  · obtain ⟨value, rfl, rfl⟩ := h; simp
  · obtain ⟨value, rfl, rfl⟩ := h
    show Ss _ _ [.da value] _ _
    exact s_ret (ed_is (ed_and (ed_isiD (ed_var rfl) (by exact kit_int _)) (fun hb1 => (ed_not (ed_isiD (ed_var rfl) (by exact kit_bool _))))) (by rfl : (PyData.bool ((isi_int value) && (!(isi_bool value)))) = (PyData.bool (isIntD value)))) hR

/-! ### greatest_divisor -/
abbrev s_greatest_divisor : Stmt := topS 9
abbrev N_greatest_divisor : List Str := ["first", "second"]
theorem sc_greatest_divisor : FnScope N_greatest_divisor ["first", "second"] (defScope s_greatest_divisor) := ⟨rfl, rfl, rfl, by decide +kernel, rfl, by decide +kernel, by decide +kernel⟩
def R_greatest_divisor : List PyData → PyData → Prop := fun ds d => ∃ (first : Nat) (second : Nat), ds = [(eN first), (eN second)] ∧ d = (eN (Nat.gcd first second))
set_option maxHeartbeats 4000000 in
theorem ok_greatest_divisor {P : Program} {w : World} {K : PySem.W.Frag} {mg : Str → Option Value} {base : Heap} (B : Gb mg) (F : Fd K mg "greatest_divisor" s_greatest_divisor) : Cl P w K mg base 1 "greatest_divisor" ["first", "second"] (SpP K R_greatest_divisor) := by
  obtain ⟨f, fd, F, hm⟩ := F.ex
  refine ⟨f, fd, fnG_of (k := 0) F sc_greatest_divisor (spP_len fun ds d h => ?_) (fun cdv A outer s H hr hgd => ⟨_, (pss_cons (ps_while PassesOwn.never (pt_cmpR op_gt (pv 1) pe_int (nomark _)) (pss_one (ps_par (i := 0) (j := 1) rfl sc_greatest_divisor.nd rfl rfl (by decide) rfl rfl (pa_cons (pv 1) (pa_cons (pe_op op_mod (pv 0) (pv 1)) pa_nil)) rfl rfl))) (pss_one (ps_ret (pv 0)))), fun vs Q => fn_pure (N := N_greatest_divisor) (fun ds d h => ?_) (fun B S ds d h D hR hN => ?_) vs H Q E0⟩), hm, F.kp, F.binds fun _ _ _ _ _ _ us hl => match us, hl with | [_, _], _ => rfl⟩
  · obtain ⟨first, second, rfl, rfl⟩ := h; rfl
  · obtain ⟨first, second, rfl, rfl⟩ := h; simp
  · obtain ⟨first, second, rfl, rfl⟩ := h
    show Ss _ _ [.da (PyData.int (first : Int)), .da (PyData.int (second : Int))] _ _
    refine s_seq (s_while (α := Nat × Nat) (fun a => [.da (PyData.int (a.1 : Int)), .da (PyData.int (a.2 : Int))]) (fun a => Nat.gcd a.1 a.2 = Nat.gcd first second) (fun a => a.2) ((first, second)) (by rfl) (le_da (by rfl) (le_da (by rfl) le_nil)) (fun a hP => ⟨_, _, (et_test (ed_B0 (ed_var rfl) ed_int)), fun hb => ?_, fun hb => ?_⟩))
    · refine (s_par (ea_cons (ed_var rfl) (ea_cons (ed_I (ed_var rfl) (ed_var rfl) (by have := of_decide_eq_true hb; omega)) ea_nil)) (s_le (ρ1 := [.da (PyData.int (a.2 : Int)), .da (PyData.int ((a.1 : Int) % (a.2 : Int)))]) (le_rfl rfl) ?_))
      exact s_endW ((a.2, a.1 % a.2)) (by exact (gcd_turn a.1 a.2).trans hP) (by have := of_decide_eq_true hb; exact Nat.mod_lt _ (by omega)) (le_da (by rfl) (le_da (by rfl) le_nil))
    · exact s_ret (ed_is (ed_var rfl) (by exact gcd_end hP hb : (PyData.int (a.1 : Int)) = (eN (Nat.gcd first second)))) hR

/-! ### quotient -/
abbrev s_quotient : Stmt := topS 10
abbrev N_quotient : List Str := ["up", "down", "divisor"]
theorem sc_quotient : FnScope N_quotient ["up", "down"] (defScope s_quotient) := ⟨rfl, rfl, rfl, by decide +kernel, rfl, by decide +kernel, by decide +kernel⟩
def R_quotient : List PyData → PyData → Prop := fun ds d => ∃ (up : Int) (down : Int), ds = [(PyData.int up), (PyData.int down)] ∧ (down ≠ 0) ∧ (down.natAbs < 2 ^ 8999) ∧ d = (eQ (Rat.divInt up down))
set_option maxHeartbeats 4000000 in
theorem ok_quotient {P : Program} {w : World} {K : PySem.W.Frag} {mg : Str → Option Value} {base : Heap} (B : Gb mg) (F : Fd K mg "quotient" s_quotient) (C_greatest_divisor : Cl P w K mg base 1 "greatest_divisor" ["first", "second"] (SpP K R_greatest_divisor)) : Cl P w K mg base 2 "quotient" ["up", "down"] (SpP K R_quotient) := by
  obtain ⟨f, fd, F, hm⟩ := F.ex
  refine ⟨f, fd, fnG_of (k := 1) F sc_quotient (spP_len fun ds d h => ?_) (fun cdv A outer s H hr hgd => ⟨_, (pss_cons (ps_if (pt_cmpR op_lt (pv 1) pe_int (nomark _)) (pss_one (ps_par (i := 0) (j := 1) rfl sc_quotient.nd rfl rfl (by decide) rfl rfl (pa_cons (pe_un un_neg (pv 0)) (pa_cons (pe_un un_neg (pv 1)) pa_nil)) rfl rfl)) pss_nil) (pss_cons (ps_set (i := 2) sc_quotient.nd rfl (Or.inl rfl) (pe_cl C_greatest_divisor (hr.mono (by decide)) hgd (by rfl) (pa_cons (pe_callB call_abs (by rfl) B.abs_ PyProof.Rows.boot_abs (pa_cons (pv 0) pa_nil)) (pa_cons (pv 1) pa_nil)))) (pss_one (ps_ret (pe_tupF (pa_cons (pe_op op_fdivG (pv 0) (pv 2)) (pa_cons (pe_op op_fdivG (pv 1) (pv 2)) pa_nil))))))), fun vs Q => fn_pure (N := N_quotient) (fun ds d h => ?_) (fun B S ds d h D hR hN => ?_) vs H Q E0⟩), hm, F.kp, F.binds fun _ _ _ _ _ _ us hl => match us, hl with | [_, _], _ => rfl⟩
  · obtain ⟨up, down, rfl, h0, h1, rfl⟩ := h; rfl
  · obtain ⟨up, down, rfl, h0, h1, rfl⟩ := h; simp
  · obtain ⟨up, down, rfl, h0, h1, rfl⟩ := h
    show Ss _ _ [.da (PyData.int up), .da (PyData.int down), .no] _ _
    refine s_seq (s_if (b := (decide (down < (0 : Int)))) (et_test (ed_B0 (ed_var rfl) ed_int)) (fun hc0 => ?_) (fun hc0 => ?_))
    · refine (s_par (ea_cons (ed_neg (ed_var rfl)) (ea_cons (ed_neg (ed_var rfl)) ea_nil)) (s_le (ρ1 := [.da (PyData.int (-up)), .da (PyData.int (-down)), .no]) (le_rfl rfl) ?_))
      refine s_seq (s_asg (ed_call (ds := [(eN ((-up)).natAbs), (eN ((-down)).natAbs)]) (ea_cons (ed_abs (ed_var rfl)) (ea_cons (ed_is (ed_var rfl) (by exact eN_abs (by first | (have := of_decide_eq_true hc0; omega) | (have := of_decide_eq_false hc0; omega)) : _ = (eN ((-down)).natAbs))) ea_nil)) ⟨((-up)).natAbs, ((-down)).natAbs, rfl, rfl⟩) (s_le (ρ1 := [.da (PyData.int (-up)), .da (PyData.int (-down)), .da (PyData.int (((Nat.gcd (((-up)).natAbs) (((-down)).natAbs)) : Nat) : Int))]) (le_rfl rfl) ?_))
      exact s_ret (ed_is (ed_tup (ds := [(PyData.int ((-up) / (((Nat.gcd (((-up)).natAbs) (((-down)).natAbs)) : Nat) : Int))), (PyData.int ((-down) / (((Nat.gcd (((-up)).natAbs) (((-down)).natAbs)) : Nat) : Int)))]) (ea_cons (ed_I (ed_var rfl) (ed_var rfl) (by first | exact quo_div h0 h1 | exact quo_div (by omega) (by rw [Int.natAbs_neg]; exact h1))) (ea_cons (ed_I (ed_var rfl) (ed_var rfl) (by first | exact quo_div h0 h1 | exact quo_div (by omega) (by rw [Int.natAbs_neg]; exact h1))) ea_nil))) (by exact quo_neg hc0 : ((eP PyData.int PyData.int) (((-up) / (((Nat.gcd (((-up)).natAbs) (((-down)).natAbs)) : Nat) : Int)), ((-down) / (((Nat.gcd (((-up)).natAbs) (((-down)).natAbs)) : Nat) : Int)))) = (eQ (Rat.divInt up down)))) hR
    · refine s_next ?_
      refine s_seq (s_asg (ed_call (ds := [(eN (up).natAbs), (eN (down).natAbs)]) (ea_cons (ed_abs (ed_var rfl)) (ea_cons (ed_is (ed_var rfl) (by exact eN_abs (by first | (have := of_decide_eq_true hc0; omega) | (have := of_decide_eq_false hc0; omega)) : _ = (eN (down).natAbs))) ea_nil)) ⟨(up).natAbs, (down).natAbs, rfl, rfl⟩) (s_le (ρ1 := [.da (PyData.int up), .da (PyData.int down), .da (PyData.int (((Nat.gcd ((up).natAbs) ((down).natAbs)) : Nat) : Int))]) (le_rfl rfl) ?_))
      exact s_ret (ed_is (ed_tup (ds := [(PyData.int (up / (((Nat.gcd ((up).natAbs) ((down).natAbs)) : Nat) : Int))), (PyData.int (down / (((Nat.gcd ((up).natAbs) ((down).natAbs)) : Nat) : Int)))]) (ea_cons (ed_I (ed_var rfl) (ed_var rfl) (by first | exact quo_div h0 h1 | exact quo_div (by omega) (by rw [Int.natAbs_neg]; exact h1))) (ea_cons (ed_I (ed_var rfl) (ed_var rfl) (by first | exact quo_div h0 h1 | exact quo_div (by omega) (by rw [Int.natAbs_neg]; exact h1))) ea_nil))) (by exact quo_pos h0 hc0 : ((eP PyData.int PyData.int) ((up / (((Nat.gcd ((up).natAbs) ((down).natAbs)) : Nat) : Int)), (down / (((Nat.gcd ((up).natAbs) ((down).natAbs)) : Nat) : Int)))) = (eQ (Rat.divInt up down)))) hR

/-! ### plus -/
abbrev s_plus : Stmt := topS 11
abbrev N_plus : List Str := ["first", "second"]
theorem sc_plus : FnScope N_plus ["first", "second"] (defScope s_plus) := ⟨rfl, rfl, rfl, by decide +kernel, rfl, by decide +kernel, by decide +kernel⟩
def R_plus : List PyData → PyData → Prop := fun ds d => ∃ (first : Rat) (second : Rat), ds = [(eQ first), (eQ second)] ∧ (Qb first) ∧ (Qb second) ∧ d = (eQ (first + second))
set_option maxHeartbeats 4000000 in
theorem ok_plus {P : Program} {w : World} {K : PySem.W.Frag} {mg : Str → Option Value} {base : Heap} (B : Gb mg) (F : Fd K mg "plus" s_plus) (C_quotient : Cl P w K mg base 2 "quotient" ["up", "down"] (SpP K R_quotient)) : Cl P w K mg base 3 "plus" ["first", "second"] (SpP K R_plus) := by
  obtain ⟨f, fd, F, hm⟩ := F.ex
  refine ⟨f, fd, fnG_of (k := 2) F sc_plus (spP_len fun ds d h => ?_) (fun cdv A outer s H hr hgd => ⟨_, (pss_one (ps_ret (pe_cl C_quotient (hr.mono (by decide)) hgd (by rfl) (pa_cons (pe_op op_add (pe_op op_mulG (pe_ix (r := rIxT K) ix_tup (pv 0) pe_int (fun _ _ => rfl)) (pe_ix (r := rIxT K) ix_tup (pv 1) pe_int (fun _ _ => rfl))) (pe_op op_mulG (pe_ix (r := rIxT K) ix_tup (pv 1) pe_int (fun _ _ => rfl)) (pe_ix (r := rIxT K) ix_tup (pv 0) pe_int (fun _ _ => rfl)))) (pa_cons (pe_op op_mulG (pe_ix (r := rIxT K) ix_tup (pv 0) pe_int (fun _ _ => rfl)) (pe_ix (r := rIxT K) ix_tup (pv 1) pe_int (fun _ _ => rfl))) pa_nil))))), fun vs Q => fn_pure (N := N_plus) (fun ds d h => ?_) (fun B S ds d h D hR hN => ?_) vs H Q E0⟩), hm, F.kp, F.binds fun _ _ _ _ _ _ us hl => match us, hl with | [_, _], _ => rfl⟩
  · obtain ⟨first, second, rfl, h0, h1, rfl⟩ := h; rfl
  · obtain ⟨first, second, rfl, h0, h1, rfl⟩ := h; simp
  · obtain ⟨first, second, rfl, h0, h1, rfl⟩ := h
    show Ss _ _ [.da (eQ first), .da (eQ second)] _ _
    exact s_ret (ed_is (ed_call (ds := [(PyData.int (((first).num * ((second).den : Int)) + ((second).num * ((first).den : Int)))), (PyData.int (((first).den : Int) * ((second).den : Int)))]) (ea_cons (ed_I0 (ed_I (ed_ixT (ed_var rfl) ed_int rfl) (ed_ixT (ed_var rfl) ed_int rfl) (by first | exact mul_nd h0 h1 | exact mul_nd h1 h0 | exact mul_dd h0 h1)) (ed_I (ed_ixT (ed_var rfl) ed_int rfl) (ed_ixT (ed_var rfl) ed_int rfl) (by first | exact mul_nd h0 h1 | exact mul_nd h1 h0 | exact mul_dd h0 h1))) (ea_cons (ed_I (ed_ixT (ed_var rfl) ed_int rfl) (ed_ixT (ed_var rfl) ed_int rfl) (by first | exact mul_nd h0 h1 | exact mul_nd h1 h0 | exact mul_dd h0 h1)) ea_nil)) ⟨(((first).num * ((second).den : Int)) + ((second).num * ((first).den : Int))), (((first).den : Int) * ((second).den : Int)), rfl, by exact den_nz2 first second, by exact den_lt2 h0 h1, rfl⟩) (by rw [q_add] : (eQ (Rat.divInt ((((first).num * ((second).den : Int)) + ((second).num * ((first).den : Int)))) ((((first).den : Int) * ((second).den : Int))))) = (eQ (first + second)))) hR

/-! ### times -/
abbrev s_times : Stmt := topS 12
abbrev N_times : List Str := ["first", "second"]
theorem sc_times : FnScope N_times ["first", "second"] (defScope s_times) := ⟨rfl, rfl, rfl, by decide +kernel, rfl, by decide +kernel, by decide +kernel⟩
def R_times : List PyData → PyData → Prop := fun ds d => ∃ (first : Rat) (second : Rat), ds = [(eQ first), (eQ second)] ∧ (Qb first) ∧ (Qb second) ∧ d = (eQ (first * second))
set_option maxHeartbeats 4000000 in
theorem ok_times {P : Program} {w : World} {K : PySem.W.Frag} {mg : Str → Option Value} {base : Heap} (B : Gb mg) (F : Fd K mg "times" s_times) (C_quotient : Cl P w K mg base 2 "quotient" ["up", "down"] (SpP K R_quotient)) : Cl P w K mg base 3 "times" ["first", "second"] (SpP K R_times) := by
  obtain ⟨f, fd, F, hm⟩ := F.ex
  refine ⟨f, fd, fnG_of (k := 2) F sc_times (spP_len fun ds d h => ?_) (fun cdv A outer s H hr hgd => ⟨_, (pss_one (ps_ret (pe_cl C_quotient (hr.mono (by decide)) hgd (by rfl) (pa_cons (pe_op op_mulG (pe_ix (r := rIxT K) ix_tup (pv 0) pe_int (fun _ _ => rfl)) (pe_ix (r := rIxT K) ix_tup (pv 1) pe_int (fun _ _ => rfl))) (pa_cons (pe_op op_mulG (pe_ix (r := rIxT K) ix_tup (pv 0) pe_int (fun _ _ => rfl)) (pe_ix (r := rIxT K) ix_tup (pv 1) pe_int (fun _ _ => rfl))) pa_nil))))), fun vs Q => fn_pure (N := N_times) (fun ds d h => ?_) (fun B S ds d h D hR hN => ?_) vs H Q E0⟩), hm, F.kp, F.binds fun _ _ _ _ _ _ us hl => match us, hl with | [_, _], _ => rfl⟩
  · obtain ⟨first, second, rfl, h0, h1, rfl⟩ := h; rfl
  · obtain ⟨first, second, rfl, h0, h1, rfl⟩ := h; simp
  · obtain ⟨first, second, rfl, h0, h1, rfl⟩ := h
    show Ss _ _ [.da (eQ first), .da (eQ second)] _ _
    exact s_ret (ed_is (ed_call (ds := [(PyData.int ((first).num * (second).num)), (PyData.int (((first).den : Int) * ((second).den : Int)))]) (ea_cons (ed_I (ed_ixT (ed_var rfl) ed_int rfl) (ed_ixT (ed_var rfl) ed_int rfl) (by first | exact mul_nn h0 h1 | exact mul_dd h0 h1)) (ea_cons (ed_I (ed_ixT (ed_var rfl) ed_int rfl) (ed_ixT (ed_var rfl) ed_int rfl) (by first | exact mul_nn h0 h1 | exact mul_dd h0 h1)) ea_nil)) ⟨((first).num * (second).num), (((first).den : Int) * ((second).den : Int)), rfl, by exact den_nz2 first second, by exact den_lt2 h0 h1, rfl⟩) (by rw [q_mul] : (eQ (Rat.divInt (((first).num * (second).num)) ((((first).den : Int) * ((second).den : Int))))) = (eQ (first * second)))) hR

/-! ### choose -/
abbrev s_choose : Stmt := topS 13
abbrev N_choose : List Str := ["many", "few", "found", "at"]
theorem sc_choose : FnScope N_choose ["many", "few"] (defScope s_choose) := ⟨rfl, rfl, rfl, by decide +kernel, rfl, by decide +kernel, by decide +kernel⟩
def R_choose : List PyData → PyData → Prop := fun ds d => ∃ (many : Int) (few : Int), ds = [(PyData.int many), (PyData.int few)] ∧ (0 ≤ many ∧ many ≤ 4000) ∧ d = (PyData.int (chI many few))
set_option maxHeartbeats 4000000 in
theorem ok_choose {P : Program} {w : World} {K : PySem.W.Frag} {mg : Str → Option Value} {base : Heap} (B : Gb mg) (F : Fd K mg "choose" s_choose) : Cl P w K mg base 1 "choose" ["many", "few"] (SpP K R_choose) := by
  obtain ⟨f, fd, F, hm⟩ := F.ex
  refine ⟨f, fd, fnG_of (k := 0) F sc_choose (spP_len fun ds d h => ?_) (fun cdv A outer s H hr hgd => ⟨_, (pss_cons (ps_if (PW.pt (pw_or (pt_cmpR op_lt (pv 1) pe_int (nomark _)) (pw_or1 (pt_cmpR op_gt (pv 1) (pv 0) (nomark _))))) (pss_one (ps_ret pe_int)) pss_nil) (pss_cons (ps_set (i := 2) sc_choose.nd rfl (Or.inl rfl) pe_int) (pss_cons (ps_for PassesOwn.never rfl (pi_range1 (by rfl) B.range_ (pa_cons (pv 1) pa_nil)) (pg_name (i := 3) sc_choose.nd rfl (Or.inl rfl)) (pss_one (ps_set (i := 2) sc_choose.nd rfl (Or.inl rfl) (pe_op op_fdivG (pe_op op_mulG (pv 2) (pe_op op_sub (pv 0) (pv 3))) (pe_op op_add (pv 3) pe_int))))) (pss_one (ps_ret (pv 2)))))), fun vs Q => fn_pure (N := N_choose) (fun ds d h => ?_) (fun B S ds d h D hR hN => ?_) vs H Q E0⟩), hm, F.kp, F.binds fun _ _ _ _ _ _ us hl => match us, hl with | [_, _], _ => rfl⟩
  · obtain ⟨many, few, rfl, h0, rfl⟩ := h; rfl
  · obtain ⟨many, few, rfl, h0, rfl⟩ := h; simp
  · obtain ⟨many, few, rfl, h0, rfl⟩ := h
    show Ss _ _ [.da (PyData.int many), .da (PyData.int few), .no, .no] _ _
    refine s_seq (s_if (b := ((decide (few < (0 : Int))) || (decide (many < few)))) (et_or (et_test (ed_B0 (ed_var rfl) ed_int)) (fun hb1 => (et_test (ed_B0 (ed_var rfl) (ed_var rfl))))) (fun hc0 => ?_) (fun hc0 => ?_))
    · exact s_ret (ed_is ed_int (by exact ch_out hc0 : (PyData.int (0 : Int)) = (PyData.int (chI many few)))) hR
    · refine s_next ?_
      refine s_seq (s_asg ed_int (s_le (ρ1 := [.da (PyData.int many), .da (PyData.int few), .da (PyData.int (1 : Int)), .no]) (le_rfl rfl) ?_))
      refine s_seq (s_forX ((List.range (few).toNat)) (fun (i : Nat) => Itm.hard (PyData.int (i : Int))) (ei_rng (ed_var rfl) (by have hc := hc0; simp only [Bool.or_eq_false_iff, decide_eq_false_iff_not] at hc; omega)) (fun i0 => [.da (PyData.int many), .da (PyData.int few), .da (PyData.int ((bin many.toNat i0 : Nat) : Int)), .no]) (le_same (le_same (le_da (by rw [bin_zero]; rfl) (le_no le_nil)))) (fun T0 hT0 i0 x0 hx0 => ⟨_, [3], (eg_name (by simp)), ?_⟩) ?_)
      · show Ss _ _ [.da (PyData.int many), .da (PyData.int few), .da (PyData.int ((bin many.toNat i0 : Nat) : Int)), .da (PyData.int (x0 : Int))] _ _
        have hr := rng_get hx0
        have hc := hc0
        simp only [Bool.or_eq_false_iff, decide_eq_false_iff_not] at hc
        refine (s_asg (ed_I (ed_I (ed_var rfl) (ed_I0 (ed_var rfl) (ed_var rfl)) (by first | assumption | exact mul_l (by omega) (by omega) | exact mul_r (by omega) (by omega))) (ed_I0 (ed_var rfl) ed_int) (by exact div_small (by omega) (by omega))) (s_le (ρ1 := [.da (PyData.int many), .da (PyData.int few), .da (PyData.int ((((bin many.toNat i0 : Nat) : Int) * (many - (x0 : Int))) / ((x0 : Int) + (1 : Int)))), .da (PyData.int (x0 : Int))]) (le_rfl rfl) ?_))
        exact s_end (le_same (le_same (le_da (by rw [hr.1]; exact congrArg PyData.int (bin_stepJ h0.1)) (le_no le_nil))))
      exact s_ret (ed_is (ed_var rfl) (by exact ch_in hc0 : (PyData.int ((bin many.toNat ((List.range (few).toNat)).length : Nat) : Int)) = (PyData.int (chI many few)))) hR

/-! ### check_urn -/
abbrev s_check_urn : Stmt := topS 15
abbrev N_check_urn : List Str := ["urn", "many"]
theorem sc_check_urn : FnScope N_check_urn ["urn"] (defScope s_check_urn) := ⟨rfl, rfl, rfl, by decide +kernel, rfl, by decide +kernel, by decide +kernel⟩
def R_check_urn : List PyData → PyData → Prop := fun ds d => ∃ (urn : (List Int)), ds = [((eT PyData.int) urn)] ∧ (UrnOk urn) ∧ d = PyData.none
set_option maxHeartbeats 4000000 in
theorem ok_check_urn {P : Program} {w : World} {K : PySem.W.Frag} {mg : Str → Option Value} {base : Heap} (B : Gb mg) (F : Fd K mg "check_urn" s_check_urn) (C_is_integer : Cl P w K mg base 1 "is_integer" ["value"] (SpP K R_is_integer)) : Cl P w K mg base 2 "check_urn" ["urn"] (SpP K R_check_urn) := by
  obtain ⟨f, fd, F, hm⟩ := F.ex
  refine ⟨f, fd, fnG_of (k := 1) F sc_check_urn (spP_len fun ds d h => ?_) (fun cdv A outer s H hr hgd => ⟨_, (pss_cons (ps_if (PW.pt (pw_or (pt_not (pt_truth (pe_callB (r := rIsi K) call_isi (by rfl) B.isinstance_ boot_isinstance (pa_cons (pv 0) (pa_cons (pe_bltn (v := .ty "tuple") (u := .type "tuple") (by rfl) B.tuple_ PyProof.Rows.boot_tuple rfl) pa_nil))) (fun _ => rfl))) (pw_or1 (pt_not (pt_chain op_le op_le pe_int (pe_callB (r := rLenS K) call_len_seq (by rfl) B.len_ PySem.boot_len (pa_cons (pv 0) pa_nil)) (pe_glob (v := .int 6) rfl B.c_MAX_COLOURS.choose_spec ⟨_, rfl⟩)))))) pss_never pss_nil) (pss_one (ps_if (PW.pt (pw_or (pt_not (pt_truth (pe_callB (r := rAll K) (cr_all rfl) (by rfl) B.all_ (by decide +kernel) (pa_cons (pe_lc (own := [("many", 1)]) (g := _) (tt := tYes) rfl sc_check_urn.nd (pi_tup (pv 0)) (blkOk_by (N := N_check_urn) (sc := defScope s_check_urn) (by decide +kernel)) (fun _ _ _ _ _ => (pg_name (i := 1) sc_check_urn.nd rfl (Or.inl rfl))) (fun _ _ _ _ _ => pts_nil) (fun _ _ _ _ _ => (pe_and (pe_cl C_is_integer (hr.mono (by decide)) hgd (by rfl) (pa_cons (pv 1) pa_nil)) (pe_one (pe_chain op_le op_le pe_int (pv 1) (pe_glob (v := .int 60) rfl B.c_MAX_BALLS.choose_spec ⟨_, rfl⟩)))))) pa_nil)) (fun _ => rfl))) (pw_or1 (pt_cmpR (r := rEqD K) (op_eqD hr.units) (pe_callB (r := rSumT K) (cr_sumT rfl) (by rfl) B.sum_ (by decide +kernel) (pa_cons (pv 0) pa_nil)) pe_int (nomark _))))) pss_never pss_nil))), fun vs Q => fn_pure (N := N_check_urn) (fun ds d h => ?_) (fun B S ds d h D hR hN => ?_) vs H Q E0⟩), hm, F.kp, F.binds fun _ _ _ _ _ _ us hl => match us, hl with | [_], _ => rfl⟩
  · obtain ⟨urn, rfl, h0, rfl⟩ := h; rfl
  · obtain ⟨urn, rfl, h0, rfl⟩ := h; simp
  · obtain ⟨urn, rfl, h0, rfl⟩ := h
    show Ss _ _ [.da ((eT PyData.int) urn), .no] _ _
    refine s_seq (s_skip (et_or (et_not (et_truB (ed_isi (ed_var rfl) (show kitB "tuple" "tuple" = some true by decide +kernel)))) (fun hb2 => (et_not (et_chain (ed_chain ed_int (ed_lenTX (ed_var rfl)) (fun hb1 => ed_int)))))) (by have h1 := h0.1; have h2 := h0.2.1; simp; omega : ((!true) || (!(decide ((1 : Int) ≤ ((urn).length : Int)) && decide (((urn).length : Int) ≤ (6 : Int))))) = false) ?_)
    refine (s_skip (et_or (et_not (et_truB (ed_all (ed_L (el_lcAX (xs := urn) (ea := fun x => Itm.hard (PyData.int x)) (enc := PyData.bool) (fb := fun (x3 : Int) => ((isIntD ((PyData.int x3))) && (decide ((0 : Int) ≤ x3) && decide (x3 ≤ (60 : Int))))) (ei_tupX (ed_var rfl)) (by have := h0.2.1; omega) (by simp) (fun _ _ x3 hx3 => ⟨_, rfl, (eg_name (by simp)), (ed_and (ed_call (ds := [(PyData.int x3)]) (ea_cons (ed_var rfl) ea_nil) ⟨(PyData.int x3), rfl, rfl⟩) (fun hb5 => (ed_chain ed_int (ed_var rfl) (fun hb4 => ed_int))))⟩)))))) (fun hb6 => (et_test (ed_eqI (ed_sumT (ed_var rfl)) ed_int)))) (by exact urn_chk h0 : ((!((((urn).map fun (x3 : Int) => ((isIntD ((PyData.int x3))) && (decide ((0 : Int) ≤ x3) && decide (x3 ≤ (60 : Int)))))).all id)) || (decide ((urn).sum = (0 : Int)))) = false) ?_)
    exact hN rfl _ _

/-! ### check_counts -/
abbrev s_check_counts : Stmt := topS 16
abbrev N_check_counts : List Str := ["urn", "counts", "many"]
theorem sc_check_counts : FnScope N_check_counts ["urn", "counts"] (defScope s_check_counts) := ⟨rfl, rfl, rfl, by decide +kernel, rfl, by decide +kernel, by decide +kernel⟩
def R_check_counts : List PyData → PyData → Prop := fun ds d => ∃ (urn : (List Int)) (counts : (List Int)), ds = [((eT PyData.int) urn), ((eT PyData.int) counts)] ∧ (CntOk urn counts) ∧ (urn.length ≤ 6) ∧ d = PyData.none
set_option maxHeartbeats 4000000 in
theorem ok_check_counts {P : Program} {w : World} {K : PySem.W.Frag} {mg : Str → Option Value} {base : Heap} (B : Gb mg) (F : Fd K mg "check_counts" s_check_counts) (C_is_integer : Cl P w K mg base 1 "is_integer" ["value"] (SpP K R_is_integer)) : Cl P w K mg base 2 "check_counts" ["urn", "counts"] (SpP K R_check_counts) := by
  obtain ⟨f, fd, F, hm⟩ := F.ex
  refine ⟨f, fd, fnG_of (k := 1) F sc_check_counts (spP_len fun ds d h => ?_) (fun cdv A outer s H hr hgd => ⟨_, (pss_cons (ps_if (PW.pt (pw_or (pt_not (pt_truth (pe_callB (r := rIsi K) call_isi (by rfl) B.isinstance_ boot_isinstance (pa_cons (pv 1) (pa_cons (pe_bltn (v := .ty "tuple") (u := .type "tuple") (by rfl) B.tuple_ PyProof.Rows.boot_tuple rfl) pa_nil))) (fun _ => rfl))) (pw_or1 (pt_cmpR (r := rNeD K) (op_neD hr.units) (pe_callB (r := rLenS K) call_len_seq (by rfl) B.len_ PySem.boot_len (pa_cons (pv 1) pa_nil)) (pe_callB (r := rLenS K) call_len_seq (by rfl) B.len_ PySem.boot_len (pa_cons (pv 0) pa_nil)) (nomark _))))) pss_never pss_nil) (pss_one (ps_if (pt_not (pt_truth (pe_callB (r := rAll K) (cr_all rfl) (by rfl) B.all_ (by decide +kernel) (pa_cons (pe_lc (own := [("many", 2)]) (g := _) (tt := tYes) rfl sc_check_counts.nd (pi_tup (pv 1)) (blkOk_by (N := N_check_counts) (sc := defScope s_check_counts) (by decide +kernel)) (fun _ _ _ _ _ => (pg_name (i := 2) sc_check_counts.nd rfl (Or.inl rfl))) (fun _ _ _ _ _ => pts_nil) (fun _ _ _ _ _ => (pe_and (pe_cl C_is_integer (hr.mono (by decide)) hgd (by rfl) (pa_cons (pv 2) pa_nil)) (pe_one (pe_chain op_le op_le pe_int (pv 2) (pe_glob (v := .int 60) rfl B.c_MAX_BALLS.choose_spec ⟨_, rfl⟩)))))) pa_nil)) (fun _ => rfl))) pss_never pss_nil))), fun vs Q => fn_pure (N := N_check_counts) (fun ds d h => ?_) (fun B S ds d h D hR hN => ?_) vs H Q E0⟩), hm, F.kp, F.binds fun _ _ _ _ _ _ us hl => match us, hl with | [_, _], _ => rfl⟩
  · obtain ⟨urn, counts, rfl, h0, h1, rfl⟩ := h; rfl
  · obtain ⟨urn, counts, rfl, h0, h1, rfl⟩ := h; simp
  · obtain ⟨urn, counts, rfl, h0, h1, rfl⟩ := h
    show Ss _ _ [.da ((eT PyData.int) urn), .da ((eT PyData.int) counts), .no] _ _
    refine s_seq (s_skip (et_or (et_not (et_truB (ed_isi (ed_var rfl) (show kitB "tuple" "tuple" = some true by decide +kernel)))) (fun hb1 => (et_test (ed_neI (ed_lenTX (ed_var rfl)) (ed_lenTX (ed_var rfl)))))) (by simp; have := h0.1; omega : ((!true) || (!decide (((counts).length : Int) = ((urn).length : Int)))) = false) ?_)
    refine (s_skip (et_not (et_truB (ed_all (ed_L (el_lcAX (xs := counts) (ea := fun x => Itm.hard (PyData.int x)) (enc := PyData.bool) (fb := fun (x2 : Int) => ((isIntD ((PyData.int x2))) && (decide ((0 : Int) ≤ x2) && decide (x2 ≤ (60 : Int))))) (ei_tupX (ed_var rfl)) (by have := h0.1; omega) (by simp) (fun _ _ x2 hx2 => ⟨_, rfl, (eg_name (by simp)), (ed_and (ed_call (ds := [(PyData.int x2)]) (ea_cons (ed_var rfl) ea_nil) ⟨(PyData.int x2), rfl, rfl⟩) (fun hb4 => (ed_chain ed_int (ed_var rfl) (fun hb3 => ed_int))))⟩)))))) (by rw [all_id (fun x hx => by have := h0.2 x hx; simp [isIntD, isi_int, isi_bool]; omega)]; rfl : (!((((counts).map fun (x2 : Int) => ((isIntD ((PyData.int x2))) && (decide ((0 : Int) ≤ x2) && decide (x2 ≤ (60 : Int)))))).all id)) = false) ?_)
    exact hN rfl _ _

/-! ### check_draws -/
abbrev s_check_draws : Stmt := topS 17
abbrev N_check_draws : List Str := ["urn", "draws", "colour"]
theorem sc_check_draws : FnScope N_check_draws ["urn", "draws"] (defScope s_check_draws) := ⟨rfl, rfl, rfl, by decide +kernel, rfl, by decide +kernel, by decide +kernel⟩
def R_check_draws : List PyData → PyData → Prop := fun ds d => ∃ (urn : (List Int)) (draws : (List Int)), ds = [((eT PyData.int) urn), ((eT PyData.int) draws)] ∧ (DrwOk urn draws) ∧ d = PyData.none
set_option maxHeartbeats 4000000 in
theorem ok_check_draws {P : Program} {w : World} {K : PySem.W.Frag} {mg : Str → Option Value} {base : Heap} (B : Gb mg) (F : Fd K mg "check_draws" s_check_draws) (C_is_integer : Cl P w K mg base 1 "is_integer" ["value"] (SpP K R_is_integer)) : Cl P w K mg base 2 "check_draws" ["urn", "draws"] (SpP K R_check_draws) := by
  obtain ⟨f, fd, F, hm⟩ := F.ex
  refine ⟨f, fd, fnG_of (k := 1) F sc_check_draws (spP_len fun ds d h => ?_) (fun cdv A outer s H hr hgd => ⟨_, (pss_cons (ps_if (PW.pt (pw_or (pt_not (pt_truth (pe_callB (r := rIsi K) call_isi (by rfl) B.isinstance_ boot_isinstance (pa_cons (pv 1) (pa_cons (pe_bltn (v := .ty "tuple") (u := .type "tuple") (by rfl) B.tuple_ PyProof.Rows.boot_tuple rfl) pa_nil))) (fun _ => rfl))) (pw_or1 (pt_cmpR op_gt (pe_callB (r := rLenS K) call_len_seq (by rfl) B.len_ PySem.boot_len (pa_cons (pv 1) pa_nil)) (pe_glob (v := .int 60) rfl B.c_MAX_DRAWS.choose_spec ⟨_, rfl⟩) (nomark _))))) pss_never pss_nil) (pss_one (ps_if (pt_not (pt_truth (pe_callB (r := rAll K) (cr_all rfl) (by rfl) B.all_ (by decide +kernel) (pa_cons (pe_lc (own := [("colour", 2)]) (g := _) (tt := tYes) rfl sc_check_draws.nd (pi_tup (pv 1)) (blkOk_by (N := N_check_draws) (sc := defScope s_check_draws) (by decide +kernel)) (fun _ _ _ _ _ => (pg_name (i := 2) sc_check_draws.nd rfl (Or.inl rfl))) (fun _ _ _ _ _ => pts_nil) (fun _ _ _ _ _ => (pe_and (pe_cl C_is_integer (hr.mono (by decide)) hgd (by rfl) (pa_cons (pv 2) pa_nil)) (pe_one (pe_chain op_le op_lt pe_int (pv 2) (pe_callB (r := rLenS K) call_len_seq (by rfl) B.len_ PySem.boot_len (pa_cons (pv 0) pa_nil))))))) pa_nil)) (fun _ => rfl))) pss_never pss_nil))), fun vs Q => fn_pure (N := N_check_draws) (fun ds d h => ?_) (fun B S ds d h D hR hN => ?_) vs H Q E0⟩), hm, F.kp, F.binds fun _ _ _ _ _ _ us hl => match us, hl with | [_, _], _ => rfl⟩
  · obtain ⟨urn, draws, rfl, h0, rfl⟩ := h; rfl
  · obtain ⟨urn, draws, rfl, h0, rfl⟩ := h; simp
  · obtain ⟨urn, draws, rfl, h0, rfl⟩ := h
    show Ss _ _ [.da ((eT PyData.int) urn), .da ((eT PyData.int) draws), .no] _ _
    refine s_seq (s_skip (et_or (et_not (et_truB (ed_isi (ed_var rfl) (show kitB "tuple" "tuple" = some true by decide +kernel)))) (fun hb1 => (et_test (ed_B0 (ed_lenTX (ed_var rfl)) ed_int)))) (by have := h0.1; simp; omega : ((!true) || (decide ((60 : Int) < ((draws).length : Int)))) = false) ?_)
    refine (s_skip (et_not (et_truB (ed_all (ed_L (el_lcAX (xs := draws) (ea := fun x => Itm.hard (PyData.int x)) (enc := PyData.bool) (fb := fun (x2 : Int) => ((isIntD ((PyData.int x2))) && (decide ((0 : Int) ≤ x2) && decide (x2 < ((urn).length : Int))))) (ei_tupX (ed_var rfl)) (by have := h0.1; omega) (by simp) (fun _ _ x2 hx2 => ⟨_, rfl, (eg_name (by simp)), (ed_and (ed_call (ds := [(PyData.int x2)]) (ea_cons (ed_var rfl) ea_nil) ⟨(PyData.int x2), rfl, rfl⟩) (fun hb4 => (ed_chain ed_int (ed_var rfl) (fun hb3 => (ed_lenTX (ed_var rfl))))))⟩)))))) (by rw [all_id (fun x hx => by have := h0.2 x hx; simp [isIntD, isi_int, isi_bool]; omega)]; rfl : (!((((draws).map fun (x2 : Int) => ((isIntD ((PyData.int x2))) && (decide ((0 : Int) ≤ x2) && decide (x2 < ((urn).length : Int)))))).all id)) = false) ?_)
    exact hN rfl _ _

/-! ### check_added -/
abbrev s_check_added : Stmt := topS 20
abbrev N_check_added : List Str := ["added"]
theorem sc_check_added : FnScope N_check_added ["added"] (defScope s_check_added) := ⟨rfl, rfl, rfl, by decide +kernel, rfl, by decide +kernel, by decide +kernel⟩
def R_check_added : List PyData → PyData → Prop := fun ds d => ∃ (added : Int), ds = [(PyData.int added)] ∧ (-1 ≤ added ∧ added ≤ 60) ∧ d = PyData.none
set_option maxHeartbeats 4000000 in
theorem ok_check_added {P : Program} {w : World} {K : PySem.W.Frag} {mg : Str → Option Value} {base : Heap} (B : Gb mg) (F : Fd K mg "check_added" s_check_added) (C_is_integer : Cl P w K mg base 1 "is_integer" ["value"] (SpP K R_is_integer)) : Cl P w K mg base 2 "check_added" ["added"] (SpP K R_check_added) := by
  obtain ⟨f, fd, F, hm⟩ := F.ex
  refine ⟨f, fd, fnG_of (k := 1) F sc_check_added (spP_len fun ds d h => ?_) (fun cdv A outer s H hr hgd => ⟨_, (pss_one (ps_if (PW.pt (pw_or (pt_not (pt_truth (pe_cl C_is_integer (hr.mono (by decide)) hgd (by rfl) (pa_cons (pv 0) pa_nil)) (fun _ => rfl))) (pw_or1 (pt_not (pt_chain op_le op_le (pe_un un_neg pe_int) (pv 0) (pe_glob (v := .int 60) rfl B.c_MAX_BALLS.choose_spec ⟨_, rfl⟩)))))) pss_never pss_nil)), fun vs Q => fn_pure (N := N_check_added) (fun ds d h => ?_) (fun B S ds d h D hR hN => ?_) vs H Q E0⟩), hm, F.kp, F.binds fun _ _ _ _ _ _ us hl => match us, hl with | [_], _ => rfl⟩
  · obtain ⟨added, rfl, h0, rfl⟩ := h; rfl
  · obtain ⟨added, rfl, h0, rfl⟩ := h; simp
  · obtain ⟨added, rfl, h0, rfl⟩ := h
    show Ss _ _ [.da (PyData.int added)] _ _
    refine (s_skip (et_or (et_not (et_truB (ed_call (ds := [(PyData.int added)]) (ea_cons (ed_var rfl) ea_nil) ⟨(PyData.int added), rfl, rfl⟩))) (fun hb2 => (et_not (et_chain (ed_chain (ed_neg ed_int) (ed_var rfl) (fun hb1 => ed_int)))))) (by simp [isIntD, isi_int, isi_bool]; omega : ((!(isIntD ((PyData.int added)))) || (!(decide ((-(1 : Int)) ≤ added) && decide (added ≤ (60 : Int))))) = false) ?_)
    exact hN rfl _ _

/-! ### check_colour -/
abbrev s_check_colour : Stmt := topS 22
abbrev N_check_colour : List Str := ["urn", "colour"]
theorem sc_check_colour : FnScope N_check_colour ["urn", "colour"] (defScope s_check_colour) := ⟨rfl, rfl, rfl, by decide +kernel, rfl, by decide +kernel, by decide +kernel⟩
def R_check_colour : List PyData → PyData → Prop := fun ds d => ∃ (urn : (List Int)) (colour : Int), ds = [((eT PyData.int) urn), (PyData.int colour)] ∧ (0 ≤ colour ∧ colour < urn.length) ∧ d = PyData.none
set_option maxHeartbeats 4000000 in
theorem ok_check_colour {P : Program} {w : World} {K : PySem.W.Frag} {mg : Str → Option Value} {base : Heap} (B : Gb mg) (F : Fd K mg "check_colour" s_check_colour) (C_is_integer : Cl P w K mg base 1 "is_integer" ["value"] (SpP K R_is_integer)) : Cl P w K mg base 2 "check_colour" ["urn", "colour"] (SpP K R_check_colour) := by
  obtain ⟨f, fd, F, hm⟩ := F.ex
  refine ⟨f, fd, fnG_of (k := 1) F sc_check_colour (spP_len fun ds d h => ?_) (fun cdv A outer s H hr hgd => ⟨_, (pss_one (ps_if (PW.pt (pw_or (pt_not (pt_truth (pe_cl C_is_integer (hr.mono (by decide)) hgd (by rfl) (pa_cons (pv 1) pa_nil)) (fun _ => rfl))) (pw_or1 (pt_not (pt_chain op_le op_lt pe_int (pv 1) (pe_callB (r := rLenS K) call_len_seq (by rfl) B.len_ PySem.boot_len (pa_cons (pv 0) pa_nil))))))) pss_never pss_nil)), fun vs Q => fn_pure (N := N_check_colour) (fun ds d h => ?_) (fun B S ds d h D hR hN => ?_) vs H Q E0⟩), hm, F.kp, F.binds fun _ _ _ _ _ _ us hl => match us, hl with | [_, _], _ => rfl⟩
  · obtain ⟨urn, colour, rfl, h0, rfl⟩ := h; rfl
  · obtain ⟨urn, colour, rfl, h0, rfl⟩ := h; simp
  · obtain ⟨urn, colour, rfl, h0, rfl⟩ := h
    show Ss _ _ [.da ((eT PyData.int) urn), .da (PyData.int colour)] _ _
    refine (s_skip (et_or (et_not (et_truB (ed_call (ds := [(PyData.int colour)]) (ea_cons (ed_var rfl) ea_nil) ⟨(PyData.int colour), rfl, rfl⟩))) (fun hb2 => (et_not (et_chain (ed_chain ed_int (ed_var rfl) (fun hb1 => (ed_lenTX (ed_var rfl)))))))) (by simp [isIntD, isi_int, isi_bool]; omega : ((!(isIntD ((PyData.int colour)))) || (!(decide ((0 : Int) ≤ colour) && decide (colour < ((urn).length : Int))))) = false) ?_)
    exact hN rfl _ _

/-! ### chance_of_counts -/
abbrev s_chance_of_counts : Stmt := topS 18
abbrev N_chance_of_counts : List Str := ["urn", "counts", "ways", "there", "many", "whole"]
theorem sc_chance_of_counts : FnScope N_chance_of_counts ["urn", "counts"] (defScope s_chance_of_counts) := ⟨rfl, rfl, rfl, by decide +kernel, rfl, by decide +kernel, by decide +kernel⟩
def R_chance_of_counts : List PyData → PyData → Prop := fun ds d => ∃ (urn : (List Int)) (counts : (List Int)), ds = [((eT PyData.int) urn), ((eT PyData.int) counts)] ∧ (UrnOk urn) ∧ (CntOk urn counts) ∧ d = (eQ (Rat.divInt (waysOf (urn.zip counts)) (chI urn.sum counts.sum)))
set_option maxHeartbeats 4000000 in
theorem ok_chance_of_counts {P : Program} {w : World} {K : PySem.W.Frag} {mg : Str → Option Value} {base : Heap} (B : Gb mg) (F : Fd K mg "chance_of_counts" s_chance_of_counts) (C_check_counts : Cl P w K mg base 2 "check_counts" ["urn", "counts"] (SpP K R_check_counts)) (C_check_urn : Cl P w K mg base 2 "check_urn" ["urn"] (SpP K R_check_urn)) (C_choose : Cl P w K mg base 1 "choose" ["many", "few"] (SpP K R_choose)) (C_quotient : Cl P w K mg base 2 "quotient" ["up", "down"] (SpP K R_quotient)) : Cl P w K mg base 3 "chance_of_counts" ["urn", "counts"] (SpP K R_chance_of_counts) := by
  obtain ⟨f, fd, F, hm⟩ := F.ex
  refine ⟨f, fd, fnG_of (k := 2) F sc_chance_of_counts (spP_len fun ds d h => ?_) (fun cdv A outer s H hr hgd => ⟨_, (pss_cons (ps_expr (pe_cl C_check_urn (hr.mono (by decide)) hgd (by rfl) (pa_cons (pv 0) pa_nil))) (pss_cons (ps_expr (pe_cl C_check_counts (hr.mono (by decide)) hgd (by rfl) (pa_cons (pv 0) (pa_cons (pv 1) pa_nil)))) (pss_cons (ps_set (i := 2) sc_chance_of_counts.nd rfl (Or.inl rfl) pe_int) (pss_cons (ps_for PassesOwn.never rfl (pi_zipA (by rfl) B.zip_ (pa_cons (pv 0) (pa_cons (pv 1) pa_nil))) (pg_tup rfl (pgs_cons (pg_name (i := 3) sc_chance_of_counts.nd rfl (Or.inl rfl)) (pgs_cons (pg_name (i := 4) sc_chance_of_counts.nd rfl (Or.inl rfl)) pgs_nil))) (pss_one (ps_aug (i := 2) sc_chance_of_counts.nd rfl (Or.inl rfl) (pe_cl C_choose (hr.mono (by decide)) hgd (by rfl) (pa_cons (pv 3) (pa_cons (pv 4) pa_nil))) iop_mulG))) (pss_cons (ps_set (i := 5) sc_chance_of_counts.nd rfl (Or.inl rfl) (pe_cl C_choose (hr.mono (by decide)) hgd (by rfl) (pa_cons (pe_callB (r := rSumT K) (cr_sumT rfl) (by rfl) B.sum_ (by decide +kernel) (pa_cons (pv 0) pa_nil)) (pa_cons (pe_callB (r := rSumT K) (cr_sumT rfl) (by rfl) B.sum_ (by decide +kernel) (pa_cons (pv 1) pa_nil)) pa_nil)))) (pss_one (ps_ret (pe_ifExp (pt_cmpR (r := rEqD K) (op_eqD hr.units) (pv 5) pe_int (nomark _)) (pe_tupF (pa_cons pe_int (pa_cons pe_int pa_nil))) (pe_cl C_quotient (hr.mono (by decide)) hgd (by rfl) (pa_cons (pv 2) (pa_cons (pv 5) pa_nil))))))))))), fun vs Q => fn_pure (N := N_chance_of_counts) (fun ds d h => ?_) (fun B S ds d h D hR hN => ?_) vs H Q E0⟩), hm, F.kp, F.binds fun _ _ _ _ _ _ us hl => match us, hl with | [_, _], _ => rfl⟩
  · obtain ⟨urn, counts, rfl, h0, h1, rfl⟩ := h; rfl
  · obtain ⟨urn, counts, rfl, h0, h1, rfl⟩ := h; simp
  · obtain ⟨urn, counts, rfl, h0, h1, rfl⟩ := h
    show Ss _ _ [.da ((eT PyData.int) urn), .da ((eT PyData.int) counts), .no, .no, .no, .no] _ _
    refine s_seq (s_drop (ed_call (ds := [((eT PyData.int) urn)]) (ea_cons (ed_var rfl) ea_nil) ⟨urn, rfl, by assumption, rfl⟩) ?_)
    refine s_seq (s_drop (ed_call (ds := [((eT PyData.int) urn), ((eT PyData.int) counts)]) (ea_cons (ed_var rfl) (ea_cons (ed_var rfl) ea_nil)) ⟨urn, counts, rfl, by assumption, by exact h0.2.1, rfl⟩) ?_)
    refine s_seq (s_asg ed_int (s_le (ρ1 := [.da ((eT PyData.int) urn), .da ((eT PyData.int) counts), .da (PyData.int (1 : Int)), .no, .no, .no]) (le_rfl rfl) ?_))
    refine s_seq (s_forX (((urn).zip counts)) (fun p => Itm.soft [PyData.int p.1, PyData.int p.2]) (ei_zipTX (ed_var rfl) (ed_var rfl)) (fun i0 => [.da ((eT PyData.int) urn), .da ((eT PyData.int) counts), .da (PyData.int (waysOf ((urn.zip counts).take i0))), .no, .no, .no]) (le_same (le_same (le_da (by rfl) (le_no (le_no (le_no le_nil)))))) (fun T0 hT0 i0 x0 hx0 => ⟨_, [3, 4], (eg_soft (egs_cons (eg_name (by simp)) (egs_cons (eg_name (by simp)) egs_nil))), ?_⟩) ?_)
    · show Ss _ _ [.da ((eT PyData.int) urn), .da ((eT PyData.int) counts), .da (PyData.int (waysOf ((urn.zip counts).take i0))), .da (PyData.int (x0).1), .da (PyData.int (x0).2), .no] _ _
      have hu := h0.2.2.1 x0.1 (List.of_mem_zip (List.mem_of_getElem? hx0)).1
      have hw := waysOf_mul h0 h1 hx0
      refine (s_augC rfl (ed_call (ds := [(PyData.int (x0).1), (PyData.int (x0).2)]) (ea_cons (ed_var rfl) (ea_cons (ed_var rfl) ea_nil)) ⟨(x0).1, (x0).2, rfl, by first | omega | (have := h0.sum_le; have := h0.2.2.2; omega), rfl⟩) (by exact hw) (s_le (ρ1 := [.da ((eT PyData.int) urn), .da ((eT PyData.int) counts), .da (PyData.int ((waysOf ((urn.zip counts).take i0)) * (chI ((x0).1) ((x0).2)))), .da (PyData.int (x0).1), .da (PyData.int (x0).2), .no]) (le_rfl rfl) ?_))
      exact s_end (le_same (le_same (le_da (by exact congrArg PyData.int (waysOf_step hx0)) (le_no (le_no (le_no le_nil))))))
    refine s_seq (s_asg (ed_call (ds := [(PyData.int (urn).sum), (PyData.int (counts).sum)]) (ea_cons (ed_sumT (ed_var rfl)) (ea_cons (ed_sumT (ed_var rfl)) ea_nil)) ⟨(urn).sum, (counts).sum, rfl, by first | omega | (have := h0.sum_le; have := h0.2.2.2; omega), rfl⟩) (s_le (ρ1 := [.da ((eT PyData.int) urn), .da ((eT PyData.int) counts), .da (PyData.int (waysOf ((urn.zip counts).take (((urn).zip counts)).length))), .no, .no, .da (PyData.int (chI ((urn).sum) ((counts).sum)))]) (le_rfl rfl) ?_))
    exact s_ret (ed_is (ed_ite (e := eQ) (et_test (ed_eqI (ed_var rfl) ed_int)) (fun hb1 => (ed_is (d1 := eQ (0 : Rat)) (ed_tup (ds := [PyData.int (0 : Int), PyData.int (1 : Int)]) (ea_cons ed_int (ea_cons ed_int ea_nil))) (by rfl))) (fun hb1 => (ed_call (ds := [(PyData.int (waysOf ((urn.zip counts).take (((urn).zip counts)).length))), (PyData.int (chI ((urn).sum) ((counts).sum)))]) (ea_cons (ed_var rfl) (ea_cons (ed_var rfl) ea_nil)) ⟨(waysOf ((urn.zip counts).take (((urn).zip counts)).length)), (chI ((urn).sum) ((counts).sum)), rfl, by exact of_decide_eq_false hb1, by exact ch_small h0 _, rfl⟩))) (by exact cc_ret : (eQ (if (decide ((chI ((urn).sum) ((counts).sum)) = (0 : Int))) = true then (0 : Rat) else (Rat.divInt ((waysOf ((urn.zip counts).take (((urn).zip counts)).length))) ((chI ((urn).sum) ((counts).sum)))))) = (eQ (Rat.divInt (waysOf (urn.zip counts)) (chI urn.sum counts.sum))))) hR

/-! ### chance_of_row -/
abbrev s_chance_of_row : Stmt := topS 19
abbrev N_chance_of_row : List Str := ["urn", "draws", "added", "there", "chance", "colour"]
theorem sc_chance_of_row : FnScope N_chance_of_row ["urn", "draws", "added"] (defScope s_chance_of_row) := ⟨rfl, rfl, rfl, by decide +kernel, rfl, by decide +kernel, by decide +kernel⟩
def R_chance_of_row : List PyData → PyData → Prop := fun ds d => ∃ (urn : (List Int)) (draws : (List Int)) (added : Int), ds = [((eT PyData.int) urn), ((eT PyData.int) draws), (PyData.int added)] ∧ (UrnOk urn) ∧ (DrwOk urn draws) ∧ (-1 ≤ added ∧ added ≤ 60) ∧ d = (eQ (rowCh urn draws added))
set_option maxHeartbeats 4000000 in
theorem ok_chance_of_row {P : Program} {w : World} {K : PySem.W.Frag} {mg : Str → Option Value} {base : Heap} (B : Gb mg) (F : Fd K mg "chance_of_row" s_chance_of_row) (C_check_added : Cl P w K mg base 2 "check_added" ["added"] (SpP K R_check_added)) (C_check_draws : Cl P w K mg base 2 "check_draws" ["urn", "draws"] (SpP K R_check_draws)) (C_check_urn : Cl P w K mg base 2 "check_urn" ["urn"] (SpP K R_check_urn)) (C_quotient : Cl P w K mg base 2 "quotient" ["up", "down"] (SpP K R_quotient)) (C_times : Cl P w K mg base 3 "times" ["first", "second"] (SpP K R_times)) : Cl P w K mg base 4 "chance_of_row" ["urn", "draws", "added"] (SpP K R_chance_of_row) := by
  obtain ⟨f, fd, F, hm⟩ := F.ex
  refine ⟨f, fd, fnG_of (k := 3) F sc_chance_of_row (spP_len fun ds d h => ?_) (fun cdv A outer s H hr hgd => ⟨_, (pss_cons (ps_expr (pe_cl C_check_urn (hr.mono (by decide)) hgd (by rfl) (pa_cons (pv 0) pa_nil))) (pss_cons (ps_expr (pe_cl C_check_draws (hr.mono (by decide)) hgd (by rfl) (pa_cons (pv 0) (pa_cons (pv 1) pa_nil)))) (pss_cons (ps_expr (pe_cl C_check_added (hr.mono (by decide)) hgd (by rfl) (pa_cons (pv 2) pa_nil))) (pss_cons (ps_set (i := 3) sc_chance_of_row.nd rfl (Or.inl rfl) (pe_callTy call_list_of (by rfl) B.list_ PyProof.Rows.boot_list (pa_cons (pv 0) pa_nil))) (pss_cons (ps_set (i := 4) sc_chance_of_row.nd rfl (Or.inl rfl) (pe_tupF (pa_cons pe_int (pa_cons pe_int pa_nil)))) (pss_cons (ps_for PassesOwn.never rfl (pi_tup (pv 1)) (pg_name (i := 5) sc_chance_of_row.nd rfl (Or.inl rfl)) (pss_cons (ps_if (pt_cmpR op_le (pe_ix (r := rIxL K) ix_list (pv 3) (pv 5) (fun _ _ => rfl)) pe_int (nomark _)) (pss_one (ps_ret (pe_tupF (pa_cons pe_int (pa_cons pe_int pa_nil))))) pss_nil) (pss_cons (ps_set (i := 4) sc_chance_of_row.nd rfl (Or.inl rfl) (pe_cl C_times (hr.mono (by decide)) hgd (by rfl) (pa_cons (pv 4) (pa_cons (pe_cl C_quotient (hr.mono (by decide)) hgd (by rfl) (pa_cons (pe_ix (r := rIxL K) ix_list (pv 3) (pv 5) (fun _ _ => rfl)) (pa_cons (pe_callB (r := rSumT K) (cr_sumT rfl) (by rfl) B.sum_ (by decide +kernel) (pa_cons (pv 3) pa_nil)) pa_nil))) pa_nil)))) (pss_one (ps_augS (pv 3) (pv 5) get_listG (pv 2) ip_add set_list (fun _ _ _ => rfl)))))) (pss_one (ps_ret (pv 4))))))))), fun vs Q => fn_pure (N := N_chance_of_row) (fun ds d h => ?_) (fun B S ds d h D hR hN => ?_) vs H Q E0⟩), hm, F.kp, F.binds fun _ _ _ _ _ _ us hl => match us, hl with | [_, _, _], _ => rfl⟩
  · obtain ⟨urn, draws, added, rfl, h0, h1, h2, rfl⟩ := h; rfl
  · obtain ⟨urn, draws, added, rfl, h0, h1, h2, rfl⟩ := h; simp
  · obtain ⟨urn, draws, added, rfl, h0, h1, h2, rfl⟩ := h
    show Ss _ _ [.da ((eT PyData.int) urn), .da ((eT PyData.int) draws), .da (PyData.int added), .no, .no, .no] _ _
    refine s_seq (s_drop (ed_call (ds := [((eT PyData.int) urn)]) (ea_cons (ed_var rfl) ea_nil) ⟨urn, rfl, by assumption, rfl⟩) ?_)
    refine s_seq (s_drop (ed_call (ds := [((eT PyData.int) urn), ((eT PyData.int) draws)]) (ea_cons (ed_var rfl) (ea_cons (ed_var rfl) ea_nil)) ⟨urn, draws, rfl, by assumption, rfl⟩) ?_)
    refine s_seq (s_drop (ed_call (ds := [(PyData.int added)]) (ea_cons (ed_var rfl) ea_nil) ⟨added, rfl, by assumption, rfl⟩) ?_)
    refine s_seq (s_asgM (ds := (urn).map PyData.int) (el_listOf (.inr (ed_var rfl))) (fun p_there1 => s_le (ρ1 := [.da ((eT PyData.int) urn), .da ((eT PyData.int) draws), .da (PyData.int added), .mu true p_there1 (.lst (urn.map PyData.int)), .no, .no]) (le_rfl rfl) ?_))
    refine s_seq (s_asg (ed_is (d1 := eQ (1 : Rat)) (ed_tup (ds := [PyData.int (1 : Int), PyData.int (1 : Int)]) (ea_cons ed_int (ea_cons ed_int ea_nil))) (by rfl)) (s_le (ρ1 := [.da ((eT PyData.int) urn), .da ((eT PyData.int) draws), .da (PyData.int added), .mu true p_there1 (.lst (urn.map PyData.int)), .da (eQ (1 : Rat)), .no]) (le_rfl rfl) ?_))
    refine s_seq (s_forN (β := List Int × Rat) (draws) (fun x => Itm.hard (PyData.int x)) (ei_tupX (ed_var rfl)) (fun i0 b0 => RowOk urn draws added i0 b0) (fun i0 b0 => [.da ((eT PyData.int) urn), .da ((eT PyData.int) draws), .da (PyData.int added), .mu true p_there1 (.lst (b0.1.map PyData.int)), .da (eQ b0.2), .no]) ((urn, 1)) (by exact row_start h0) (le_same (le_same (le_same (le_mu (congrArg MO.lst (by rfl)) (le_da (by rfl) (le_no le_nil)))))) (fun T0 hT0 i0 x0 b0 hx0 hP0 => ⟨_, [5], (eg_name (by simp)), ?_⟩) (fun b0 hP0 => ?_))
    · show Ss _ _ [.da ((eT PyData.int) urn), .da ((eT PyData.int) draws), .da (PyData.int added), .mu true p_there1 (.lst (b0.1.map PyData.int)), .da (eQ b0.2), .da (PyData.int x0)] _ _
      refine s_seq (s_if (b := (decide ((ixG b0.1 x0) ≤ (0 : Int)))) (et_test (ed_B0 (ed_ixMX (ed_var rfl) rfl ⟨_, _, rfl⟩ (by exact inb (row_ix h0 h1 hP0 hx0))) ed_int)) (fun hc0 => ?_) (fun hc0 => ?_))
      · exact s_ret (ed_is (ed_is (d1 := eQ (0 : Rat)) (ed_tup (ds := [PyData.int (0 : Int), PyData.int (1 : Int)]) (ea_cons ed_int (ea_cons ed_int ea_nil))) (by rfl)) (by exact row_exit hx0 hP0 hc0 : (eQ (0 : Rat)) = (eQ (rowCh urn draws added)))) hR
      · refine s_next ?_
        refine s_seq (s_asg (ed_call (ds := [(eQ b0.2), (eQ (Rat.divInt ((ixG b0.1 x0)) ((b0.1).sum)))]) (ea_cons (ed_var rfl) (ea_cons (ed_call (ds := [(PyData.int (ixG b0.1 x0)), (PyData.int (b0.1).sum)]) (ea_cons (ed_ixMX (ed_var rfl) rfl ⟨_, _, rfl⟩ (by exact inb (row_ix h0 h1 hP0 hx0))) (ea_cons (ed_sumM rfl) ea_nil)) ⟨(ixG b0.1 x0), (b0.1).sum, rfl, by have := row_sum h0 h1 hP0 hx0 hc0; omega, by exact small_lt (by have := row_sum h0 h1 hP0 hx0 hc0; omega), rfl⟩) ea_nil)) ⟨b0.2, (Rat.divInt ((ixG b0.1 x0)) ((b0.1).sum)), rfl, by exact hP0.sz.qb (by have := row_i h1 hx0; omega), by exact (row_q h0 h1 hP0 hx0 hc0).qb (by decide), rfl⟩) (s_le (ρ1 := [.da ((eT PyData.int) urn), .da ((eT PyData.int) draws), .da (PyData.int added), .mu true p_there1 (.lst (b0.1.map PyData.int)), .da (eQ ((b0.2) * ((Rat.divInt ((ixG b0.1 x0)) ((b0.1).sum))))), .da (PyData.int x0)]) (le_rfl rfl) ?_))
        refine (s_augSX (ed_var rfl) (ed_var rfl) ⟨_, _, rfl⟩ rfl rfl (by exact row_ix h0 h1 hP0 hx0) (s_le (ρ1 := [.da ((eT PyData.int) urn), .da ((eT PyData.int) draws), .da (PyData.int added), .mu true p_there1 (.lst ((b0.1.set (x0).toNat (ixG b0.1 x0 + added)).map PyData.int)), .da (eQ ((b0.2) * ((Rat.divInt ((ixG b0.1 x0)) ((b0.1).sum))))), .da (PyData.int x0)]) (le_same (le_same (le_same (le_mu (congrArg MO.lst (by simp)) (le_same (le_same le_nil)))))) ?_))
        exact s_endN ((b0.1.set (x0).toNat (ixG b0.1 x0 + added)), ((b0.2) * ((Rat.divInt ((ixG b0.1 x0)) ((b0.1).sum))))) (by exact row_next h2 h0 h1 hP0 hx0 hc0) (le_same (le_same (le_same (le_mu (congrArg MO.lst (by rfl)) (le_da (by rfl) (le_no le_nil))))))
    · exact s_ret (ed_is (ed_var rfl) (by exact row_done hP0 : (eQ b0.2) = (eQ (rowCh urn draws added)))) hR

/-! ### first_drawn -/
abbrev s_first_drawn : Stmt := topS 23
abbrev N_first_drawn : List Str := ["urn", "colour", "others", "found", "ahead", "ways"]
theorem sc_first_drawn : FnScope N_first_drawn ["urn", "colour"] (defScope s_first_drawn) := ⟨rfl, rfl, rfl, by decide +kernel, rfl, by decide +kernel, by decide +kernel⟩
def R_first_drawn : List PyData → PyData → Prop := fun ds d => ∃ (urn : (List Int)) (colour : Int), ds = [((eT PyData.int) urn), (PyData.int colour)] ∧ (UrnOk urn) ∧ (0 ≤ colour ∧ colour < urn.length) ∧ d = ((eT eQ) (firstL urn colour))
set_option maxHeartbeats 4000000 in
theorem ok_first_drawn {P : Program} {w : World} {K : PySem.W.Frag} {mg : Str → Option Value} {base : Heap} (B : Gb mg) (F : Fd K mg "first_drawn" s_first_drawn) (C_check_colour : Cl P w K mg base 2 "check_colour" ["urn", "colour"] (SpP K R_check_colour)) (C_check_urn : Cl P w K mg base 2 "check_urn" ["urn"] (SpP K R_check_urn)) (C_choose : Cl P w K mg base 1 "choose" ["many", "few"] (SpP K R_choose)) (C_quotient : Cl P w K mg base 2 "quotient" ["up", "down"] (SpP K R_quotient)) (C_times : Cl P w K mg base 3 "times" ["first", "second"] (SpP K R_times)) : Cl P w K mg base 4 "first_drawn" ["urn", "colour"] (SpP K R_first_drawn) := by
  obtain ⟨f, fd, F, hm⟩ := F.ex
  refine ⟨f, fd, fnG_of (k := 3) F sc_first_drawn (spP_len fun ds d h => ?_) (fun cdv A outer s H hr hgd => ⟨_, (pss_cons (ps_expr (pe_cl C_check_urn (hr.mono (by decide)) hgd (by rfl) (pa_cons (pv 0) pa_nil))) (pss_cons (ps_expr (pe_cl C_check_colour (hr.mono (by decide)) hgd (by rfl) (pa_cons (pv 0) (pa_cons (pv 1) pa_nil)))) (pss_cons (ps_set (i := 2) sc_first_drawn.nd rfl (Or.inl rfl) (pe_op op_sub (pe_callB (r := rSumT K) (cr_sumT rfl) (by rfl) B.sum_ (by decide +kernel) (pa_cons (pv 0) pa_nil)) (pe_ix (r := rIxT K) ix_tup (pv 0) (pv 1) (fun _ _ => rfl)))) (pss_cons (ps_set (i := 3) sc_first_drawn.nd rfl (Or.inl rfl) (pe_lst pa_nil)) (pss_cons (ps_for PassesOwn.never rfl (pi_range1 (by rfl) B.range_ (pa_cons (pe_ifExp (pt_cmpR op_gt (pe_ix (r := rIxT K) ix_tup (pv 0) (pv 1) (fun _ _ => rfl)) pe_int (nomark _)) (pe_op op_add (pv 2) pe_int) pe_int) pa_nil)) (pg_name (i := 4) sc_first_drawn.nd rfl (Or.inl rfl)) (pss_cons (ps_set (i := 5) sc_first_drawn.nd rfl (Or.inl rfl) (pe_cl C_quotient (hr.mono (by decide)) hgd (by rfl) (pa_cons (pe_cl C_choose (hr.mono (by decide)) hgd (by rfl) (pa_cons (pv 2) (pa_cons (pv 4) pa_nil))) (pa_cons (pe_cl C_choose (hr.mono (by decide)) hgd (by rfl) (pa_cons (pe_callB (r := rSumT K) (cr_sumT rfl) (by rfl) B.sum_ (by decide +kernel) (pa_cons (pv 0) pa_nil)) (pa_cons (pv 4) pa_nil))) pa_nil)))) (pss_one (ps_expr (pe_bm PySem.F.plainAttrs_list PySem.F.slot_list_append PySem.F.type_list_append mt_append (pv 3) (pa_cons (pe_cl C_times (hr.mono (by decide)) hgd (by rfl) (pa_cons (pv 5) (pa_cons (pe_cl C_quotient (hr.mono (by decide)) hgd (by rfl) (pa_cons (pe_ix (r := rIxT K) ix_tup (pv 0) (pv 1) (fun _ _ => rfl)) (pa_cons (pe_op op_sub (pe_callB (r := rSumT K) (cr_sumT rfl) (by rfl) B.sum_ (by decide +kernel) (pa_cons (pv 0) pa_nil)) (pv 4)) pa_nil))) pa_nil))) pa_nil)))))) (pss_one (ps_ret (pe_callTy (r := rTupOf K) call_tupleF (by rfl) B.tuple_ PyProof.Rows.boot_tuple (pa_cons (pv 3) pa_nil))))))))), fun vs Q => fn_pure (N := N_first_drawn) (fun ds d h => ?_) (fun B S ds d h D hR hN => ?_) vs H Q E0⟩), hm, F.kp, F.binds fun _ _ _ _ _ _ us hl => match us, hl with | [_, _], _ => rfl⟩
  · obtain ⟨urn, colour, rfl, h0, h1, rfl⟩ := h; rfl
  · obtain ⟨urn, colour, rfl, h0, h1, rfl⟩ := h; simp
  · obtain ⟨urn, colour, rfl, h0, h1, rfl⟩ := h
    show Ss _ _ [.da ((eT PyData.int) urn), .da (PyData.int colour), .no, .no, .no, .no] _ _
    refine s_seq (s_drop (ed_call (ds := [((eT PyData.int) urn)]) (ea_cons (ed_var rfl) ea_nil) ⟨urn, rfl, by assumption, rfl⟩) ?_)
    refine s_seq (s_drop (ed_call (ds := [((eT PyData.int) urn), (PyData.int colour)]) (ea_cons (ed_var rfl) (ea_cons (ed_var rfl) ea_nil)) ⟨urn, colour, rfl, by assumption, rfl⟩) ?_)
    refine s_seq (s_asg (ed_I0 (ed_sumT (ed_var rfl)) (ed_ixTX (ed_var rfl) (ed_var rfl) (by exact inb h1))) (s_le (ρ1 := [.da ((eT PyData.int) urn), .da (PyData.int colour), .da (PyData.int ((urn).sum - (ixG urn colour))), .no, .no, .no]) (le_rfl rfl) ?_))
    refine s_seq (s_asgM (ds := ([]).map eQ) (el_lst (ds := [].map eQ) ea_nil) (fun p_found1 => s_le (ρ1 := [.da ((eT PyData.int) urn), .da (PyData.int colour), .da (PyData.int ((urn).sum - (ixG urn colour))), .mu true p_found1 (.lst ([].map eQ)), .no, .no]) (le_rfl rfl) ?_))
    refine s_seq (s_forX ((List.range ((if (decide ((0 : Int) < (ixG urn colour))) = true then (((urn).sum - (ixG urn colour)) + (1 : Int)) else (0 : Int))).toNat)) (fun (i : Nat) => Itm.hard (PyData.int (i : Int))) (ei_rng (ed_ite (e := PyData.int) (et_test (ed_B0 (ed_ixTX (ed_var rfl) (ed_var rfl) (by exact inb h1)) ed_int)) (fun hb2 => (ed_I0 (ed_var rfl) ed_int)) (fun hb2 => ed_int)) (by have hi := urn_ix h0 h1; have hs := h0.sum_le; split <;> omega)) (fun i0 => [.da ((eT PyData.int) urn), .da (PyData.int colour), .da (PyData.int ((urn).sum - (ixG urn colour))), .mu true p_found1 (.lst (((List.range (i0)).map (firstF urn colour)).map eQ)), .no, .no]) (le_same (le_same (le_same (le_mu (congrArg MO.lst (by rfl)) (le_no (le_no le_nil)))))) (fun T0 hT0 i0 x0 hx0 => ⟨_, [4], (eg_name (by simp)), ?_⟩) ?_)
    · show Ss _ _ [.da ((eT PyData.int) urn), .da (PyData.int colour), .da (PyData.int ((urn).sum - (ixG urn colour))), .mu true p_found1 (.lst (((List.range (i0)).map (firstF urn colour)).map eQ)), .da (PyData.int (x0 : Int)), .no] _ _
      have hk := firstN_lt h0 h1 (show x0 < firstN urn colour from (rng_get hx0).1 ▸ (rng_get hx0).2)
      have hi := urn_ix h0 h1
      have hs := h0.sum_le
      refine s_seq (s_asg (ed_call (ds := [(PyData.int (chI (((urn).sum - (ixG urn colour))) ((x0 : Int)))), (PyData.int (chI ((urn).sum) ((x0 : Int))))]) (ea_cons (ed_call (ds := [(PyData.int ((urn).sum - (ixG urn colour))), (PyData.int (x0 : Int))]) (ea_cons (ed_var rfl) (ea_cons (ed_var rfl) ea_nil)) ⟨((urn).sum - (ixG urn colour)), (x0 : Int), rfl, by omega, rfl⟩) (ea_cons (ed_call (ds := [(PyData.int (urn).sum), (PyData.int (x0 : Int))]) (ea_cons (ed_sumT (ed_var rfl)) (ea_cons (ed_var rfl) ea_nil)) ⟨(urn).sum, (x0 : Int), rfl, by omega, rfl⟩) ea_nil)) ⟨(chI (((urn).sum - (ixG urn colour))) ((x0 : Int))), (chI ((urn).sum) ((x0 : Int))), rfl, by have := chI_pos (n := urn.sum) (k := x0) (by omega); omega, by exact ch_small h0 _, rfl⟩) (s_le (ρ1 := [.da ((eT PyData.int) urn), .da (PyData.int colour), .da (PyData.int ((urn).sum - (ixG urn colour))), .mu true p_found1 (.lst (((List.range (i0)).map (firstF urn colour)).map eQ)), .da (PyData.int (x0 : Int)), .da (eQ (Rat.divInt ((chI (((urn).sum - (ixG urn colour))) ((x0 : Int)))) ((chI ((urn).sum) ((x0 : Int))))))]) (le_rfl rfl) ?_))
      refine (s_append (ed_call (ds := [(eQ (Rat.divInt ((chI (((urn).sum - (ixG urn colour))) ((x0 : Int)))) ((chI ((urn).sum) ((x0 : Int)))))), (eQ (Rat.divInt ((ixG urn colour)) (((urn).sum - (x0 : Int)))))]) (ea_cons (ed_var rfl) (ea_cons (ed_call (ds := [(PyData.int (ixG urn colour)), (PyData.int ((urn).sum - (x0 : Int)))]) (ea_cons (ed_ixTX (ed_var rfl) (ed_var rfl) (by exact inb h1)) (ea_cons (ed_I0 (ed_sumT (ed_var rfl)) (ed_var rfl)) ea_nil)) ⟨(ixG urn colour), ((urn).sum - (x0 : Int)), rfl, by omega, by exact small_lt (by omega), rfl⟩) ea_nil)) ⟨(Rat.divInt ((chI (((urn).sum - (ixG urn colour))) ((x0 : Int)))) ((chI ((urn).sum) ((x0 : Int))))), (Rat.divInt ((ixG urn colour)) (((urn).sum - (x0 : Int)))), rfl, by exact (chI_Qk (b := 360) (by omega) (by omega) (by omega)).qb (by decide), by exact (Qk_divInt (k := 20) (by omega) (by omega) (by omega)).qb (by decide), rfl⟩) ⟨_, _, rfl⟩ rfl (by have hi := urn_ix h0 h1; have hs := h0.sum_le; simp; have := (rng_get hx0).1; omega) (s_le (ρ1 := [.da ((eT PyData.int) urn), .da (PyData.int colour), .da (PyData.int ((urn).sum - (ixG urn colour))), .mu true p_found1 (.lst ((((List.range (i0)).map (firstF urn colour)) ++ [(((Rat.divInt ((chI (((urn).sum - (ixG urn colour))) ((x0 : Int)))) ((chI ((urn).sum) ((x0 : Int)))))) * ((Rat.divInt ((ixG urn colour)) (((urn).sum - (x0 : Int))))))]).map eQ)), .da (PyData.int (x0 : Int)), .da (eQ (Rat.divInt ((chI (((urn).sum - (ixG urn colour))) ((x0 : Int)))) ((chI ((urn).sum) ((x0 : Int))))))]) (le_same (le_same (le_same (le_mu (congrArg MO.lst (by simp)) (le_same (le_same le_nil)))))) ?_))
      exact s_end (le_same (le_same (le_same (le_mu (congrArg MO.lst (by exact firstL_step hx0)) (le_no (le_no le_nil))))))
    refine s_le (ρ1 := [.da ((eT PyData.int) urn), .da (PyData.int colour), .da (PyData.int ((urn).sum - (ixG urn colour))), .da ((eL eQ) ((List.range (((List.range ((if (decide ((0 : Int) < (ixG urn colour))) = true then (((urn).sum - (ixG urn colour)) + (1 : Int)) else (0 : Int))).toNat)).length)).map (firstF urn colour))), .no, .no]) (le_same (le_same (le_same (le_frz (le_no (le_no le_nil)))))) ?_
    exact s_ret (ed_is (ed_tupleL (ed_var rfl)) (by rw [List.length_range]; rfl : ((eT eQ) ((List.range (((List.range ((if (decide ((0 : Int) < (ixG urn colour))) = true then (((urn).sum - (ixG urn colour)) + (1 : Int)) else (0 : Int))).toNat)).length)).map (firstF urn colour))) = ((eT eQ) (firstL urn colour)))) hR

/-! ### mean_wait -/
abbrev s_mean_wait : Stmt := topS 24
abbrev N_mean_wait : List Str := ["urn", "colour", "many"]
theorem sc_mean_wait : FnScope N_mean_wait ["urn", "colour", "many"] (defScope s_mean_wait) := ⟨rfl, rfl, rfl, by decide +kernel, rfl, by decide +kernel, by decide +kernel⟩
def R_mean_wait : List PyData → PyData → Prop := fun ds d => ∃ (urn : (List Int)) (colour : Int) (many : Int), ds = [((eT PyData.int) urn), (PyData.int colour), (PyData.int many)] ∧ (UrnOk urn) ∧ (0 ≤ colour ∧ colour < urn.length) ∧ (0 ≤ many ∧ many ≤ 60) ∧ d = ((eO eQ) (meanW urn colour many))
set_option maxHeartbeats 4000000 in
theorem ok_mean_wait {P : Program} {w : World} {K : PySem.W.Frag} {mg : Str → Option Value} {base : Heap} (B : Gb mg) (F : Fd K mg "mean_wait" s_mean_wait) (C_check_colour : Cl P w K mg base 2 "check_colour" ["urn", "colour"] (SpP K R_check_colour)) (C_check_urn : Cl P w K mg base 2 "check_urn" ["urn"] (SpP K R_check_urn)) (C_is_integer : Cl P w K mg base 1 "is_integer" ["value"] (SpP K R_is_integer)) (C_quotient : Cl P w K mg base 2 "quotient" ["up", "down"] (SpP K R_quotient)) : Cl P w K mg base 3 "mean_wait" ["urn", "colour", "many"] (SpP K R_mean_wait) := by
  obtain ⟨f, fd, F, hm⟩ := F.ex
  refine ⟨f, fd, fnG_of (k := 2) F sc_mean_wait (spP_len fun ds d h => ?_) (fun cdv A outer s H hr hgd => ⟨_, (pss_cons (ps_expr (pe_cl C_check_urn (hr.mono (by decide)) hgd (by rfl) (pa_cons (pv 0) pa_nil))) (pss_cons (ps_expr (pe_cl C_check_colour (hr.mono (by decide)) hgd (by rfl) (pa_cons (pv 0) (pa_cons (pv 1) pa_nil)))) (pss_cons (ps_if (PW.pt (pw_or (pt_not (pt_truth (pe_cl C_is_integer (hr.mono (by decide)) hgd (by rfl) (pa_cons (pv 2) pa_nil)) (fun _ => rfl))) (pw_or1 (pt_not (pt_chain op_le op_le pe_int (pv 2) (pe_glob (v := .int 60) rfl B.c_MAX_BALLS.choose_spec ⟨_, rfl⟩)))))) pss_never pss_nil) (pss_one (ps_ret (pe_ifExp (pt_cmpR op_le (pv 2) (pe_ix (r := rIxT K) ix_tup (pv 0) (pv 1) (fun _ _ => rfl)) (nomark _)) (pe_cl C_quotient (hr.mono (by decide)) hgd (by rfl) (pa_cons (pe_op op_mulG (pv 2) (pe_op op_add (pe_callB (r := rSumT K) (cr_sumT rfl) (by rfl) B.sum_ (by decide +kernel) (pa_cons (pv 0) pa_nil)) pe_int)) (pa_cons (pe_op op_add (pe_ix (r := rIxT K) ix_tup (pv 0) (pv 1) (fun _ _ => rfl)) pe_int) pa_nil))) pe_non)))))), fun vs Q => fn_pure (N := N_mean_wait) (fun ds d h => ?_) (fun B S ds d h D hR hN => ?_) vs H Q E0⟩), hm, F.kp, F.binds fun _ _ _ _ _ _ us hl => match us, hl with | [_, _, _], _ => rfl⟩
  · obtain ⟨urn, colour, many, rfl, h0, h1, h2, rfl⟩ := h; rfl
  · obtain ⟨urn, colour, many, rfl, h0, h1, h2, rfl⟩ := h; simp
  · obtain ⟨urn, colour, many, rfl, h0, h1, h2, rfl⟩ := h
    show Ss _ _ [.da ((eT PyData.int) urn), .da (PyData.int colour), .da (PyData.int many)] _ _
    refine s_seq (s_drop (ed_call (ds := [((eT PyData.int) urn)]) (ea_cons (ed_var rfl) ea_nil) ⟨urn, rfl, by assumption, rfl⟩) ?_)
    refine s_seq (s_drop (ed_call (ds := [((eT PyData.int) urn), (PyData.int colour)]) (ea_cons (ed_var rfl) (ea_cons (ed_var rfl) ea_nil)) ⟨urn, colour, rfl, by assumption, rfl⟩) ?_)
    refine s_seq (s_skip (et_or (et_not (et_truB (ed_call (ds := [(PyData.int many)]) (ea_cons (ed_var rfl) ea_nil) ⟨(PyData.int many), rfl, rfl⟩))) (fun hb2 => (et_not (et_chain (ed_chain ed_int (ed_var rfl) (fun hb1 => ed_int)))))) (by simp [isIntD, isi_int, isi_bool]; omega : ((!(isIntD ((PyData.int many)))) || (!(decide ((0 : Int) ≤ many) && decide (many ≤ (60 : Int))))) = false) ?_)
    exact s_ret (ed_is (ed_ite (e := (eO eQ)) (et_test (ed_B0 (ed_var rfl) (ed_ixTX (ed_var rfl) (ed_var rfl) (by exact inb h1)))) (fun hb3 => (ed_is (ed_call (ds := [(PyData.int (many * ((urn).sum + (1 : Int)))), (PyData.int ((ixG urn colour) + (1 : Int)))]) (ea_cons (ed_I (ed_var rfl) (ed_I0 (ed_sumT (ed_var rfl)) ed_int) (by first | assumption | exact mul_l (by omega) (by omega) | exact mul_r (by omega) (by omega))) (ea_cons (ed_I0 (ed_ixTX (ed_var rfl) (ed_var rfl) (by exact inb h1)) ed_int) ea_nil)) ⟨(many * ((urn).sum + (1 : Int))), ((ixG urn colour) + (1 : Int)), rfl, by have hi := urn_ix h0 h1; omega, by exact small_lt (by have hi := urn_ix h0 h1; omega), rfl⟩) (rfl : _ = ((eO eQ) (some (Rat.divInt ((many * ((urn).sum + (1 : Int)))) (((ixG urn colour) + (1 : Int))))))))) (fun hb3 => (ed_is ed_non (rfl : _ = ((eO eQ) (none : (Option Rat))))))) (by unfold meanW; simp only [decide_eq_true_eq] : ((eO eQ) (if (decide (many ≤ (ixG urn colour))) = true then (some (Rat.divInt ((many * ((urn).sum + (1 : Int)))) (((ixG urn colour) + (1 : Int))))) else (none : (Option Rat)))) = ((eO eQ) (meanW urn colour many)))) hR

/-! ### last_colour -/
abbrev s_last_colour : Stmt := topS 25
abbrev N_last_colour : List Str := ["urn", "many"]
theorem sc_last_colour : FnScope N_last_colour ["urn"] (defScope s_last_colour) := ⟨rfl, rfl, rfl, by decide +kernel, rfl, by decide +kernel, by decide +kernel⟩
def R_last_colour : List PyData → PyData → Prop := fun ds d => ∃ (urn : (List Int)), ds = [((eT PyData.int) urn)] ∧ (UrnOk urn) ∧ d = ((eT eQ) ((urn.map fun many => Rat.divInt many urn.sum)))
set_option maxHeartbeats 4000000 in
theorem ok_last_colour {P : Program} {w : World} {K : PySem.W.Frag} {mg : Str → Option Value} {base : Heap} (B : Gb mg) (F : Fd K mg "last_colour" s_last_colour) (C_check_urn : Cl P w K mg base 2 "check_urn" ["urn"] (SpP K R_check_urn)) (C_quotient : Cl P w K mg base 2 "quotient" ["up", "down"] (SpP K R_quotient)) : Cl P w K mg base 3 "last_colour" ["urn"] (SpP K R_last_colour) := by
  obtain ⟨f, fd, F, hm⟩ := F.ex
  refine ⟨f, fd, fnG_of (k := 2) F sc_last_colour (spP_len fun ds d h => ?_) (fun cdv A outer s H hr hgd => ⟨_, (pss_cons (ps_expr (pe_cl C_check_urn (hr.mono (by decide)) hgd (by rfl) (pa_cons (pv 0) pa_nil))) (pss_one (ps_ret (pe_callTy (r := rTupOf K) call_tupleF (by rfl) B.tuple_ PyProof.Rows.boot_tuple (pa_cons (pe_lc (own := [("many", 1)]) (g := _) (tt := tYes) rfl sc_last_colour.nd (pi_tup (pv 0)) (blkOk_by (N := N_last_colour) (sc := defScope s_last_colour) (by decide +kernel)) (fun _ _ _ _ _ => (pg_name (i := 1) sc_last_colour.nd rfl (Or.inl rfl))) (fun _ _ _ _ _ => pts_nil) (fun _ _ _ _ _ => (pe_cl C_quotient (hr.mono (by decide)) hgd (by rfl) (pa_cons (pv 1) (pa_cons (pe_callB (r := rSumT K) (cr_sumT rfl) (by rfl) B.sum_ (by decide +kernel) (pa_cons (pv 0) pa_nil)) pa_nil))))) pa_nil))))), fun vs Q => fn_pure (N := N_last_colour) (fun ds d h => ?_) (fun B S ds d h D hR hN => ?_) vs H Q E0⟩), hm, F.kp, F.binds fun _ _ _ _ _ _ us hl => match us, hl with | [_], _ => rfl⟩
  · obtain ⟨urn, rfl, h0, rfl⟩ := h; rfl
  · obtain ⟨urn, rfl, h0, rfl⟩ := h; simp
  · obtain ⟨urn, rfl, h0, rfl⟩ := h
    show Ss _ _ [.da ((eT PyData.int) urn), .no] _ _
    refine s_seq (s_drop (ed_call (ds := [((eT PyData.int) urn)]) (ea_cons (ed_var rfl) ea_nil) ⟨urn, rfl, by assumption, rfl⟩) ?_)
    exact s_ret (ed_is (ed_tupleL (ed_L (el_lcAX (xs := urn) (ea := fun x => Itm.hard (PyData.int x)) (enc := eQ) (fb := fun (x1 : Int) => (Rat.divInt (x1) ((urn).sum))) (ei_tupX (ed_var rfl)) (by have := h0.2.1; omega) (by simp) (fun _ _ x1 hx1 => ⟨_, rfl, (eg_name (by simp)), (ed_call (ds := [(PyData.int x1), (PyData.int (urn).sum)]) (ea_cons (ed_var rfl) (ea_cons (ed_sumT (ed_var rfl)) ea_nil)) ⟨x1, (urn).sum, rfl, by have := h0.2.2.2; omega, by exact small_lt (by have := h0.sum_le; have := h0.2.2.2; omega), rfl⟩)⟩)))) (by rfl : ((eT eQ) ((urn).map fun (x1 : Int) => (Rat.divInt (x1) ((urn).sum)))) = ((eT eQ) ((urn.map fun many => Rat.divInt many urn.sum))))) hR

/-! ### gone_first -/
abbrev s_gone_first : Stmt := topS 26
abbrev N_gone_first : List Str := ["urn", "one", "other"]
theorem sc_gone_first : FnScope N_gone_first ["urn", "one", "other"] (defScope s_gone_first) := ⟨rfl, rfl, rfl, by decide +kernel, rfl, by decide +kernel, by decide +kernel⟩
def R_gone_first : List PyData → PyData → Prop := fun ds d => ∃ (urn : (List Int)) (one : Int) (other : Int), ds = [((eT PyData.int) urn), (PyData.int one), (PyData.int other)] ∧ (UrnOk urn) ∧ (0 ≤ one ∧ one < urn.length) ∧ (0 ≤ other ∧ other < urn.length) ∧ (other ≠ one) ∧ d = (eQ (Rat.divInt (ixG urn other) (ixG urn one + ixG urn other)))
set_option maxHeartbeats 4000000 in
theorem ok_gone_first {P : Program} {w : World} {K : PySem.W.Frag} {mg : Str → Option Value} {base : Heap} (B : Gb mg) (F : Fd K mg "gone_first" s_gone_first) (C_check_colour : Cl P w K mg base 2 "check_colour" ["urn", "colour"] (SpP K R_check_colour)) (C_check_urn : Cl P w K mg base 2 "check_urn" ["urn"] (SpP K R_check_urn)) (C_is_integer : Cl P w K mg base 1 "is_integer" ["value"] (SpP K R_is_integer)) (C_quotient : Cl P w K mg base 2 "quotient" ["up", "down"] (SpP K R_quotient)) : Cl P w K mg base 3 "gone_first" ["urn", "one", "other"] (SpP K R_gone_first) := by
  obtain ⟨f, fd, F, hm⟩ := F.ex
  refine ⟨f, fd, fnG_of (k := 2) F sc_gone_first (spP_len fun ds d h => ?_) (fun cdv A outer s H hr hgd => ⟨_, (pss_cons (ps_expr (pe_cl C_check_urn (hr.mono (by decide)) hgd (by rfl) (pa_cons (pv 0) pa_nil))) (pss_cons (ps_expr (pe_cl C_check_colour (hr.mono (by decide)) hgd (by rfl) (pa_cons (pv 0) (pa_cons (pv 1) pa_nil)))) (pss_cons (ps_if (PW.pt (pw_or (pt_not (pt_truth (pe_cl C_is_integer (hr.mono (by decide)) hgd (by rfl) (pa_cons (pv 2) pa_nil)) (fun _ => rfl))) (pw_or (pt_not (pt_chain op_le op_lt pe_int (pv 2) (pe_callB (r := rLenS K) call_len_seq (by rfl) B.len_ PySem.boot_len (pa_cons (pv 0) pa_nil)))) (pw_or1 (pt_cmpR (r := rEqD K) (op_eqD hr.units) (pv 2) (pv 1) (nomark _)))))) pss_never pss_nil) (pss_cons (ps_if (pt_cmpR (r := rEqD K) (op_eqD hr.units) (pe_op op_add (pe_ix (r := rIxT K) ix_tup (pv 0) (pv 1) (fun _ _ => rfl)) (pe_ix (r := rIxT K) ix_tup (pv 0) (pv 2) (fun _ _ => rfl))) pe_int (nomark _)) (pss_one (ps_ret (pe_tupF (pa_cons pe_int (pa_cons pe_int pa_nil))))) pss_nil) (pss_one (ps_ret (pe_cl C_quotient (hr.mono (by decide)) hgd (by rfl) (pa_cons (pe_ix (r := rIxT K) ix_tup (pv 0) (pv 2) (fun _ _ => rfl)) (pa_cons (pe_op op_add (pe_ix (r := rIxT K) ix_tup (pv 0) (pv 1) (fun _ _ => rfl)) (pe_ix (r := rIxT K) ix_tup (pv 0) (pv 2) (fun _ _ => rfl))) pa_nil))))))))), fun vs Q => fn_pure (N := N_gone_first) (fun ds d h => ?_) (fun B S ds d h D hR hN => ?_) vs H Q E0⟩), hm, F.kp, F.binds fun _ _ _ _ _ _ us hl => match us, hl with | [_, _, _], _ => rfl⟩
  · obtain ⟨urn, one, other, rfl, h0, h1, h2, h3, rfl⟩ := h; rfl
  · obtain ⟨urn, one, other, rfl, h0, h1, h2, h3, rfl⟩ := h; simp
  · obtain ⟨urn, one, other, rfl, h0, h1, h2, h3, rfl⟩ := h
    show Ss _ _ [.da ((eT PyData.int) urn), .da (PyData.int one), .da (PyData.int other)] _ _
    refine s_seq (s_drop (ed_call (ds := [((eT PyData.int) urn)]) (ea_cons (ed_var rfl) ea_nil) ⟨urn, rfl, by assumption, rfl⟩) ?_)
    refine s_seq (s_drop (ed_call (ds := [((eT PyData.int) urn), (PyData.int one)]) (ea_cons (ed_var rfl) (ea_cons (ed_var rfl) ea_nil)) ⟨urn, one, rfl, by assumption, rfl⟩) ?_)
    refine s_seq (s_skip (et_or (et_not (et_truB (ed_call (ds := [(PyData.int other)]) (ea_cons (ed_var rfl) ea_nil) ⟨(PyData.int other), rfl, rfl⟩))) (fun hb3 => (et_or (et_not (et_chain (ed_chain ed_int (ed_var rfl) (fun hb1 => (ed_lenTX (ed_var rfl)))))) (fun hb2 => (et_test (ed_eqI (ed_var rfl) (ed_var rfl))))))) (by simp [isIntD, isi_int, isi_bool]; omega : ((!(isIntD ((PyData.int other)))) || ((!(decide ((0 : Int) ≤ other) && decide (other < ((urn).length : Int)))) || (decide (other = one)))) = false) ?_)
    refine s_seq (s_if (b := (decide (((ixG urn one) + (ixG urn other)) = (0 : Int)))) (et_test (ed_eqI (ed_I0 (ed_ixTX (ed_var rfl) (ed_var rfl) (by first | exact inb h1 | exact inb h2)) (ed_ixTX (ed_var rfl) (ed_var rfl) (by first | exact inb h1 | exact inb h2))) ed_int)) (fun hc1 => ?_) (fun hc1 => ?_))
    · exact s_ret (ed_is (ed_is (d1 := eQ (0 : Rat)) (ed_tup (ds := [PyData.int (0 : Int), PyData.int (1 : Int)]) (ea_cons ed_int (ea_cons ed_int ea_nil))) (by rfl)) (by rw [of_decide_eq_true hc1, Rat.divInt_zero] : (eQ (0 : Rat)) = (eQ (Rat.divInt (ixG urn other) (ixG urn one + ixG urn other))))) hR
    · refine s_next ?_
      exact s_ret (ed_is (ed_call (ds := [(PyData.int (ixG urn other)), (PyData.int ((ixG urn one) + (ixG urn other)))]) (ea_cons (ed_ixTX (ed_var rfl) (ed_var rfl) (by first | exact inb h1 | exact inb h2)) (ea_cons (ed_I0 (ed_ixTX (ed_var rfl) (ed_var rfl) (by first | exact inb h1 | exact inb h2)) (ed_ixTX (ed_var rfl) (ed_var rfl) (by first | exact inb h1 | exact inb h2))) ea_nil)) ⟨(ixG urn other), ((ixG urn one) + (ixG urn other)), rfl, by simpa using hc1, by exact small_lt (by have := urn_ix h0 h1; have := urn_ix h0 h2; omega), rfl⟩) (by rfl : (eQ (Rat.divInt ((ixG urn other)) (((ixG urn one) + (ixG urn other))))) = (eQ (Rat.divInt (ixG urn other) (ixG urn one + ixG urn other))))) hR

/-! ### same_chance -/
abbrev s_same_chance : Stmt := topS 27
abbrev N_same_chance : List Str := ["urn", "draws", "added", "left", "ways", "colour", "many"]
theorem sc_same_chance : FnScope N_same_chance ["urn", "draws", "added"] (defScope s_same_chance) := ⟨rfl, rfl, rfl, by decide +kernel, rfl, by decide +kernel, by decide +kernel⟩
def R_same_chance : List PyData → PyData → Prop := fun ds d => ∃ (urn : (List Int)) (draws : (List Int)) (added : Int), ds = [((eT PyData.int) urn), ((eT PyData.int) draws), (PyData.int added)] ∧ (UrnOk urn) ∧ (DrwOk urn draws) ∧ (-1 ≤ added ∧ added ≤ 60) ∧ d = (PyData.int ((multi draws urn.length).1))
set_option maxHeartbeats 4000000 in
theorem ok_same_chance {P : Program} {w : World} {K : PySem.W.Frag} {mg : Str → Option Value} {base : Heap} (B : Gb mg) (F : Fd K mg "same_chance" s_same_chance) (C_check_added : Cl P w K mg base 2 "check_added" ["added"] (SpP K R_check_added)) (C_check_draws : Cl P w K mg base 2 "check_draws" ["urn", "draws"] (SpP K R_check_draws)) (C_check_urn : Cl P w K mg base 2 "check_urn" ["urn"] (SpP K R_check_urn)) (C_choose : Cl P w K mg base 1 "choose" ["many", "few"] (SpP K R_choose)) : Cl P w K mg base 3 "same_chance" ["urn", "draws", "added"] (SpP K R_same_chance) := by
  obtain ⟨f, fd, F, hm⟩ := F.ex
  refine ⟨f, fd, fnG_of (k := 2) F sc_same_chance (spP_len fun ds d h => ?_) (fun cdv A outer s H hr hgd => ⟨_, (pss_cons (ps_expr (pe_cl C_check_urn (hr.mono (by decide)) hgd (by rfl) (pa_cons (pv 0) pa_nil))) (pss_cons (ps_expr (pe_cl C_check_draws (hr.mono (by decide)) hgd (by rfl) (pa_cons (pv 0) (pa_cons (pv 1) pa_nil)))) (pss_cons (ps_expr (pe_cl C_check_added (hr.mono (by decide)) hgd (by rfl) (pa_cons (pv 2) pa_nil))) (pss_cons (ps_set (i := 3) sc_same_chance.nd rfl (Or.inl rfl) (pe_callB (r := rLenS K) call_len_seq (by rfl) B.len_ PySem.boot_len (pa_cons (pv 1) pa_nil))) (pss_cons (ps_set (i := 4) sc_same_chance.nd rfl (Or.inl rfl) pe_int) (pss_cons (ps_for PassesOwn.never rfl (pi_range1 (by rfl) B.range_ (pa_cons (pe_callB (r := rLenS K) call_len_seq (by rfl) B.len_ PySem.boot_len (pa_cons (pv 0) pa_nil)) pa_nil)) (pg_name (i := 5) sc_same_chance.nd rfl (Or.inl rfl)) (pss_cons (ps_set (i := 6) sc_same_chance.nd rfl (Or.inl rfl) (pe_bmTK (K := K) (r := rCntT K) PySem.F.slot_tuple_count PySem.F.type_tuple_count mt_tcount (pv 1) (pa_cons (pv 5) pa_nil))) (pss_cons (ps_aug (i := 4) sc_same_chance.nd rfl (Or.inl rfl) (pe_cl C_choose (hr.mono (by decide)) hgd (by rfl) (pa_cons (pv 3) (pa_cons (pv 6) pa_nil))) iop_mulG) (pss_one (ps_aug (i := 3) sc_same_chance.nd rfl (Or.inl rfl) (pv 6) ip_sub))))) (pss_one (ps_ret (pv 4))))))))), fun vs Q => fn_pure (N := N_same_chance) (fun ds d h => ?_) (fun B S ds d h D hR hN => ?_) vs H Q E0⟩), hm, F.kp, F.binds fun _ _ _ _ _ _ us hl => match us, hl with | [_, _, _], _ => rfl⟩
  · obtain ⟨urn, draws, added, rfl, h0, h1, h2, rfl⟩ := h; rfl
  · obtain ⟨urn, draws, added, rfl, h0, h1, h2, rfl⟩ := h; simp
  · obtain ⟨urn, draws, added, rfl, h0, h1, h2, rfl⟩ := h
    show Ss _ _ [.da ((eT PyData.int) urn), .da ((eT PyData.int) draws), .da (PyData.int added), .no, .no, .no, .no] _ _
    refine s_seq (s_drop (ed_call (ds := [((eT PyData.int) urn)]) (ea_cons (ed_var rfl) ea_nil) ⟨urn, rfl, by assumption, rfl⟩) ?_)
    refine s_seq (s_drop (ed_call (ds := [((eT PyData.int) urn), ((eT PyData.int) draws)]) (ea_cons (ed_var rfl) (ea_cons (ed_var rfl) ea_nil)) ⟨urn, draws, rfl, by assumption, rfl⟩) ?_)
    refine s_seq (s_drop (ed_call (ds := [(PyData.int added)]) (ea_cons (ed_var rfl) ea_nil) ⟨added, rfl, by assumption, rfl⟩) ?_)
    refine s_seq (s_asg (ed_lenTX (ed_var rfl)) (s_le (ρ1 := [.da ((eT PyData.int) urn), .da ((eT PyData.int) draws), .da (PyData.int added), .da (PyData.int ((draws).length : Int)), .no, .no, .no]) (le_rfl rfl) ?_))
    refine s_seq (s_asg ed_int (s_le (ρ1 := [.da ((eT PyData.int) urn), .da ((eT PyData.int) draws), .da (PyData.int added), .da (PyData.int ((draws).length : Int)), .da (PyData.int (1 : Int)), .no, .no]) (le_rfl rfl) ?_))
    refine s_seq (s_forX ((List.range (((urn).length : Int)).toNat)) (fun (i : Nat) => Itm.hard (PyData.int (i : Int))) (ei_rng (ed_lenTX (ed_var rfl)) (by have := h0.2.1; omega)) (fun i0 => [.da ((eT PyData.int) urn), .da ((eT PyData.int) draws), .da (PyData.int added), .da (PyData.int ((multi draws (i0)).2)), .da (PyData.int ((multi draws (i0)).1)), .no, .no]) (le_same (le_same (le_same (le_da (by rfl) (le_da (by rfl) (le_no (le_no le_nil))))))) (fun T0 hT0 i0 x0 hx0 => ⟨_, [5], (eg_name (by simp)), ?_⟩) ?_)
    · show Ss _ _ [.da ((eT PyData.int) urn), .da ((eT PyData.int) draws), .da (PyData.int added), .da (PyData.int ((multi draws (i0)).2)), .da (PyData.int ((multi draws (i0)).1)), .da (PyData.int (x0 : Int)), .no] _ _
      have hl := multi_lo (fun x hx => (h1.2 x hx).1) i0
      have hd := h1.1
      refine s_seq (s_asg (ed_tcount (ed_var rfl) (ed_var rfl)) (s_le (ρ1 := [.da ((eT PyData.int) urn), .da ((eT PyData.int) draws), .da (PyData.int added), .da (PyData.int ((multi draws (i0)).2)), .da (PyData.int ((multi draws (i0)).1)), .da (PyData.int (x0 : Int)), .da (PyData.int (((draws).count (x0 : Int) : Nat) : Int))]) (le_rfl rfl) ?_))
      refine s_seq (s_augC rfl (ed_call (ds := [(PyData.int ((multi draws (i0)).2)), (PyData.int (((draws).count (x0 : Int) : Nat) : Int))]) (ea_cons (ed_var rfl) (ea_cons (ed_var rfl) ea_nil)) ⟨((multi draws (i0)).2), (((draws).count (x0 : Int) : Nat) : Int), rfl, by omega, rfl⟩) (by rw [(rng_get hx0).1]; exact multi_mul (fun x hx => (h1.2 x hx).1) h1.1 (by have := (rng_get hx0).2; have := h0.2.1; omega)) (s_le (ρ1 := [.da ((eT PyData.int) urn), .da ((eT PyData.int) draws), .da (PyData.int added), .da (PyData.int ((multi draws (i0)).2)), .da (PyData.int (((multi draws (i0)).1) * (chI (((multi draws (i0)).2)) ((((draws).count (x0 : Int) : Nat) : Int))))), .da (PyData.int (x0 : Int)), .da (PyData.int (((draws).count (x0 : Int) : Nat) : Int))]) (le_rfl rfl) ?_))
      refine (s_aug rfl (ed_var rfl) (s_le (ρ1 := [.da ((eT PyData.int) urn), .da ((eT PyData.int) draws), .da (PyData.int added), .da (PyData.int (((multi draws (i0)).2) - (((draws).count (x0 : Int) : Nat) : Int))), .da (PyData.int (((multi draws (i0)).1) * (chI (((multi draws (i0)).2)) ((((draws).count (x0 : Int) : Nat) : Int))))), .da (PyData.int (x0 : Int)), .da (PyData.int (((draws).count (x0 : Int) : Nat) : Int))]) (le_rfl rfl) ?_))
      exact s_end (le_same (le_same (le_same (le_da (by rw [(rng_get hx0).1]; rfl) (le_da (by rw [(rng_get hx0).1]; rfl) (le_no (le_no le_nil)))))))
    exact s_ret (ed_is (ed_var rfl) (by rw [List.length_range]; rfl : (PyData.int ((multi draws (((List.range (((urn).length : Int)).toNat)).length)).1)) = (PyData.int ((multi draws urn.length).1)))) hR

/-! ### spread_of -/
abbrev s_spread_of : Stmt := topS 21
abbrev N_spread_of : List Str := ["urn", "colour", "draws", "added", "rows", "done", "further", "whole", "drawn", "chance", "own"]
theorem sc_spread_of : FnScope N_spread_of ["urn", "colour", "draws", "added"] (defScope s_spread_of) := ⟨rfl, rfl, rfl, by decide +kernel, rfl, by decide +kernel, by decide +kernel⟩
def R_spread_of : List PyData → PyData → Prop := fun ds d => ∃ (urn : (List Int)) (colour : Int) (draws : Int) (added : Int), ds = [((eT PyData.int) urn), (PyData.int colour), (PyData.int draws), (PyData.int added)] ∧ (SpOk urn colour draws added) ∧ d = ((eT eQ) (spL urn colour added draws.toNat))
set_option maxHeartbeats 4000000 in
theorem ok_spread_of {P : Program} {w : World} {K : PySem.W.Frag} {mg : Str → Option Value} {base : Heap} (B : Gb mg) (F : Fd K mg "spread_of" s_spread_of) (C_check_added : Cl P w K mg base 2 "check_added" ["added"] (SpP K R_check_added)) (C_check_colour : Cl P w K mg base 2 "check_colour" ["urn", "colour"] (SpP K R_check_colour)) (C_check_urn : Cl P w K mg base 2 "check_urn" ["urn"] (SpP K R_check_urn)) (C_is_integer : Cl P w K mg base 1 "is_integer" ["value"] (SpP K R_is_integer)) (C_plus : Cl P w K mg base 3 "plus" ["first", "second"] (SpP K R_plus)) (C_quotient : Cl P w K mg base 2 "quotient" ["up", "down"] (SpP K R_quotient)) (C_times : Cl P w K mg base 3 "times" ["first", "second"] (SpP K R_times)) : Cl P w K mg base 4 "spread_of" ["urn", "colour", "draws", "added"] (SpP K R_spread_of) := by
  obtain ⟨f, fd, F, hm⟩ := F.ex
  refine ⟨f, fd, fnG_of (k := 3) F sc_spread_of (spP_len fun ds d h => ?_) (fun cdv A outer s H hr hgd => ⟨_, (pss_cons (ps_expr (pe_cl C_check_urn (hr.mono (by decide)) hgd (by rfl) (pa_cons (pv 0) pa_nil))) (pss_cons (ps_expr (pe_cl C_check_colour (hr.mono (by decide)) hgd (by rfl) (pa_cons (pv 0) (pa_cons (pv 1) pa_nil)))) (pss_cons (ps_if (PW.pt (pw_or (pt_not (pt_truth (pe_cl C_is_integer (hr.mono (by decide)) hgd (by rfl) (pa_cons (pv 2) pa_nil)) (fun _ => rfl))) (pw_or1 (pt_not (pt_chain op_le op_le pe_int (pv 2) (pe_glob (v := .int 60) rfl B.c_MAX_DRAWS.choose_spec ⟨_, rfl⟩)))))) pss_never pss_nil) (pss_cons (ps_expr (pe_cl C_check_added (hr.mono (by decide)) hgd (by rfl) (pa_cons (pv 3) pa_nil))) (pss_cons (ps_if (PW.pt (pw_and (pt_cmpR (r := rEqD K) (op_eqD hr.units) (pv 3) (pe_un un_neg pe_int) (nomark _)) (pw_and1 (pt_cmpR op_gt (pv 2) (pe_callB (r := rSumT K) (cr_sumT rfl) (by rfl) B.sum_ (by decide +kernel) (pa_cons (pv 0) pa_nil)) (nomark _))))) pss_never pss_nil) (pss_cons (ps_set (i := 4) sc_spread_of.nd rfl (Or.inl rfl) (pe_lst (pa_cons (pe_tupF (pa_cons pe_int (pa_cons pe_int pa_nil))) pa_nil))) (pss_cons (ps_for PassesOwn.never rfl (pi_range1 (by rfl) B.range_ (pa_cons (pv 2) pa_nil)) (pg_name (i := 5) sc_spread_of.nd rfl (Or.inl rfl)) (pss_cons (ps_set (i := 6) sc_spread_of.nd rfl (Or.inl rfl) (pe_op op_rep (pe_lst (pa_cons (pe_tupF (pa_cons pe_int (pa_cons pe_int pa_nil))) pa_nil)) (pe_op op_add (pv 5) pe_int))) (pss_cons (ps_set (i := 7) sc_spread_of.nd rfl (Or.inl rfl) (pe_op op_add (pe_callB (r := rSumT K) (cr_sumT rfl) (by rfl) B.sum_ (by decide +kernel) (pa_cons (pv 0) pa_nil)) (pe_op op_mulG (pv 5) (pv 3)))) (pss_cons (ps_for PassesOwn.never rfl (pi_enum (by rfl) B.enumerate_ (pa_cons (pv 4) pa_nil)) (pg_tup rfl (pgs_cons (pg_name (i := 8) sc_spread_of.nd rfl (Or.inl rfl)) (pgs_cons (pg_name (i := 9) sc_spread_of.nd rfl (Or.inl rfl)) pgs_nil))) (pss_cons (ps_set (i := 10) sc_spread_of.nd rfl (Or.inl rfl) (pe_op op_add (pe_ix (r := rIxT K) ix_tup (pv 0) (pv 1) (fun _ _ => rfl)) (pe_op op_mulG (pv 8) (pv 3)))) (pss_cons (ps_asg (pe_cl C_plus (hr.mono (by decide)) hgd (by rfl) (pa_cons (pe_ix (r := rIxL K) ix_list (pv 6) (pe_op op_add (pv 8) pe_int) (fun _ _ => rfl)) (pa_cons (pe_cl C_times (hr.mono (by decide)) hgd (by rfl) (pa_cons (pv 9) (pa_cons (pe_cl C_quotient (hr.mono (by decide)) hgd (by rfl) (pa_cons (pv 10) (pa_cons (pv 7) pa_nil))) pa_nil))) pa_nil))) (pg_sub (pv 6) (pe_op op_add (pv 8) pe_int) set_list (fun _ => rfl)) rfl) (pss_one (ps_asg (pe_cl C_plus (hr.mono (by decide)) hgd (by rfl) (pa_cons (pe_ix (r := rIxL K) ix_list (pv 6) (pv 8) (fun _ _ => rfl)) (pa_cons (pe_cl C_times (hr.mono (by decide)) hgd (by rfl) (pa_cons (pv 9) (pa_cons (pe_cl C_quotient (hr.mono (by decide)) hgd (by rfl) (pa_cons (pe_op op_sub (pv 7) (pv 10)) (pa_cons (pv 7) pa_nil))) pa_nil))) pa_nil))) (pg_sub (pv 6) (pv 8) set_list (fun _ => rfl)) rfl))))) (pss_one (ps_set (i := 4) sc_spread_of.nd rfl (Or.inl rfl) (pv 6))))))) (pss_one (ps_ret (pe_callTy (r := rTupOf K) call_tupleF (by rfl) B.tuple_ PyProof.Rows.boot_tuple (pa_cons (pv 4) pa_nil))))))))))), fun vs Q => fn_pure (N := N_spread_of) (fun ds d h => ?_) (fun B S ds d h D hR hN => ?_) vs H Q E0⟩), hm, F.kp, F.binds fun _ _ _ _ _ _ us hl => match us, hl with | [_, _, _, _], _ => rfl⟩
  · obtain ⟨urn, colour, draws, added, rfl, h0, rfl⟩ := h; rfl
  · obtain ⟨urn, colour, draws, added, rfl, h0, rfl⟩ := h; simp
  · obtain ⟨urn, colour, draws, added, rfl, h0, rfl⟩ := h
    have h1 := h0.1
    have h2 := h0.2.1
    have h3 := h0.2.2.1
    have h4 := h0.2.2.2.1
    show Ss _ _ [.da ((eT PyData.int) urn), .da (PyData.int colour), .da (PyData.int draws), .da (PyData.int added), .no, .no, .no, .no, .no, .no, .no] _ _
    refine s_seq (s_drop (ed_call (ds := [((eT PyData.int) urn)]) (ea_cons (ed_var rfl) ea_nil) ⟨urn, rfl, by assumption, rfl⟩) ?_)
    refine s_seq (s_drop (ed_call (ds := [((eT PyData.int) urn), (PyData.int colour)]) (ea_cons (ed_var rfl) (ea_cons (ed_var rfl) ea_nil)) ⟨urn, colour, rfl, by assumption, rfl⟩) ?_)
    refine s_seq (s_skip (et_or (et_not (et_truB (ed_call (ds := [(PyData.int draws)]) (ea_cons (ed_var rfl) ea_nil) ⟨(PyData.int draws), rfl, rfl⟩))) (fun hb2 => (et_not (et_chain (ed_chain ed_int (ed_var rfl) (fun hb1 => ed_int)))))) (by simp [isIntD, isi_int, isi_bool]; omega : ((!(isIntD ((PyData.int draws)))) || (!(decide ((0 : Int) ≤ draws) && decide (draws ≤ (60 : Int))))) = false) ?_)
    refine s_seq (s_drop (ed_call (ds := [(PyData.int added)]) (ea_cons (ed_var rfl) ea_nil) ⟨added, rfl, by assumption, rfl⟩) ?_)
    refine s_seq (s_skip (et_and (et_test (ed_eqI (ed_var rfl) (ed_neg ed_int))) (fun hb3 => (et_test (ed_B0 (ed_var rfl) (ed_sumT (ed_var rfl)))))) (by have := h0.2.2.2.2; simp; omega : ((decide (added = (-(1 : Int)))) && (decide ((urn).sum < draws))) = false) ?_)
    refine s_seq (s_asg (ed_L (el_lst (ds := [(1 : Rat)].map eQ) (ea_cons (ed_is (d1 := eQ (1 : Rat)) (ed_tup (ds := [PyData.int (1 : Int), PyData.int (1 : Int)]) (ea_cons ed_int (ea_cons ed_int ea_nil))) (by rfl)) ea_nil))) (s_le (ρ1 := [.da ((eT PyData.int) urn), .da (PyData.int colour), .da (PyData.int draws), .da (PyData.int added), .da ((eL eQ) [(1 : Rat)]), .no, .no, .no, .no, .no, .no]) (le_rfl rfl) ?_))
    refine s_seq (s_forX ((List.range (draws).toNat)) (fun (i : Nat) => Itm.hard (PyData.int (i : Int))) (ei_rng (ed_var rfl) (by omega)) (fun i0 => [.da ((eT PyData.int) urn), .da (PyData.int colour), .da (PyData.int draws), .da (PyData.int added), .da ((eL eQ) (spL urn colour added (i0))), .no, .no, .no, .no, .no, .no]) (le_same (le_same (le_same (le_same (le_da (by rfl) (le_no (le_no (le_no (le_no (le_no (le_no le_nil))))))))))) (fun T0 hT0 i0 x0 hx0 => ⟨_, [5], (eg_name (by simp)), ?_⟩) ?_)
    · show Ss _ _ [.da ((eT PyData.int) urn), .da (PyData.int colour), .da (PyData.int draws), .da (PyData.int added), .da ((eL eQ) (spL urn colour added (i0))), .da (PyData.int (x0 : Int)), .no, .no, .no, .no, .no] _ _
      have hlt0 := (rng_get hx0).2
      refine s_le (ρ1 := [.da ((eT PyData.int) urn), .da (PyData.int colour), .da (PyData.int draws), .da (PyData.int added), .da ((eL eQ) (spL urn colour added (i0))), .da (PyData.int (i0 : Int)), .no, .no, .no, .no, .no]) (le_rfl (by rw [(rng_get hx0).1])) ?_
      have hn2 : (i0 : Int) < draws := by omega
      have hw := sp_w h0 hn2
      refine s_seq (s_asgM (ds := ((List.replicate (((i0 : Int) + (2 : Int))).toNat [(0 : Rat)]).flatten).map eQ) (el_rep (el_lst (ds := [(0 : Rat)].map eQ) (ea_cons (ed_is (d1 := eQ (0 : Rat)) (ed_tup (ds := [PyData.int (0 : Int), PyData.int (1 : Int)]) (ea_cons ed_int (ea_cons ed_int ea_nil))) (by rfl)) ea_nil)) (fun _ _ => (ed_I0 (ed_var rfl) ed_int)) (by refine ⟨by omega, by omega, ?_⟩; simp; omega)) (fun p_further4 => s_le (ρ1 := [.da ((eT PyData.int) urn), .da (PyData.int colour), .da (PyData.int draws), .da (PyData.int added), .da ((eL eQ) (spL urn colour added (i0))), .da (PyData.int (i0 : Int)), .mu true p_further4 (.lst ((List.replicate (((i0 : Int) + (2 : Int))).toNat [(0 : Rat)]).flatten.map eQ)), .no, .no, .no, .no]) (le_rfl rfl) ?_))
      refine s_seq (s_asg (ed_I0 (ed_sumT (ed_var rfl)) (ed_I (ed_var rfl) (ed_var rfl) (by first | assumption | exact mul_l (by omega) (by omega) | exact mul_r (by omega) (by omega)))) (s_le (ρ1 := [.da ((eT PyData.int) urn), .da (PyData.int colour), .da (PyData.int draws), .da (PyData.int added), .da ((eL eQ) (spL urn colour added (i0))), .da (PyData.int (i0 : Int)), .mu true p_further4 (.lst ((List.replicate (((i0 : Int) + (2 : Int))).toNat [(0 : Rat)]).flatten.map eQ)), .da (PyData.int ((urn).sum + ((i0 : Int) * added))), .no, .no, .no]) (le_rfl rfl) ?_))
      refine s_seq (s_forX (((spL urn colour added (i0))).zipIdx) (fun p => Itm.soft [PyData.int (p.2 : Int), eQ p.1]) (ei_enumX (ed_var rfl)) (fun i1 => [.da ((eT PyData.int) urn), .da (PyData.int colour), .da (PyData.int draws), .da (PyData.int added), .da ((eL eQ) (spL urn colour added (i0))), .da (PyData.int (i0 : Int)), .mu true p_further4 (.lst ((spPart (ixG urn colour) added (urn.sum + (i0 : Int) * added) (spL urn colour added i0) (i1)).map eQ)), .da (PyData.int ((urn).sum + ((i0 : Int) * added))), .no, .no, .no]) (le_same (le_same (le_same (le_same (le_same (le_same (le_mu (congrArg MO.lst (by exact congrArg (List.map eQ) (sp_init (by rw [spQ_len]; omega)))) (le_same (le_no (le_no (le_no le_nil))))))))))) (fun T1 hT1 i1 x1 hx1 => ⟨_, [8, 9], (eg_soft (egs_cons (eg_name (by simp)) (egs_cons (eg_name (by simp)) egs_nil))), ?_⟩) ?_)
      · show Ss _ _ [.da ((eT PyData.int) urn), .da (PyData.int colour), .da (PyData.int draws), .da (PyData.int added), .da ((eL eQ) (spL urn colour added (i0))), .da (PyData.int (i0 : Int)), .mu true p_further4 (.lst ((spPart (ixG urn colour) added (urn.sum + (i0 : Int) * added) (spL urn colour added i0) (i1)).map eQ)), .da (PyData.int ((urn).sum + ((i0 : Int) * added))), .da (PyData.int ((x1).2 : Int)), .da (eQ (x1).1), .no] _ _
        have hin := sp_in h0 hn2 hx1
        refine s_seq (s_asg (ed_I0 (ed_ixTX (ed_var rfl) (ed_var rfl) (by exact inb h2)) (ed_I (ed_var rfl) (ed_var rfl) (by first | assumption | exact mul_l (by omega) (by omega) | exact mul_r (by omega) (by omega)))) (s_le (ρ1 := [.da ((eT PyData.int) urn), .da (PyData.int colour), .da (PyData.int draws), .da (PyData.int added), .da ((eL eQ) (spL urn colour added (i0))), .da (PyData.int (i0 : Int)), .mu true p_further4 (.lst ((spPart (ixG urn colour) added (urn.sum + (i0 : Int) * added) (spL urn colour added i0) (i1)).map eQ)), .da (PyData.int ((urn).sum + ((i0 : Int) * added))), .da (PyData.int ((x1).2 : Int)), .da (eQ (x1).1), .da (PyData.int ((ixG urn colour) + (((x1).2 : Int) * added)))]) (le_rfl rfl) ?_))
        refine s_seq (s_setLX (ed_call (ds := [(eQ (ixG (spPart (ixG urn colour) added (urn.sum + (i0 : Int) * added) (spL urn colour added i0) (i1)) (((x1).2 : Int) + (1 : Int)))), (eQ (((x1).1) * ((Rat.divInt (((ixG urn colour) + (((x1).2 : Int) * added))) (((urn).sum + ((i0 : Int) * added)))))))]) (ea_cons (ed_ixMX (ed_I0 (ed_var rfl) ed_int) rfl ⟨_, _, rfl⟩ (by exact inb (by rw [spPart_len, spQ_len]; have := hin.1; omega))) (ea_cons (ed_call (ds := [(eQ (x1).1), (eQ (Rat.divInt (((ixG urn colour) + (((x1).2 : Int) * added))) (((urn).sum + ((i0 : Int) * added)))))]) (ea_cons (ed_var rfl) (ea_cons (ed_call (ds := [(PyData.int ((ixG urn colour) + (((x1).2 : Int) * added))), (PyData.int ((urn).sum + ((i0 : Int) * added)))]) (ea_cons (ed_var rfl) (ea_cons (ed_var rfl) ea_nil)) ⟨((ixG urn colour) + (((x1).2 : Int) * added)), ((urn).sum + ((i0 : Int) * added)), rfl, by omega, by exact small_lt (by omega), rfl⟩) ea_nil)) ⟨(x1).1, (Rat.divInt (((ixG urn colour) + (((x1).2 : Int) * added))) (((urn).sum + ((i0 : Int) * added)))), rfl, by exact hin.2.1, by exact hin.2.2.1, rfl⟩) ea_nil)) ⟨(ixG (spPart (ixG urn colour) added (urn.sum + (i0 : Int) * added) (spL urn colour added i0) (i1)) (((x1).2 : Int) + (1 : Int))), (((x1).1) * ((Rat.divInt (((ixG urn colour) + (((x1).2 : Int) * added))) (((urn).sum + ((i0 : Int) * added)))))), rfl, by exact hin.2.2.2.2.2.2.1, by exact hin.2.2.2.2.1, rfl⟩) (ed_I0 (ed_var rfl) ed_int) ⟨_, _, rfl⟩ rfl (by rw [spPart_len, spQ_len]; have := hin.1; omega) (s_le (ρ1 := [.da ((eT PyData.int) urn), .da (PyData.int colour), .da (PyData.int draws), .da (PyData.int added), .da ((eL eQ) (spL urn colour added (i0))), .da (PyData.int (i0 : Int)), .mu true p_further4 (.lst (((spPart (ixG urn colour) added (urn.sum + (i0 : Int) * added) (spL urn colour added i0) (i1)).set ((((x1).2 : Int) + (1 : Int))).toNat (((ixG (spPart (ixG urn colour) added (urn.sum + (i0 : Int) * added) (spL urn colour added i0) (i1)) (((x1).2 : Int) + (1 : Int)))) + ((((x1).1) * ((Rat.divInt (((ixG urn colour) + (((x1).2 : Int) * added))) (((urn).sum + ((i0 : Int) * added))))))))).map eQ)), .da (PyData.int ((urn).sum + ((i0 : Int) * added))), .da (PyData.int ((x1).2 : Int)), .da (eQ (x1).1), .da (PyData.int ((ixG urn colour) + (((x1).2 : Int) * added)))]) (le_same (le_same (le_same (le_same (le_same (le_same (le_mu (congrArg MO.lst (by simp)) (le_same (le_same (le_same (le_same le_nil))))))))))) ?_))
        refine (s_setLX (ed_call (ds := [(eQ (ixG ((spPart (ixG urn colour) added (urn.sum + (i0 : Int) * added) (spL urn colour added i0) (i1)).set ((((x1).2 : Int) + (1 : Int))).toNat (((ixG (spPart (ixG urn colour) added (urn.sum + (i0 : Int) * added) (spL urn colour added i0) (i1)) (((x1).2 : Int) + (1 : Int)))) + ((((x1).1) * ((Rat.divInt (((ixG urn colour) + (((x1).2 : Int) * added))) (((urn).sum + ((i0 : Int) * added))))))))) ((x1).2 : Int))), (eQ (((x1).1) * ((Rat.divInt ((((urn).sum + ((i0 : Int) * added)) - ((ixG urn colour) + (((x1).2 : Int) * added)))) (((urn).sum + ((i0 : Int) * added)))))))]) (ea_cons (ed_ixMX (ed_var rfl) rfl ⟨_, _, rfl⟩ (by exact inb (by rw [List.length_set, spPart_len, spQ_len]; have := hin.1; omega))) (ea_cons (ed_call (ds := [(eQ (x1).1), (eQ (Rat.divInt ((((urn).sum + ((i0 : Int) * added)) - ((ixG urn colour) + (((x1).2 : Int) * added)))) (((urn).sum + ((i0 : Int) * added)))))]) (ea_cons (ed_var rfl) (ea_cons (ed_call (ds := [(PyData.int (((urn).sum + ((i0 : Int) * added)) - ((ixG urn colour) + (((x1).2 : Int) * added)))), (PyData.int ((urn).sum + ((i0 : Int) * added)))]) (ea_cons (ed_I0 (ed_var rfl) (ed_var rfl)) (ea_cons (ed_var rfl) ea_nil)) ⟨(((urn).sum + ((i0 : Int) * added)) - ((ixG urn colour) + (((x1).2 : Int) * added))), ((urn).sum + ((i0 : Int) * added)), rfl, by omega, by exact small_lt (by omega), rfl⟩) ea_nil)) ⟨(x1).1, (Rat.divInt ((((urn).sum + ((i0 : Int) * added)) - ((ixG urn colour) + (((x1).2 : Int) * added)))) (((urn).sum + ((i0 : Int) * added)))), rfl, by exact hin.2.1, by exact hin.2.2.2.1, rfl⟩) ea_nil)) ⟨(ixG ((spPart (ixG urn colour) added (urn.sum + (i0 : Int) * added) (spL urn colour added i0) (i1)).set ((((x1).2 : Int) + (1 : Int))).toNat (((ixG (spPart (ixG urn colour) added (urn.sum + (i0 : Int) * added) (spL urn colour added i0) (i1)) (((x1).2 : Int) + (1 : Int)))) + ((((x1).1) * ((Rat.divInt (((ixG urn colour) + (((x1).2 : Int) * added))) (((urn).sum + ((i0 : Int) * added))))))))) ((x1).2 : Int)), (((x1).1) * ((Rat.divInt ((((urn).sum + ((i0 : Int) * added)) - ((ixG urn colour) + (((x1).2 : Int) * added)))) (((urn).sum + ((i0 : Int) * added)))))), rfl, by exact hin.2.2.2.2.2.2.2 _, by exact hin.2.2.2.2.2.1, rfl⟩) (ed_var rfl) ⟨_, _, rfl⟩ rfl (by rw [List.length_set, spPart_len, spQ_len]; have := hin.1; omega) (s_le (ρ1 := [.da ((eT PyData.int) urn), .da (PyData.int colour), .da (PyData.int draws), .da (PyData.int added), .da ((eL eQ) (spL urn colour added (i0))), .da (PyData.int (i0 : Int)), .mu true p_further4 (.lst ((((spPart (ixG urn colour) added (urn.sum + (i0 : Int) * added) (spL urn colour added i0) (i1)).set ((((x1).2 : Int) + (1 : Int))).toNat (((ixG (spPart (ixG urn colour) added (urn.sum + (i0 : Int) * added) (spL urn colour added i0) (i1)) (((x1).2 : Int) + (1 : Int)))) + ((((x1).1) * ((Rat.divInt (((ixG urn colour) + (((x1).2 : Int) * added))) (((urn).sum + ((i0 : Int) * added))))))))).set (((x1).2 : Int)).toNat (((ixG ((spPart (ixG urn colour) added (urn.sum + (i0 : Int) * added) (spL urn colour added i0) (i1)).set ((((x1).2 : Int) + (1 : Int))).toNat (((ixG (spPart (ixG urn colour) added (urn.sum + (i0 : Int) * added) (spL urn colour added i0) (i1)) (((x1).2 : Int) + (1 : Int)))) + ((((x1).1) * ((Rat.divInt (((ixG urn colour) + (((x1).2 : Int) * added))) (((urn).sum + ((i0 : Int) * added))))))))) ((x1).2 : Int))) + ((((x1).1) * ((Rat.divInt ((((urn).sum + ((i0 : Int) * added)) - ((ixG urn colour) + (((x1).2 : Int) * added)))) (((urn).sum + ((i0 : Int) * added))))))))).map eQ)), .da (PyData.int ((urn).sum + ((i0 : Int) * added))), .da (PyData.int ((x1).2 : Int)), .da (eQ (x1).1), .da (PyData.int ((ixG urn colour) + (((x1).2 : Int) * added)))]) (le_same (le_same (le_same (le_same (le_same (le_same (le_mu (congrArg MO.lst (by simp)) (le_same (le_same (le_same (le_same le_nil))))))))))) ?_))
        exact s_end (le_same (le_same (le_same (le_same (le_same (le_same (le_mu (congrArg MO.lst (by exact congrArg (List.map eQ) (sp_step hx1))) (le_same (le_no (le_no (le_no le_nil)))))))))))
      refine s_le (ρ1 := [.da ((eT PyData.int) urn), .da (PyData.int colour), .da (PyData.int draws), .da (PyData.int added), .da ((eL eQ) (spL urn colour added (i0))), .da (PyData.int (i0 : Int)), .da ((eL eQ) (spPart (ixG urn colour) added (urn.sum + (i0 : Int) * added) (spL urn colour added i0) ((((spL urn colour added (i0))).zipIdx).length))), .da (PyData.int ((urn).sum + ((i0 : Int) * added))), .no, .no, .no]) (le_same (le_same (le_same (le_same (le_same (le_same (le_frz (le_same (le_no (le_no (le_no le_nil))))))))))) ?_
      refine (s_asg (ed_var rfl) (s_le (ρ1 := [.da ((eT PyData.int) urn), .da (PyData.int colour), .da (PyData.int draws), .da (PyData.int added), .da ((eL eQ) (spPart (ixG urn colour) added (urn.sum + (i0 : Int) * added) (spL urn colour added i0) ((((spL urn colour added (i0))).zipIdx).length))), .da (PyData.int (i0 : Int)), .da ((eL eQ) (spPart (ixG urn colour) added (urn.sum + (i0 : Int) * added) (spL urn colour added i0) ((((spL urn colour added (i0))).zipIdx).length))), .da (PyData.int ((urn).sum + ((i0 : Int) * added))), .no, .no, .no]) (le_rfl rfl) ?_))
      exact s_end (le_same (le_same (le_same (le_same (le_da (by rw [List.length_zipIdx]; rfl) (le_no (le_no (le_no (le_no (le_no (le_no le_nil)))))))))))
    exact s_ret (ed_is (ed_tupleL (ed_var rfl)) (by rw [List.length_range] : ((eT eQ) (spL urn colour added (((List.range (draws).toNat)).length))) = ((eT eQ) (spL urn colour added draws.toNat)))) hR

/-! ### _law_same -/
abbrev s_law_same : Stmt := topS 32
abbrev N_law_same : List Str := ["actual", "due"]
theorem sc_law_same : FnScope N_law_same ["actual", "due"] (defScope s_law_same) := ⟨rfl, rfl, rfl, by decide +kernel, rfl, by decide +kernel, by decide +kernel⟩
def R_law_same : List PyData → PyData → Prop := fun ds d => ∃ (actual : PyData) (due : PyData), ds = [actual, due] ∧ (actual = due) ∧ (Gd 20 15000000 actual) ∧ d = (PyData.bool (true))
set_option maxHeartbeats 4000000 in
theorem ok_law_same {P : Program} {w : World} {K : PySem.W.Frag} {mg : Str → Option Value} {base : Heap} (B : Gb mg) (F : Fd K mg "_law_same" s_law_same) : Cl P w K mg base 1 "_law_same" ["actual", "due"] (SpP K R_law_same) := by
  obtain ⟨f, fd, F, hm⟩ := F.ex
  refine ⟨f, fd, fnG_of (k := 0) F sc_law_same (spP_len fun ds d h => ?_) (fun cdv A outer s H hr hgd => ⟨_, (pss_one (ps_ret (pe_and (pe_cmpR (r := rEqD K) (op_eqD hr.units) (pv 0) (pv 1) (nomark _)) (pe_one (pe_cmpR op_eq (pe_callB (r := rRepr K) (call_repr hgd (Nat.lt_of_le_of_lt (Nat.add_le_add_left (by decide : 61 ≤ 64) _) hr.units)) (by rfl) B.repr_ (by decide +kernel) (pa_cons (pv 0) pa_nil)) (pe_callB (r := rRepr K) (call_repr hgd (Nat.lt_of_le_of_lt (Nat.add_le_add_left (by decide : 61 ≤ 64) _) hr.units)) (by rfl) B.repr_ (by decide +kernel) (pa_cons (pv 1) pa_nil)) (nomark _)))))), fun vs Q => fn_pure (N := N_law_same) (fun ds d h => ?_) (fun B S ds d h D hR hN => ?_) vs H Q E0⟩), hm, F.kp, F.binds fun _ _ _ _ _ _ us hl => match us, hl with | [_, _], _ => rfl⟩
  · obtain ⟨actual, due, rfl, h0, h1, rfl⟩ := h; rfl
  · obtain ⟨actual, due, rfl, h0, h1, rfl⟩ := h; simp
  · obtain ⟨actual, due, rfl, h0, h1, rfl⟩ := h
    show Ss _ _ [.da actual, .da due] _ _
    exact s_ret (ed_is (ed_and (ed_eq (ed_var rfl) (ed_var rfl) (by exact gd_shaped h1) (by exact gd_shaped (h0 ▸ h1))) (fun hb1 => (ed_eqS (ed_repr (ed_var rfl) (by exact gd_show h1)) (ed_repr (ed_var rfl) (by exact gd_show (h0 ▸ h1)))))) (by exact same_ret h0 h1 : (PyData.bool ((PyData.eqv actual due) && (decide ((PyData.shown actual) = (PyData.shown due))))) = (PyData.bool (true)))) hR

/-! ### _law_q -/
abbrev s_law_q : Stmt := topS 33
abbrev N_law_q : List Str := ["up", "down", "one", "other"]
theorem sc_law_q : FnScope N_law_q ["up", "down"] (defScope s_law_q) := ⟨rfl, rfl, rfl, by decide +kernel, rfl, by decide +kernel, by decide +kernel⟩
def R_law_q : List PyData → PyData → Prop := fun ds d => ∃ (up : Int) (down : Int), ds = [(PyData.int up), (PyData.int down)] ∧ (down ≠ 0) ∧ (down.natAbs < 2 ^ 8999) ∧ d = (eQ (Rat.divInt up down))
set_option maxHeartbeats 4000000 in
theorem ok_law_q {P : Program} {w : World} {K : PySem.W.Frag} {mg : Str → Option Value} {base : Heap} (B : Gb mg) (F : Fd K mg "_law_q" s_law_q) : Cl P w K mg base 1 "_law_q" ["up", "down"] (SpP K R_law_q) := by
  obtain ⟨f, fd, F, hm⟩ := F.ex
  refine ⟨f, fd, fnG_of (k := 0) F sc_law_q (spP_len fun ds d h => ?_) (fun cdv A outer s H hr hgd => ⟨_, (pss_cons (ps_par (i := 2) (j := 3) rfl sc_law_q.nd rfl rfl (by decide) rfl rfl (pa_cons (pe_callB call_abs (by rfl) B.abs_ PyProof.Rows.boot_abs (pa_cons (pv 0) pa_nil)) (pa_cons (pe_callB call_abs (by rfl) B.abs_ PyProof.Rows.boot_abs (pa_cons (pv 1) pa_nil)) pa_nil)) rfl rfl) (pss_cons (ps_while PassesOwn.never (pt_cmpR op_gt (pv 3) pe_int (nomark _)) (pss_one (ps_par (i := 2) (j := 3) rfl sc_law_q.nd rfl rfl (by decide) rfl rfl (pa_cons (pv 3) (pa_cons (pe_op op_mod (pe_callTy call_int1 (by rfl) B.int_ PyProof.Rows.boot_int (pa_cons (pv 2) pa_nil)) (pe_callTy call_int1 (by rfl) B.int_ PyProof.Rows.boot_int (pa_cons (pv 3) pa_nil))) pa_nil)) rfl rfl))) (pss_one (ps_ret (pe_ifExp (pt_cmpR op_gt (pv 1) pe_int (nomark _)) (pe_tupF (pa_cons (pe_op op_fdivG (pv 0) (pv 2)) (pa_cons (pe_op op_fdivG (pv 1) (pv 2)) pa_nil))) (pe_tupF (pa_cons (pe_op op_fdivG (pe_op op_sub pe_int (pv 0)) (pv 2)) (pa_cons (pe_op op_fdivG (pe_op op_sub pe_int (pv 1)) (pv 2)) pa_nil)))))))), fun vs Q => fn_pure (N := N_law_q) (fun ds d h => ?_) (fun B S ds d h D hR hN => ?_) vs H Q E0⟩), hm, F.kp, F.binds fun _ _ _ _ _ _ us hl => match us, hl with | [_, _], _ => rfl⟩
  · obtain ⟨up, down, rfl, h0, h1, rfl⟩ := h; rfl
  · obtain ⟨up, down, rfl, h0, h1, rfl⟩ := h; simp
  · obtain ⟨up, down, rfl, h0, h1, rfl⟩ := h
    show Ss _ _ [.da (PyData.int up), .da (PyData.int down), .no, .no] _ _
    refine s_seq (s_par (ea_cons (ed_abs (ed_var rfl)) (ea_cons (ed_abs (ed_var rfl)) ea_nil)) (s_le (ρ1 := [.da (PyData.int up), .da (PyData.int down), .da (PyData.int ((up).natAbs : Int)), .da (PyData.int ((down).natAbs : Int))]) (le_rfl rfl) ?_))
    refine s_seq (s_while (α := Nat × Nat) (fun a => [.da (PyData.int up), .da (PyData.int down), .da (PyData.int (a.1 : Int)), .da (PyData.int (a.2 : Int))]) (fun a => Nat.gcd a.1 a.2 = Nat.gcd up.natAbs down.natAbs) (fun a => a.2) ((up.natAbs, down.natAbs)) (by rfl) (le_same (le_same (le_da (by rfl) (le_da (by rfl) le_nil)))) (fun a hP => ⟨_, _, (et_test (ed_B0 (ed_var rfl) ed_int)), fun hb => ?_, fun hb => ?_⟩))
    · refine (s_par (ea_cons (ed_var rfl) (ea_cons (ed_I (ed_intI (ed_var rfl)) (ed_intI (ed_var rfl)) (by have := of_decide_eq_true hb; omega)) ea_nil)) (s_le (ρ1 := [.da (PyData.int up), .da (PyData.int down), .da (PyData.int (a.2 : Int)), .da (PyData.int ((a.1 : Int) % (a.2 : Int)))]) (le_rfl rfl) ?_))
      exact s_endW ((a.2, a.1 % a.2)) (by exact (gcd_turn a.1 a.2).trans hP) (by have := of_decide_eq_true hb; exact Nat.mod_lt _ (by omega)) (le_same (le_same (le_da (by rfl) (le_da (by rfl) le_nil))))
    · exact s_ret (ed_is (ed_ite (e := eQ) (et_test (ed_B0 (ed_var rfl) ed_int)) (fun hb1 => (ed_is (ed_tup (ds := [(PyData.int (up / (a.1 : Int))), (PyData.int (down / (a.1 : Int)))]) (ea_cons (ed_I (ed_var rfl) (ed_var rfl) (by exact lawq_div h0 h1 hP hb)) (ea_cons (ed_I (ed_var rfl) (ed_var rfl) (by exact lawq_div h0 h1 hP hb)) ea_nil))) (by exact lawq_pos hP hb (by assumption) : _ = (eQ (Rat.divInt up down))))) (fun hb1 => (ed_is (ed_tup (ds := [(PyData.int (((0 : Int) - up) / (a.1 : Int))), (PyData.int (((0 : Int) - down) / (a.1 : Int)))]) (ea_cons (ed_I (ed_I0 ed_int (ed_var rfl)) (ed_var rfl) (by exact lawq_div h0 h1 hP hb)) (ea_cons (ed_I (ed_I0 ed_int (ed_var rfl)) (ed_var rfl) (by exact lawq_div h0 h1 hP hb)) ea_nil))) (by exact lawq_neg hP hb h0 (by assumption) : _ = (eQ (Rat.divInt up down)))))) (by rw [ite_self] : (eQ (if (decide ((0 : Int) < down)) = true then (Rat.divInt up down) else (Rat.divInt up down))) = (eQ (Rat.divInt up down)))) hR

/-! ### _law_add -/
abbrev s_law_add : Stmt := topS 34
abbrev N_law_add : List Str := ["one", "other"]
theorem sc_law_add : FnScope N_law_add ["one", "other"] (defScope s_law_add) := ⟨rfl, rfl, rfl, by decide +kernel, rfl, by decide +kernel, by decide +kernel⟩
def R_law_add : List PyData → PyData → Prop := fun ds d => ∃ (one : (Int × Int)) (other : (Int × Int)), ds = [((eP PyData.int PyData.int) one), ((eP PyData.int PyData.int) other)] ∧ (Pb one) ∧ (Pb other) ∧ d = (eQ (qv one + qv other))
set_option maxHeartbeats 4000000 in
theorem ok_law_add {P : Program} {w : World} {K : PySem.W.Frag} {mg : Str → Option Value} {base : Heap} (B : Gb mg) (F : Fd K mg "_law_add" s_law_add) (C_law_q : Cl P w K mg base 1 "_law_q" ["up", "down"] (SpP K R_law_q)) : Cl P w K mg base 2 "_law_add" ["one", "other"] (SpP K R_law_add) := by
  obtain ⟨f, fd, F, hm⟩ := F.ex
  refine ⟨f, fd, fnG_of (k := 1) F sc_law_add (spP_len fun ds d h => ?_) (fun cdv A outer s H hr hgd => ⟨_, (pss_one (ps_ret (pe_cl C_law_q (hr.mono (by decide)) hgd (by rfl) (pa_cons (pe_op op_add (pe_op op_mulG (pe_ix (r := rIxT K) ix_tup (pv 0) pe_int (fun _ _ => rfl)) (pe_ix (r := rIxT K) ix_tup (pv 1) pe_int (fun _ _ => rfl))) (pe_op op_mulG (pe_ix (r := rIxT K) ix_tup (pv 1) pe_int (fun _ _ => rfl)) (pe_ix (r := rIxT K) ix_tup (pv 0) pe_int (fun _ _ => rfl)))) (pa_cons (pe_op op_mulG (pe_ix (r := rIxT K) ix_tup (pv 0) pe_int (fun _ _ => rfl)) (pe_ix (r := rIxT K) ix_tup (pv 1) pe_int (fun _ _ => rfl))) pa_nil))))), fun vs Q => fn_pure (N := N_law_add) (fun ds d h => ?_) (fun B S ds d h D hR hN => ?_) vs H Q E0⟩), hm, F.kp, F.binds fun _ _ _ _ _ _ us hl => match us, hl with | [_, _], _ => rfl⟩
  · obtain ⟨one, other, rfl, h0, h1, rfl⟩ := h; rfl
  · obtain ⟨one, other, rfl, h0, h1, rfl⟩ := h; simp
  · obtain ⟨one, other, rfl, h0, h1, rfl⟩ := h
    show Ss _ _ [.da ((eP PyData.int PyData.int) one), .da ((eP PyData.int PyData.int) other)] _ _
    exact s_ret (ed_is (ed_call (ds := [(PyData.int (((one).1 * (other).2) + ((other).1 * (one).2))), (PyData.int ((one).2 * (other).2))]) (ea_cons (ed_I0 (ed_I (ed_ixT (ed_var rfl) ed_int rfl) (ed_ixT (ed_var rfl) ed_int rfl) (by first | exact mul_b h0.1 h1.2.2 | exact mul_b h1.1 h0.2.2 | exact mul_b h0.2.2 h1.2.2)) (ed_I (ed_ixT (ed_var rfl) ed_int rfl) (ed_ixT (ed_var rfl) ed_int rfl) (by first | exact mul_b h0.1 h1.2.2 | exact mul_b h1.1 h0.2.2 | exact mul_b h0.2.2 h1.2.2))) (ea_cons (ed_I (ed_ixT (ed_var rfl) ed_int rfl) (ed_ixT (ed_var rfl) ed_int rfl) (by first | exact mul_b h0.1 h1.2.2 | exact mul_b h1.1 h0.2.2 | exact mul_b h0.2.2 h1.2.2)) ea_nil)) ⟨(((one).1 * (other).2) + ((other).1 * (one).2)), ((one).2 * (other).2), rfl, by exact Int.mul_ne_zero h0.2.1 h1.2.1, by exact pb_den h0 h1, rfl⟩) (by exact congrArg eQ (pb_add h0 h1).symm : (eQ (Rat.divInt ((((one).1 * (other).2) + ((other).1 * (one).2))) (((one).2 * (other).2)))) = (eQ (qv one + qv other)))) hR

/-! ### _law_mul -/
abbrev s_law_mul : Stmt := topS 35
abbrev N_law_mul : List Str := ["one", "other"]
theorem sc_law_mul : FnScope N_law_mul ["one", "other"] (defScope s_law_mul) := ⟨rfl, rfl, rfl, by decide +kernel, rfl, by decide +kernel, by decide +kernel⟩
def R_law_mul : List PyData → PyData → Prop := fun ds d => ∃ (one : (Int × Int)) (other : (Int × Int)), ds = [((eP PyData.int PyData.int) one), ((eP PyData.int PyData.int) other)] ∧ (Pb one) ∧ (Pb other) ∧ d = (eQ (qv one * qv other))
set_option maxHeartbeats 4000000 in
theorem ok_law_mul {P : Program} {w : World} {K : PySem.W.Frag} {mg : Str → Option Value} {base : Heap} (B : Gb mg) (F : Fd K mg "_law_mul" s_law_mul) (C_law_q : Cl P w K mg base 1 "_law_q" ["up", "down"] (SpP K R_law_q)) : Cl P w K mg base 2 "_law_mul" ["one", "other"] (SpP K R_law_mul) := by
  obtain ⟨f, fd, F, hm⟩ := F.ex
  refine ⟨f, fd, fnG_of (k := 1) F sc_law_mul (spP_len fun ds d h => ?_) (fun cdv A outer s H hr hgd => ⟨_, (pss_one (ps_ret (pe_cl C_law_q (hr.mono (by decide)) hgd (by rfl) (pa_cons (pe_op op_mulG (pe_ix (r := rIxT K) ix_tup (pv 0) pe_int (fun _ _ => rfl)) (pe_ix (r := rIxT K) ix_tup (pv 1) pe_int (fun _ _ => rfl))) (pa_cons (pe_op op_mulG (pe_ix (r := rIxT K) ix_tup (pv 0) pe_int (fun _ _ => rfl)) (pe_ix (r := rIxT K) ix_tup (pv 1) pe_int (fun _ _ => rfl))) pa_nil))))), fun vs Q => fn_pure (N := N_law_mul) (fun ds d h => ?_) (fun B S ds d h D hR hN => ?_) vs H Q E0⟩), hm, F.kp, F.binds fun _ _ _ _ _ _ us hl => match us, hl with | [_, _], _ => rfl⟩
  · obtain ⟨one, other, rfl, h0, h1, rfl⟩ := h; rfl
  · obtain ⟨one, other, rfl, h0, h1, rfl⟩ := h; simp
  · obtain ⟨one, other, rfl, h0, h1, rfl⟩ := h
    show Ss _ _ [.da ((eP PyData.int PyData.int) one), .da ((eP PyData.int PyData.int) other)] _ _
    exact s_ret (ed_is (ed_call (ds := [(PyData.int ((one).1 * (other).1)), (PyData.int ((one).2 * (other).2))]) (ea_cons (ed_I (ed_ixT (ed_var rfl) ed_int rfl) (ed_ixT (ed_var rfl) ed_int rfl) (by first | exact mul_b h0.1 h1.1 | exact mul_b h0.2.2 h1.2.2)) (ea_cons (ed_I (ed_ixT (ed_var rfl) ed_int rfl) (ed_ixT (ed_var rfl) ed_int rfl) (by first | exact mul_b h0.1 h1.1 | exact mul_b h0.2.2 h1.2.2)) ea_nil)) ⟨((one).1 * (other).1), ((one).2 * (other).2), rfl, by exact Int.mul_ne_zero h0.2.1 h1.2.1, by exact pb_den h0 h1, rfl⟩) (by exact congrArg eQ (pb_mul _ _).symm : (eQ (Rat.divInt (((one).1 * (other).1)) (((one).2 * (other).2)))) = (eQ (qv one * qv other)))) hR

/-! ### _law_sum -/
abbrev s_law_sum : Stmt := topS 36
abbrev N_law_sum : List Str := ["rows", "total", "row"]
theorem sc_law_sum : FnScope N_law_sum ["rows"] (defScope s_law_sum) := ⟨rfl, rfl, rfl, by decide +kernel, rfl, by decide +kernel, by decide +kernel⟩
def R_law_sum : List PyData → PyData → Prop := fun ds d => ∃ (rows : (Bool × List Rat)), ds = [((eS eQ) rows)] ∧ (∃ M D, (∀ r ∈ rows.2, Bd M D r) ∧ (rows.2.length + 1) * M < 2 ^ 4400 ∧ 0 < D ∧ D < 2 ^ 4400) ∧ d = (eQ (rows.2.sum))
set_option maxHeartbeats 4000000 in
theorem ok_law_sum {P : Program} {w : World} {K : PySem.W.Frag} {mg : Str → Option Value} {base : Heap} (B : Gb mg) (F : Fd K mg "_law_sum" s_law_sum) (C_law_add : Cl P w K mg base 2 "_law_add" ["one", "other"] (SpP K R_law_add)) : Cl P w K mg base 3 "_law_sum" ["rows"] (SpP K R_law_sum) := by
  obtain ⟨f, fd, F, hm⟩ := F.ex
  refine ⟨f, fd, fnG_of (k := 2) F sc_law_sum (spP_len fun ds d h => ?_) (fun cdv A outer s H hr hgd => ⟨_, (pss_cons (ps_set (i := 1) sc_law_sum.nd rfl (Or.inl rfl) (pe_tupF (pa_cons pe_int (pa_cons pe_int pa_nil)))) (pss_cons (ps_for PassesOwn.never rfl (pi_seq (pv 0)) (pg_name (i := 2) sc_law_sum.nd rfl (Or.inl rfl)) (pss_one (ps_set (i := 1) sc_law_sum.nd rfl (Or.inl rfl) (pe_cl C_law_add (hr.mono (by decide)) hgd (by rfl) (pa_cons (pv 1) (pa_cons (pv 2) pa_nil)))))) (pss_one (ps_ret (pv 1))))), fun vs Q => fn_pure (N := N_law_sum) (fun ds d h => ?_) (fun B S ds d h D hR hN => ?_) vs H Q E0⟩), hm, F.kp, F.binds fun _ _ _ _ _ _ us hl => match us, hl with | [_], _ => rfl⟩
  · obtain ⟨rows, rfl, h0, rfl⟩ := h; rfl
  · obtain ⟨rows, rfl, h0, rfl⟩ := h; simp
  · obtain ⟨rows, rfl, h0, rfl⟩ := h
    show Ss _ _ [.da ((eS eQ) rows), .no, .no] _ _
    refine s_seq (s_asg (ed_is (d1 := eQ (0 : Rat)) (ed_tup (ds := [PyData.int (0 : Int), PyData.int (1 : Int)]) (ea_cons ed_int (ea_cons ed_int ea_nil))) (by rfl)) (s_le (ρ1 := [.da ((eS eQ) rows), .da (eQ (0 : Rat)), .no]) (le_rfl rfl) ?_))
    refine s_seq (s_forX ((rows).2) (fun x => Itm.hard (eQ x)) (ei_seqX (ed_var rfl)) (fun i0 => [.da ((eS eQ) rows), .da (eQ (((rows).2.take (i0)).sum)), .no]) (le_same (le_da (by rfl) (le_no le_nil))) (fun T0 hT0 i0 x0 hx0 => ⟨_, [2], (eg_name (by simp)), ?_⟩) ?_)
    · show Ss _ _ [.da ((eS eQ) rows), .da (eQ (((rows).2.take (i0)).sum)), .da (eQ x0)] _ _
      refine (s_asg (ed_is (ed_call (ds := [((eP PyData.int PyData.int) (qp (((rows).2.take (i0)).sum))), ((eP PyData.int PyData.int) (qp x0))]) (ea_cons (ed_is (ed_var rfl) (rfl : _ = ((eP PyData.int PyData.int) (qp (((rows).2.take (i0)).sum))))) (ea_cons (ed_is (ed_var rfl) (rfl : _ = ((eP PyData.int PyData.int) (qp x0)))) ea_nil)) ⟨(qp (((rows).2.take (i0)).sum)), (qp x0), rfl, by exact (sum_qb h0 i0 hx0).1.pb, by exact (sum_qb h0 i0 hx0).2.pb, rfl⟩) (by simp only [qv_qp] : _ = (eQ ((((rows).2.take (i0)).sum) + x0)))) (s_le (ρ1 := [.da ((eS eQ) rows), .da (eQ ((((rows).2.take (i0)).sum) + x0)), .da (eQ x0)]) (le_rfl rfl) ?_))
      exact s_end (le_same (le_da (by rw [sumQ_step hx0]) (le_no le_nil)))
    exact s_ret (ed_is (ed_var rfl) (by rw [List.take_length] : (eQ (((rows).2.take (((rows).2).length)).sum)) = (eQ (rows.2.sum)))) hR

/-! ### _law_choose -/
abbrev s_law_choose : Stmt := topS 37
abbrev N_law_choose : List Str := ["many", "few", "found", "k"]
theorem sc_law_choose : FnScope N_law_choose ["many", "few"] (defScope s_law_choose) := ⟨rfl, rfl, rfl, by decide +kernel, rfl, by decide +kernel, by decide +kernel⟩
def R_law_choose : List PyData → PyData → Prop := fun ds d => ∃ (many : Int) (few : Int), ds = [(PyData.int many), (PyData.int few)] ∧ (0 ≤ many ∧ many ≤ 4000) ∧ (few ≤ 4000 ∧ -4000 ≤ few) ∧ d = (PyData.int (chI many few))
set_option maxHeartbeats 4000000 in
theorem ok_law_choose {P : Program} {w : World} {K : PySem.W.Frag} {mg : Str → Option Value} {base : Heap} (B : Gb mg) (F : Fd K mg "_law_choose" s_law_choose) : Cl P w K mg base 1 "_law_choose" ["many", "few"] (SpP K R_law_choose) := by
  obtain ⟨f, fd, F, hm⟩ := F.ex
  refine ⟨f, fd, fnG_of (k := 0) F sc_law_choose (spP_len fun ds d h => ?_) (fun cdv A outer s H hr hgd => ⟨_, (pss_cons (ps_set (i := 2) sc_law_choose.nd rfl (Or.inl rfl) pe_int) (pss_cons (ps_for PassesOwn.never rfl (pi_range1 (by rfl) B.range_ (pa_cons (pv 1) pa_nil)) (pg_name (i := 3) sc_law_choose.nd rfl (Or.inl rfl)) (pss_one (ps_set (i := 2) sc_law_choose.nd rfl (Or.inl rfl) (pe_op op_fdivG (pe_op op_mulG (pv 2) (pe_op op_sub (pv 0) (pv 3))) (pe_op op_add (pv 3) pe_int))))) (pss_one (ps_ret (pe_ifExp (pt_chain op_le op_le pe_int (pv 1) (pv 0)) (pv 2) pe_int))))), fun vs Q => fn_pure (N := N_law_choose) (fun ds d h => ?_) (fun B S ds d h D hR hN => ?_) vs H Q E0⟩), hm, F.kp, F.binds fun _ _ _ _ _ _ us hl => match us, hl with | [_, _], _ => rfl⟩
  · obtain ⟨many, few, rfl, h0, h1, rfl⟩ := h; rfl
  · obtain ⟨many, few, rfl, h0, h1, rfl⟩ := h; simp
  · obtain ⟨many, few, rfl, h0, h1, rfl⟩ := h
    show Ss _ _ [.da (PyData.int many), .da (PyData.int few), .no, .no] _ _
    refine s_seq (s_asg ed_int (s_le (ρ1 := [.da (PyData.int many), .da (PyData.int few), .da (PyData.int (1 : Int)), .no]) (le_rfl rfl) ?_))
    refine s_seq (s_forX ((List.range (few).toNat)) (fun (i : Nat) => Itm.hard (PyData.int (i : Int))) (ei_rng (ed_var rfl) (by omega)) (fun i0 => [.da (PyData.int many), .da (PyData.int few), .da (PyData.int ((bin many.toNat (i0) : Nat) : Int)), .no]) (le_same (le_same (le_da (by rw [bin_zero]; rfl) (le_no le_nil)))) (fun T0 hT0 i0 x0 hx0 => ⟨_, [3], (eg_name (by simp)), ?_⟩) ?_)
    · show Ss _ _ [.da (PyData.int many), .da (PyData.int few), .da (PyData.int ((bin many.toNat (i0) : Nat) : Int)), .da (PyData.int (x0 : Int))] _ _
      have hlt0 := (rng_get hx0).2
      refine s_le (ρ1 := [.da (PyData.int many), .da (PyData.int few), .da (PyData.int ((bin many.toNat (i0) : Nat) : Int)), .da (PyData.int (i0 : Int))]) (le_rfl (by rw [(rng_get hx0).1])) ?_
      refine (s_asg (ed_I (ed_I (ed_var rfl) (ed_I0 (ed_var rfl) (ed_var rfl)) (by first | assumption | exact mul_l (by omega) (by omega) | exact mul_r (by omega) (by omega))) (ed_I0 (ed_var rfl) ed_int) (by exact div_small (by omega) (by omega))) (s_le (ρ1 := [.da (PyData.int many), .da (PyData.int few), .da (PyData.int ((((bin many.toNat (i0) : Nat) : Int) * (many - (i0 : Int))) / ((i0 : Int) + (1 : Int)))), .da (PyData.int (i0 : Int))]) (le_rfl rfl) ?_))
      exact s_end (le_same (le_same (le_da (by exact congrArg PyData.int (bin_stepJ h0.1)) (le_no le_nil))))
    exact s_ret (ed_is (ed_ite (e := PyData.int) (et_chain (ed_chain ed_int (ed_var rfl) (fun hb1 => (ed_var rfl)))) (fun hb2 => (ed_var rfl)) (fun hb2 => ed_int)) (by exact lawch_ret h0.1 : (PyData.int (if (decide ((0 : Int) ≤ few) && decide (few ≤ many)) = true then ((bin many.toNat (((List.range (few).toNat)).length) : Nat) : Int) else (0 : Int))) = (PyData.int (chI many few)))) hR

/-! ### _law_row_chance -/
abbrev s_law_row_chance : Stmt := topS 39
abbrev N_law_row_chance : List Str := ["urn", "draws", "added", "left", "found", "colour"]
theorem sc_law_row_chance : FnScope N_law_row_chance ["urn", "draws", "added"] (defScope s_law_row_chance) := ⟨rfl, rfl, rfl, by decide +kernel, rfl, by decide +kernel, by decide +kernel⟩
def R_law_row_chance : List PyData → PyData → Prop := fun ds d => ∃ (urn : (List Int)) (draws : (List Int)) (added : Int), ds = [((eT PyData.int) urn), ((eT PyData.int) draws), (PyData.int added)] ∧ (UrnOk urn) ∧ (DrwOk urn draws) ∧ (-1 ≤ added ∧ added ≤ 60) ∧ d = (eQ (rowCh urn draws added))
set_option maxHeartbeats 4000000 in
theorem ok_law_row_chance {P : Program} {w : World} {K : PySem.W.Frag} {mg : Str → Option Value} {base : Heap} (B : Gb mg) (F : Fd K mg "_law_row_chance" s_law_row_chance) (C_law_mul : Cl P w K mg base 2 "_law_mul" ["one", "other"] (SpP K R_law_mul)) : Cl P w K mg base 3 "_law_row_chance" ["urn", "draws", "added"] (SpP K R_law_row_chance) := by
  obtain ⟨f, fd, F, hm⟩ := F.ex
  refine ⟨f, fd, fnG_of (k := 2) F sc_law_row_chance (spP_len fun ds d h => ?_) (fun cdv A outer s H hr hgd => ⟨_, (pss_cons (ps_par (i := 3) (j := 4) rfl sc_law_row_chance.nd rfl rfl (by decide) rfl rfl (pa_cons (pe_callTy call_list_of (by rfl) B.list_ PyProof.Rows.boot_list (pa_cons (pv 0) pa_nil)) (pa_cons (pe_tupF (pa_cons pe_int (pa_cons pe_int pa_nil))) pa_nil)) rfl rfl) (pss_cons (ps_for PassesOwn.never rfl (pi_tup (pv 1)) (pg_name (i := 5) sc_law_row_chance.nd rfl (Or.inl rfl)) (pss_cons (ps_if (pt_cmpR op_le (pe_ix (r := rIxL K) ix_list (pv 3) (pv 5) (fun _ _ => rfl)) pe_int (nomark _)) (pss_one (ps_ret (pe_tupF (pa_cons pe_int (pa_cons pe_int pa_nil))))) pss_nil) (pss_cons (ps_set (i := 4) sc_law_row_chance.nd rfl (Or.inl rfl) (pe_cl C_law_mul (hr.mono (by decide)) hgd (by rfl) (pa_cons (pv 4) (pa_cons (pe_tupF (pa_cons (pe_ix (r := rIxL K) ix_list (pv 3) (pv 5) (fun _ _ => rfl)) (pa_cons (pe_callB (r := rSumT K) (cr_sumT rfl) (by rfl) B.sum_ (by decide +kernel) (pa_cons (pv 3) pa_nil)) pa_nil))) pa_nil)))) (pss_one (ps_asg (pe_op op_add (pe_ix (r := rIxL K) ix_list (pv 3) (pv 5) (fun _ _ => rfl)) (pv 2)) (pg_sub (pv 3) (pv 5) set_list (fun _ => rfl)) rfl))))) (pss_one (ps_ret (pv 4))))), fun vs Q => fn_pure (N := N_law_row_chance) (fun ds d h => ?_) (fun B S ds d h D hR hN => ?_) vs H Q E0⟩), hm, F.kp, F.binds fun _ _ _ _ _ _ us hl => match us, hl with | [_, _, _], _ => rfl⟩
  · obtain ⟨urn, draws, added, rfl, h0, h1, h2, rfl⟩ := h; rfl
  · obtain ⟨urn, draws, added, rfl, h0, h1, h2, rfl⟩ := h; simp
  · obtain ⟨urn, draws, added, rfl, h0, h1, h2, rfl⟩ := h
    show Ss _ _ [.da ((eT PyData.int) urn), .da ((eT PyData.int) draws), .da (PyData.int added), .no, .no, .no] _ _
    refine s_seq (s_parM1 (ds := (urn).map PyData.int) (el_listOf (.inr (ed_var rfl))) (fun _ _ => (ed_is (d1 := eQ (1 : Rat)) (ed_tup (ds := [PyData.int (1 : Int), PyData.int (1 : Int)]) (ea_cons ed_int (ea_cons ed_int ea_nil))) (by rfl))) (by decide) (fun p_left1 => s_le (ρ1 := [.da ((eT PyData.int) urn), .da ((eT PyData.int) draws), .da (PyData.int added), .mu true p_left1 (.lst (urn.map PyData.int)), .da (eQ (1 : Rat)), .no]) (le_rfl rfl) ?_))
    refine s_seq (s_forN (β := List Int × Rat) (draws) (fun x => Itm.hard (PyData.int x)) (ei_tupX (ed_var rfl)) (fun i0 b0 => RowOk urn draws added i0 b0) (fun i0 b0 => [.da ((eT PyData.int) urn), .da ((eT PyData.int) draws), .da (PyData.int added), .mu true p_left1 (.lst (b0.1.map PyData.int)), .da (eQ b0.2), .no]) ((urn, 1)) (by exact row_start h0) (le_same (le_same (le_same (le_mu (congrArg MO.lst (by rfl)) (le_da (by rfl) (le_no le_nil)))))) (fun T0 hT0 i0 x0 b0 hx0 hP0 => ⟨_, [5], (eg_name (by simp)), ?_⟩) (fun b0 hP0 => ?_))
    · show Ss _ _ [.da ((eT PyData.int) urn), .da ((eT PyData.int) draws), .da (PyData.int added), .mu true p_left1 (.lst (b0.1.map PyData.int)), .da (eQ b0.2), .da (PyData.int x0)] _ _
      refine s_seq (s_if (b := (decide ((ixG b0.1 x0) ≤ (0 : Int)))) (et_test (ed_B0 (ed_ixMX (ed_var rfl) rfl ⟨_, _, rfl⟩ (by exact inb (row_ix h0 h1 hP0 hx0))) ed_int)) (fun hc0 => ?_) (fun hc0 => ?_))
      · exact s_ret (ed_is (ed_is (d1 := eQ (0 : Rat)) (ed_tup (ds := [PyData.int (0 : Int), PyData.int (1 : Int)]) (ea_cons ed_int (ea_cons ed_int ea_nil))) (by rfl)) (by exact row_exit hx0 hP0 hc0 : (eQ (0 : Rat)) = (eQ (rowCh urn draws added)))) hR
      · refine s_next ?_
        refine s_seq (s_asg (ed_is (ed_call (ds := [((eP PyData.int PyData.int) (qp b0.2)), ((eP PyData.int PyData.int) ((ixG b0.1 x0), (b0.1).sum))]) (ea_cons (ed_is (ed_var rfl) (rfl : _ = ((eP PyData.int PyData.int) (qp b0.2)))) (ea_cons (ed_tup (ds := [(PyData.int (ixG b0.1 x0)), (PyData.int (b0.1).sum)]) (ea_cons (ed_ixMX (ed_var rfl) rfl ⟨_, _, rfl⟩ (by exact inb (row_ix h0 h1 hP0 hx0))) (ea_cons (ed_sumM rfl) ea_nil))) ea_nil)) ⟨(qp b0.2), ((ixG b0.1 x0), (b0.1).sum), rfl, by exact (hP0.sz.qb (by have := row_i h1 hx0; omega)).pb, by exact pb_small (by have := row_sum h0 h1 hP0 hx0 hc0; omega) (by have := row_sum h0 h1 hP0 hx0 hc0; omega) (by have := row_sum h0 h1 hP0 hx0 hc0; omega), rfl⟩) (by simp only [qv_qp] : _ = (eQ (b0.2 * qv (((ixG b0.1 x0), (b0.1).sum)))))) (s_le (ρ1 := [.da ((eT PyData.int) urn), .da ((eT PyData.int) draws), .da (PyData.int added), .mu true p_left1 (.lst (b0.1.map PyData.int)), .da (eQ (b0.2 * qv (((ixG b0.1 x0), (b0.1).sum)))), .da (PyData.int x0)]) (le_rfl rfl) ?_))
        refine (s_setLX (ed_I0 (ed_ixMX (ed_var rfl) rfl ⟨_, _, rfl⟩ (by exact inb (row_ix h0 h1 hP0 hx0))) (ed_var rfl)) (ed_var rfl) ⟨_, _, rfl⟩ rfl (by exact row_ix h0 h1 hP0 hx0) (s_le (ρ1 := [.da ((eT PyData.int) urn), .da ((eT PyData.int) draws), .da (PyData.int added), .mu true p_left1 (.lst ((b0.1.set (x0).toNat ((ixG b0.1 x0) + added)).map PyData.int)), .da (eQ (b0.2 * qv (((ixG b0.1 x0), (b0.1).sum)))), .da (PyData.int x0)]) (le_same (le_same (le_same (le_mu (congrArg MO.lst (by simp)) (le_same (le_same le_nil)))))) ?_))
        exact s_endN ((b0.1.set (x0).toNat ((ixG b0.1 x0) + added)), (b0.2 * qv (((ixG b0.1 x0), (b0.1).sum)))) (by exact row_next h2 h0 h1 hP0 hx0 hc0) (le_same (le_same (le_same (le_mu (congrArg MO.lst (by rfl)) (le_da (by rfl) (le_no le_nil))))))
    · exact s_ret (ed_is (ed_var rfl) (by exact row_done hP0 : (eQ b0.2) = (eQ (rowCh urn draws added)))) hR

/-! ### _law_urn -/
abbrev s_law_urn : Stmt := topS 38
abbrev N_law_urn : List Str := ["state", "top", "urn", "k"]
theorem sc_law_urn : FnScope N_law_urn ["state"] (defScope s_law_urn) := ⟨rfl, rfl, rfl, by decide +kernel, rfl, by decide +kernel, by decide +kernel⟩
def R_law_urn : List PyData → (PyData → Prop) → Prop := fun ds Φ => ds = [] ∧ ∀ z : (List Int), UrnOk z → Φ ((eT PyData.int) z)
set_option maxHeartbeats 4000000 in
theorem ok_law_urn {P : Program} {w : World} {K : PySem.W.Frag} {mg : Str → Option Value} {base : Heap} (B : Gb mg) (F : Fd K mg "_law_urn" s_law_urn) (C_law_draw : Cl P w K mg base 1 "_law_draw" ["state", "many"] (SpW K R_draw)) (C_law_pick : Cl P w K mg base 2 "_law_pick" ["state", "some"] (SpW K R_pick)) : Cl P w K mg base 3 "_law_urn" ["state"] (SpW K R_law_urn) := by
  obtain ⟨f, fd, F, hm⟩ := F.ex
  refine ⟨f, fd, fnG_of (k := 2) F sc_law_urn (spW_len fun ds d h => ?_) (fun cdv A outer s H hr hgd => ⟨_, (pss_cons (ps_set (i := 1) sc_law_urn.nd rfl (Or.inr rfl) (pe_cl C_law_pick (hr.mono (by decide)) hgd (by rfl) (pa_cons (pv 0) (pa_cons (pe_lst (pa_cons pe_int (pa_cons pe_int (pa_cons pe_int pa_nil)))) pa_nil)))) (pss_cons (ps_setLc (i := 2) (own := [("k", 3)]) (g := _) (tt := tYes) rfl sc_law_urn.nd rfl rfl (sw_true rfl rfl rfl (by decide +kernel)) (pi_range1 (by rfl) B.range_ (pa_cons (pe_op op_add pe_int (pe_cl C_law_draw (hr.mono (by decide)) hgd (by rfl) (pa_cons (pv 0) (pa_cons pe_int pa_nil)))) pa_nil)) (blkOk_by (N := N_law_urn) (sc := defScope s_law_urn) (by decide +kernel)) (fun _ _ _ _ _ => (pg_name (i := 3) sc_law_urn.nd rfl (Or.inl rfl))) (fun _ _ _ _ _ => pts_nil) (fun _ _ _ _ _ => (pe_cl C_law_draw (hr.mono (by decide)) hgd (by rfl) (pa_cons (pv 0) (pa_cons (pe_op op_add (pv 1) pe_int) pa_nil))))) (pss_one (ps_ret (pe_ifExp (pt_cmpR op_gt (pe_callB (r := rSumT K) (cr_sumT rfl) (by rfl) B.sum_ (by decide +kernel) (pa_cons (pv 2) pa_nil)) pe_int (nomark _)) (pe_callTy (r := rTupOf K) call_tupleF (by rfl) B.tuple_ PyProof.Rows.boot_tuple (pa_cons (pv 2) pa_nil)) (pe_callTy (r := rTupOf K) call_tupleF (by rfl) B.tuple_ PyProof.Rows.boot_tuple (pa_cons (pe_op (r := rCatG K) op_catG (pe_slice sl_list (pv 2) po_none (po_some (pe_un un_neg pe_int))) (pe_lst (pa_cons pe_int pa_nil))) pa_nil))))))), fun vs Q => fn_draws (N := N_law_urn) (fun ds d h => ?_) (fun B S a ds Φ h D hR => ?_) vs H Q E0⟩), hm, F.kp, F.binds fun _ _ _ _ _ _ us hl => match us, hl with | [_], _ => rfl⟩
  · obtain ⟨rfl, hΦ⟩ := h; rfl
  · obtain ⟨rfl, hΦ⟩ := h; simp
  · obtain ⟨rfl, hΦ⟩ := h
    show Ss _ _ [.mu false a (.any StOk), .no, .no, .no] _ _
    refine s_seq (s_asgW (ew_pickLD (i := 0) (ed_L (el_lst (ds := [(2 : Int), (9 : Int), (60 : Int)].map PyData.int) (ea_cons ed_int (ea_cons ed_int (ea_cons ed_int ea_nil))))) rfl rfl (by simp)) (fun top_v h_top_v => s_le (ρ1 := [.mu false a (.any StOk), .da (PyData.int top_v), .no, .no]) (le_rfl rfl) ?_))
    try dsimp only at h_top_v
    have ht : top_v = 2 ∨ top_v = 9 ∨ top_v = 60 := by simpa using h_top_v
    refine s_seq (s_asgW (ew_L (el_lcW (P := (fun z9 => ∃ x3 y4, (fun y => y = (1 : Int)) x3 ∧ (fun x => 0 ≤ x ∧ x < (6 : Int)) y4 ∧ z9 = (fun _ y4 => ((1 : Int) + y4)) x3 y4)) (xs := fun a : Int => List.range a.toNat) (ea := fun (i : Nat) => Itm.hard (PyData.int (i : Int))) (eb := PyData.int) (R := fun a10 x1 z => (fun x => 0 ≤ x ∧ x < (top_v + (1 : Int))) z) (eiw_rng (ew_op (e := PyData.int) (F := (fun _ y4 => ((1 : Int) + y4))) (ew_det (f := PyData.int) (x := (1 : Int)) ed_int) (ew_drawD (i := 0) ed_int rfl rfl (by omega)) (fun x3 y4 hx5 hy6 _ _ _ ha7 hb8 => by subst hx5; exact (ed_I0 ha7 hb8))) (by rintro m ⟨x, y, hx, hy, hm⟩; (try dsimp only at hx hy hm); omega)) (by rintro m ⟨x, y, hx, hy, hm⟩; (try dsimp only at hx hy hm); simp; omega) (by simp) (fun _ _ a10 x1 _ hx2 => ⟨_, rfl, (eg_name (by simp)), (ew_drawD (i := 0) (ed_I0 (ed_var rfl) ed_int) rfl rfl (by omega))⟩))) (fun urn_v h_urn_v => s_le (ρ1 := [.mu false a (.any StOk), .da (PyData.int top_v), .da ((eL PyData.int) urn_v), .no]) (le_rfl rfl) ?_))
    try dsimp only at h_urn_v
    obtain ⟨a0, ⟨x1, y1, hx1, hy1, ha0⟩, hf⟩ := h_urn_v
    try dsimp only at hx1 hy1 ha0
    have hl := hf.len
    rw [List.length_range] at hl
    have hz : ∀ z ∈ urn_v, 0 ≤ z ∧ z ≤ 60 := fun z hz => by obtain ⟨k, _, hk⟩ := hf.mem z hz; (try dsimp only at hk); omega
    have hl2 : 1 ≤ urn_v.length ∧ urn_v.length ≤ 6 := by omega
    exact s_retW (i := 0) (ew_det (f := (fun l : List Int => PyData.tuple (l.map PyData.int))) (x := (if (decide ((0 : Int) < (urn_v).sum)) = true then urn_v else ((cutX urn_v none (some (-(1 : Int)))) ++ [(1 : Int)]))) (ed_ite (e := (eT PyData.int)) (et_test (ed_B0 (ed_sumL (ed_var rfl)) ed_int)) (fun hb11 => (ed_tupleL (ed_var rfl))) (fun hb11 => (ed_tupleL (ed_L (el_cat (ed_L (el_sliceX (ed_var rfl) eo_no (eo_some (ed_neg ed_int)))) (ed_L (el_lst (ds := [(1 : Int)].map PyData.int) (ea_cons ed_int ea_nil))) (by have := cut_len (l := urn_v); simp; omega))))))) rfl hR (fun x hx => by subst hx; exact hΦ _ (urn_made hl2 hz))

/-! ### _law_rows_hold -/
abbrev s_law_rows_hold : Stmt := topS 40
abbrev N_law_rows_hold : List Str := ["state", "urn", "added", "draws", "k", "due", "turned", "cut", "told", "row", "ways", "left", "colour", "counts", "whole", "exact"]
theorem sc_law_rows_hold : FnScope N_law_rows_hold ["state", "urn"] (defScope s_law_rows_hold) := ⟨rfl, rfl, rfl, by decide +kernel, rfl, by decide +kernel, by decide +kernel⟩
def R_law_rows_hold : List PyData → (PyData → Prop) → Prop := fun ds Φ => ∃ (urn : (List Int)), ds = [((eT PyData.int) urn)] ∧ (UrnOk urn) ∧ ∀ z : Bool, z = true → Φ (PyData.bool z)
set_option maxHeartbeats 4000000 in
theorem ok_law_rows_hold {P : Program} {w : World} {K : PySem.W.Frag} {mg : Str → Option Value} {base : Heap} (B : Gb mg) (F : Fd K mg "_law_rows_hold" s_law_rows_hold) (C_law_choose : Cl P w K mg base 1 "_law_choose" ["many", "few"] (SpP K R_law_choose)) (C_law_draw : Cl P w K mg base 1 "_law_draw" ["state", "many"] (SpW K R_draw)) (C_law_mul : Cl P w K mg base 2 "_law_mul" ["one", "other"] (SpP K R_law_mul)) (C_law_pick : Cl P w K mg base 2 "_law_pick" ["state", "some"] (SpW K R_pick)) (C_law_q : Cl P w K mg base 1 "_law_q" ["up", "down"] (SpP K R_law_q)) (C_law_row_chance : Cl P w K mg base 3 "_law_row_chance" ["urn", "draws", "added"] (SpP K R_law_row_chance)) (C_law_same : Cl P w K mg base 1 "_law_same" ["actual", "due"] (SpP K R_law_same)) (C_chance_of_counts : Cl P w K mg base 3 "chance_of_counts" ["urn", "counts"] (SpP K R_chance_of_counts)) (C_chance_of_row : Cl P w K mg base 4 "chance_of_row" ["urn", "draws", "added"] (SpP K R_chance_of_row)) (C_same_chance : Cl P w K mg base 3 "same_chance" ["urn", "draws", "added"] (SpP K R_same_chance)) : Cl P w K mg base 5 "_law_rows_hold" ["state", "urn"] (SpW K R_law_rows_hold) := by
  obtain ⟨f, fd, F, hm⟩ := F.ex
  refine ⟨f, fd, fnG_of (k := 4) F sc_law_rows_hold (spW_len fun ds d h => ?_) (fun cdv A outer s H hr hgd => ⟨_, (pss_cons (ps_set (i := 2) sc_law_rows_hold.nd rfl (Or.inr rfl) (pe_cl C_law_pick (hr.mono (by decide)) hgd (by rfl) (pa_cons (pv 0) (pa_cons (pe_lst (pa_cons (pe_un un_neg pe_int) (pa_cons pe_int (pa_cons pe_int (pa_cons pe_int (pa_cons pe_int pa_nil)))))) pa_nil)))) (pss_cons (ps_set (i := 3) sc_law_rows_hold.nd rfl (Or.inr rfl) (pe_callTy (r := rTupOf K) call_tupleF (by rfl) B.tuple_ PyProof.Rows.boot_tuple (pa_cons (pe_lc (own := [("k", 4)]) (g := _) (tt := tYes) rfl sc_law_rows_hold.nd (pi_range1 (by rfl) B.range_ (pa_cons (pe_cl C_law_draw (hr.mono (by decide)) hgd (by rfl) (pa_cons (pv 0) (pa_cons (pe_cl C_law_pick (hr.mono (by decide)) hgd (by rfl) (pa_cons (pv 0) (pa_cons (pe_lst (pa_cons pe_int (pa_cons pe_int (pa_cons pe_int pa_nil)))) pa_nil))) pa_nil))) pa_nil)) (blkOk_by (N := N_law_rows_hold) (sc := defScope s_law_rows_hold) (by decide +kernel)) (fun _ _ _ _ _ => (pg_name (i := 4) sc_law_rows_hold.nd rfl (Or.inl rfl))) (fun _ _ _ _ _ => pts_nil) (fun _ _ _ _ _ => (pe_cl C_law_draw (hr.mono (by decide)) hgd (by rfl) (pa_cons (pv 0) (pa_cons (pe_callB (r := rLenS K) call_len_seq (by rfl) B.len_ PySem.boot_len (pa_cons (pv 1) pa_nil)) pa_nil))))) pa_nil))) (pss_cons (ps_par (i := 5) (j := 6) rfl sc_law_rows_hold.nd rfl rfl (by decide) rfl rfl (pa_cons (pe_cl C_law_row_chance (hr.mono (by decide)) hgd (by rfl) (pa_cons (pv 1) (pa_cons (pv 3) (pa_cons (pv 2) pa_nil)))) (pa_cons (pe_revT (pv 3)) pa_nil)) rfl rfl) (pss_cons (ps_set (i := 7) sc_law_rows_hold.nd rfl (Or.inl rfl) (pe_cl C_law_draw (hr.mono (by decide)) hgd (by rfl) (pa_cons (pv 0) (pa_cons (pe_op op_add (pe_callB (r := rLenS K) call_len_seq (by rfl) B.len_ PySem.boot_len (pa_cons (pv 3) pa_nil)) pe_int) pa_nil)))) (pss_cons (ps_setLc (i := 8) (own := [("row", 9)]) (g := _) (tt := tYes) rfl sc_law_rows_hold.nd rfl rfl (sw_true rfl rfl rfl (by decide +kernel)) (pi_list (pe_lst (pa_cons (pv 3) (pa_cons (pv 6) (pa_cons (pe_op (r := rCatF K) op_catF (pe_slice sl_tupF (pv 3) (po_some (pv 7)) po_none) (pe_slice sl_tupF (pv 3) po_none (po_some (pv 7)))) pa_nil))))) (blkOk_by (N := N_law_rows_hold) (sc := defScope s_law_rows_hold) (by decide +kernel)) (fun _ _ _ _ _ => (pg_name (i := 9) sc_law_rows_hold.nd rfl (Or.inl rfl))) (fun _ _ _ _ _ => pts_nil) (fun _ _ _ _ _ => (pe_cl C_chance_of_row (hr.mono (by decide)) hgd (by rfl) (pa_cons (pv 1) (pa_cons (pv 9) (pa_cons (pv 2) pa_nil)))))) (pss_cons (ps_par (i := 10) (j := 11) rfl sc_law_rows_hold.nd rfl rfl (by decide) rfl rfl (pa_cons pe_int (pa_cons (pe_callB (r := rLenS K) call_len_seq (by rfl) B.len_ PySem.boot_len (pa_cons (pv 3) pa_nil)) pa_nil)) rfl rfl) (pss_cons (ps_for PassesOwn.never rfl (pi_range1 (by rfl) B.range_ (pa_cons (pe_callB (r := rLenS K) call_len_seq (by rfl) B.len_ PySem.boot_len (pa_cons (pv 1) pa_nil)) pa_nil)) (pg_name (i := 12) sc_law_rows_hold.nd rfl (Or.inl rfl)) (pss_one (ps_par (i := 10) (j := 11) rfl sc_law_rows_hold.nd rfl rfl (by decide) rfl rfl (pa_cons (pe_op op_mulG (pv 10) (pe_cl C_law_choose (hr.mono (by decide)) hgd (by rfl) (pa_cons (pv 11) (pa_cons (pe_bmTK (K := K) (r := rCntT K) PySem.F.slot_tuple_count PySem.F.type_tuple_count mt_tcount (pv 3) (pa_cons (pv 12) pa_nil)) pa_nil)))) (pa_cons (pe_op op_sub (pv 11) (pe_bmTK (K := K) (r := rCntT K) PySem.F.slot_tuple_count PySem.F.type_tuple_count mt_tcount (pv 3) (pa_cons (pv 12) pa_nil))) pa_nil)) rfl rfl))) (pss_cons (ps_if (PW.pt (pw_or (pt_not (pt_truth (pe_cl C_law_same (hr.mono (by decide)) hgd (by rfl) (pa_cons (pv 8) (pa_cons (pe_op op_rep (pe_lst (pa_cons (pv 5) pa_nil)) pe_int) pa_nil))) (fun _ => rfl))) (pw_or1 (pt_not (pt_truth (pe_cl C_law_same (hr.mono (by decide)) hgd (by rfl) (pa_cons (pe_cl C_same_chance (hr.mono (by decide)) hgd (by rfl) (pa_cons (pv 1) (pa_cons (pv 3) (pa_cons (pv 2) pa_nil)))) (pa_cons (pv 10) pa_nil))) (fun _ => rfl)))))) pss_never pss_nil) (pss_cons (ps_set (i := 13) sc_law_rows_hold.nd rfl (Or.inl rfl) (pe_callTy (r := rTupOf K) call_tupleF (by rfl) B.tuple_ PyProof.Rows.boot_tuple (pa_cons (pe_lc (own := [("colour", 12)]) (g := _) (tt := tYes) rfl sc_law_rows_hold.nd (pi_range1 (by rfl) B.range_ (pa_cons (pe_callB (r := rLenS K) call_len_seq (by rfl) B.len_ PySem.boot_len (pa_cons (pv 1) pa_nil)) pa_nil)) (blkOk_by (N := N_law_rows_hold) (sc := defScope s_law_rows_hold) (by decide +kernel)) (fun _ _ _ _ _ => (pg_name (i := 12) sc_law_rows_hold.nd rfl (Or.inl rfl))) (fun _ _ _ _ _ => pts_nil) (fun _ _ _ _ _ => (pe_bmTK (K := K) (r := rCntT K) PySem.F.slot_tuple_count PySem.F.type_tuple_count mt_tcount (pv 3) (pa_cons (pv 12) pa_nil)))) pa_nil))) (pss_cons (ps_set (i := 14) sc_law_rows_hold.nd rfl (Or.inl rfl) pe_int) (pss_cons (ps_for PassesOwn.never rfl (pi_range1 (by rfl) B.range_ (pa_cons (pe_callB (r := rLenS K) call_len_seq (by rfl) B.len_ PySem.boot_len (pa_cons (pv 1) pa_nil)) pa_nil)) (pg_name (i := 12) sc_law_rows_hold.nd rfl (Or.inl rfl)) (pss_one (ps_set (i := 14) sc_law_rows_hold.nd rfl (Or.inl rfl) (pe_op op_mulG (pv 14) (pe_cl C_law_choose (hr.mono (by decide)) hgd (by rfl) (pa_cons (pe_ix (r := rIxT K) ix_tup (pv 1) (pv 12) (fun _ _ => rfl)) (pa_cons (pe_ix (r := rIxT K) ix_tup (pv 13) (pv 12) (fun _ _ => rfl)) pa_nil))))))) (pss_cons (ps_if (PW.pt (pw_or (pt_cmpR op_gt (pe_callB (r := rMaxT K) (cr_maxT rfl) (by rfl) B.max_ (by decide +kernel) (pa_cons (pv 13) pa_nil)) pe_int (nomark _)) (pw_or1 (pt_cmpR op_gt (pe_callB (r := rSumT K) (cr_sumT rfl) (by rfl) B.sum_ (by decide +kernel) (pa_cons (pv 13) pa_nil)) pe_int (nomark _))))) (pss_one (ps_ret pe_bl)) pss_nil) (pss_cons (ps_set (i := 15) sc_law_rows_hold.nd rfl (Or.inl rfl) (pe_ifExp (pt_cmpR op_le (pe_callB (r := rSumT K) (cr_sumT rfl) (by rfl) B.sum_ (by decide +kernel) (pa_cons (pv 13) pa_nil)) (pe_callB (r := rSumT K) (cr_sumT rfl) (by rfl) B.sum_ (by decide +kernel) (pa_cons (pv 1) pa_nil)) (nomark _)) (pe_cl C_law_q (hr.mono (by decide)) hgd (by rfl) (pa_cons (pv 14) (pa_cons (pe_cl C_law_choose (hr.mono (by decide)) hgd (by rfl) (pa_cons (pe_callB (r := rSumT K) (cr_sumT rfl) (by rfl) B.sum_ (by decide +kernel) (pa_cons (pv 1) pa_nil)) (pa_cons (pe_callB (r := rSumT K) (cr_sumT rfl) (by rfl) B.sum_ (by decide +kernel) (pa_cons (pv 13) pa_nil)) pa_nil))) pa_nil))) (pe_tupF (pa_cons pe_int (pa_cons pe_int pa_nil))))) (pss_one (ps_ret (pe_and (pe_cl C_law_same (hr.mono (by decide)) hgd (by rfl) (pa_cons (pe_cl C_chance_of_counts (hr.mono (by decide)) hgd (by rfl) (pa_cons (pv 1) (pa_cons (pv 13) pa_nil))) (pa_cons (pv 15) pa_nil))) (pe_one (pe_or (pe_cmpR (r := rNeD K) (op_neD hr.units) (pv 2) (pe_un un_neg pe_int) (nomark _)) (pe_one (pe_cmpR (r := rEqD K) (op_eqD hr.units) (pe_cl C_law_mul (hr.mono (by decide)) hgd (by rfl) (pa_cons (pv 5) (pa_cons (pe_tupF (pa_cons (pv 10) (pa_cons pe_int pa_nil))) pa_nil))) (pv 15) (nomark _))))))))))))))))))))), fun vs Q => fn_draws (N := N_law_rows_hold) (fun ds d h => ?_) (fun B S a ds Φ h D hR => ?_) vs H Q E0⟩), hm, F.kp, F.binds fun _ _ _ _ _ _ us hl => match us, hl with | [_, _], _ => rfl⟩
  · obtain ⟨urn, rfl, h0, hΦ⟩ := h; rfl
  · obtain ⟨urn, rfl, h0, hΦ⟩ := h; simp
  · obtain ⟨urn, rfl, h0, hΦ⟩ := h
    show Ss _ _ [.mu false a (.any StOk), .da ((eT PyData.int) urn), .no, .no, .no, .no, .no, .no, .no, .no, .no, .no, .no, .no, .no, .no] _ _
    refine s_seq (s_asgW (ew_pickLD (i := 0) (ed_L (el_lst (ds := [(-(1 : Int)), (0 : Int), (1 : Int), (7 : Int), (60 : Int)].map PyData.int) (ea_cons (ed_neg ed_int) (ea_cons ed_int (ea_cons ed_int (ea_cons ed_int (ea_cons ed_int ea_nil))))))) rfl rfl (by simp)) (fun added_v h_added_v => s_le (ρ1 := [.mu false a (.any StOk), .da ((eT PyData.int) urn), .da (PyData.int added_v), .no, .no, .no, .no, .no, .no, .no, .no, .no, .no, .no, .no, .no]) (le_rfl rfl) ?_))
    try dsimp only at h_added_v
    have ha : -1 ≤ added_v ∧ added_v ≤ 60 := by simp at h_added_v; omega
    refine s_seq (s_asgW (ew_imp (R := (fun l => ∃ a4, (fun x => ∃ m3, (fun x => x ∈ [(4 : Int), (12 : Int), (61 : Int)]) m3 ∧ 0 ≤ x ∧ x < m3) a4 ∧ Fa (fun x1 z => (fun x => 0 ≤ x ∧ x < ((urn).length : Int)) z) (List.range (a4).toNat) l)) (ew_cb1 (e := (fun l : List Int => PyData.tuple (l.map PyData.int))) (F := (fun x5 => x5)) (ew_L (el_lcW (P := (fun x => ∃ m3, (fun x => x ∈ [(4 : Int), (12 : Int), (61 : Int)]) m3 ∧ 0 ≤ x ∧ x < m3)) (xs := fun a : Int => List.range a.toNat) (ea := fun (i : Nat) => Itm.hard (PyData.int (i : Int))) (eb := PyData.int) (R := fun a4 x1 z => (fun x => 0 ≤ x ∧ x < ((urn).length : Int)) z) (eiw_rng (ew_draw (i := 0) (ew_pickLD (i := 0) (ed_L (el_lst (ds := [(4 : Int), (12 : Int), (61 : Int)].map PyData.int) (ea_cons ed_int (ea_cons ed_int (ea_cons ed_int ea_nil))))) rfl rfl (by simp)) rfl rfl (by intro m hm; simp at hm; omega)) (by rintro m ⟨x, hx, hy⟩; simp at hx; omega)) (by rintro m ⟨x, hx, hy⟩; simp at hx; simp; omega) (by simp) (fun _ _ a4 x1 _ hx2 => ⟨_, rfl, (eg_name (by simp)), (ew_drawD (i := 0) (ed_lenTX (ed_var rfl)) rfl rfl (by have := h0.1; have := h0.2.1; omega))⟩))) (fun x5 hx6 _ _ ha7 => (ed_tupleL ha7))) (fun _ ⟨_, h, e⟩ => by subst e; exact h)) (fun draws_v h_draws_v => s_le (ρ1 := [.mu false a (.any StOk), .da ((eT PyData.int) urn), .da (PyData.int added_v), .da ((eT PyData.int) draws_v), .no, .no, .no, .no, .no, .no, .no, .no, .no, .no, .no, .no]) (le_rfl rfl) ?_))
    try dsimp only at h_draws_v
    obtain ⟨a0, ⟨m0, hm0, ha0⟩, hf⟩ := h_draws_v
    have hm1 : m0 = 4 ∨ m0 = 12 ∨ m0 = 61 := by simpa using hm0
    have hl := hf.len
    rw [List.length_range] at hl
    have hdr : DrwOk urn draws_v := ⟨by omega, fun z hz => by obtain ⟨k, _, hk⟩ := hf.mem z hz; exact hk⟩
    refine s_seq (s_par (ea_cons (ed_call (ds := [((eT PyData.int) urn), ((eT PyData.int) draws_v), (PyData.int added_v)]) (ea_cons (ed_var rfl) (ea_cons (ed_var rfl) (ea_cons (ed_var rfl) ea_nil))) ⟨urn, draws_v, added_v, rfl, by exact h0, by exact hdr, by exact ha, rfl⟩) (ea_cons (ed_revT (ed_var rfl)) ea_nil)) (s_le (ρ1 := [.mu false a (.any StOk), .da ((eT PyData.int) urn), .da (PyData.int added_v), .da ((eT PyData.int) draws_v), .no, .da (eQ (rowCh (urn) (draws_v) (added_v))), .da ((eT PyData.int) (draws_v).reverse), .no, .no, .no, .no, .no, .no, .no, .no, .no]) (le_rfl rfl) ?_))
    refine s_seq (s_asgW (ew_drawD (i := 0) (ed_I0 (ed_lenTX (ed_var rfl)) ed_int) rfl rfl (by have := h0.1; have := h0.2.1; omega)) (fun cut_v h_cut_v => s_le (ρ1 := [.mu false a (.any StOk), .da ((eT PyData.int) urn), .da (PyData.int added_v), .da ((eT PyData.int) draws_v), .no, .da (eQ (rowCh (urn) (draws_v) (added_v))), .da ((eT PyData.int) (draws_v).reverse), .da (PyData.int cut_v), .no, .no, .no, .no, .no, .no, .no, .no]) (le_rfl rfl) ?_))
    try dsimp only at h_cut_v
    have hk : 0 ≤ cut_v ∧ cut_v ≤ draws_v.length := by omega
    have hmn : ∀ x ∈ draws_v, 0 ≤ x := fun x hx => (hdr.2 x hx).1
    have hgd := rowGo_sz h0 ha hdr
    have hu1 := h0.1
    have hu2 := h0.2.1
    have hsum := h0.sum_le
    have hs0 := h0.2.2.2
    have hcs := cntL_sum hdr
    have hdl := hdr.1
    refine s_seq (s_asg (ed_L (el_lcAX (xs := [draws_v, (draws_v).reverse, ((cutX draws_v (some cut_v) none) ++ (cutX draws_v none (some cut_v)))]) (ea := fun x => Itm.hard ((eT PyData.int) x)) (enc := eQ) (fb := fun (x9 : (List Int)) => (rowCh (urn) (x9) (added_v))) (ei_listX (ed_L (el_lst (ds := [draws_v, (draws_v).reverse, ((cutX draws_v (some cut_v) none) ++ (cutX draws_v none (some cut_v)))].map (eT PyData.int)) (ea_cons (ed_var rfl) (ea_cons (ed_var rfl) (ea_cons (ed_catT (ed_sliceT (ed_var rfl) (eo_some (ed_var rfl)) eo_no) (ed_sliceT (ed_var rfl) eo_no (eo_some (ed_var rfl))) (by have := hdr.1; simp [cut_back _ _ hk]; omega)) ea_nil)))))) (by first | (simp; done) | (simp; omega)) (by simp) (fun _ _ x9 hx9 => ⟨_, rfl, (eg_name (by simp)), (ed_call (ds := [((eT PyData.int) urn), ((eT PyData.int) x9), (PyData.int added_v)]) (ea_cons (ed_var rfl) (ea_cons (ed_var rfl) (ea_cons (ed_var rfl) ea_nil))) ⟨urn, x9, added_v, rfl, by exact h0, by exact rows_ok hdr hk (by assumption), by exact ha, rfl⟩)⟩))) (s_le (ρ1 := [.mu false a (.any StOk), .da ((eT PyData.int) urn), .da (PyData.int added_v), .da ((eT PyData.int) draws_v), .no, .da (eQ (rowCh (urn) (draws_v) (added_v))), .da ((eT PyData.int) (draws_v).reverse), .da (PyData.int cut_v), .da ((eL eQ) (([draws_v, (draws_v).reverse, ((cutX draws_v (some cut_v) none) ++ (cutX draws_v none (some cut_v)))]).map fun (x9 : (List Int)) => (rowCh (urn) (x9) (added_v)))), .no, .no, .no, .no, .no, .no, .no]) (le_rfl rfl) ?_))
    refine s_seq (s_par (ea_cons ed_int (ea_cons (ed_lenTX (ed_var rfl)) ea_nil)) (s_le (ρ1 := [.mu false a (.any StOk), .da ((eT PyData.int) urn), .da (PyData.int added_v), .da ((eT PyData.int) draws_v), .no, .da (eQ (rowCh (urn) (draws_v) (added_v))), .da ((eT PyData.int) (draws_v).reverse), .da (PyData.int cut_v), .da ((eL eQ) (([draws_v, (draws_v).reverse, ((cutX draws_v (some cut_v) none) ++ (cutX draws_v none (some cut_v)))]).map fun (x9 : (List Int)) => (rowCh (urn) (x9) (added_v)))), .no, .da (PyData.int (1 : Int)), .da (PyData.int ((draws_v).length : Int)), .no, .no, .no, .no]) (le_rfl rfl) ?_))
    refine s_seq (s_forX ((List.range (((urn).length : Int)).toNat)) (fun (i : Nat) => Itm.hard (PyData.int (i : Int))) (ei_rng (ed_lenTX (ed_var rfl)) (by omega)) (fun i0 => [.mu false a (.any StOk), .da ((eT PyData.int) urn), .da (PyData.int added_v), .da ((eT PyData.int) draws_v), .no, .da (eQ (rowCh (urn) (draws_v) (added_v))), .da ((eT PyData.int) (draws_v).reverse), .da (PyData.int cut_v), .da ((eL eQ) (([draws_v, (draws_v).reverse, ((cutX draws_v (some cut_v) none) ++ (cutX draws_v none (some cut_v)))]).map fun (x9 : (List Int)) => (rowCh (urn) (x9) (added_v)))), .no, .da (PyData.int ((multi draws_v (i0)).1)), .da (PyData.int ((multi draws_v (i0)).2)), .no, .no, .no, .no]) (le_same (le_same (le_same (le_same (le_no (le_same (le_same (le_same (le_same (le_no (le_da (by rfl) (le_da (by rfl) (le_no (le_no (le_no (le_no le_nil)))))))))))))))) (fun T0 hT0 i0 x0 hx0 => ⟨_, [12], (eg_name (by simp)), ?_⟩) ?_)
    · show Ss _ _ [.mu false a (.any StOk), .da ((eT PyData.int) urn), .da (PyData.int added_v), .da ((eT PyData.int) draws_v), .no, .da (eQ (rowCh (urn) (draws_v) (added_v))), .da ((eT PyData.int) (draws_v).reverse), .da (PyData.int cut_v), .da ((eL eQ) (([draws_v, (draws_v).reverse, ((cutX draws_v (some cut_v) none) ++ (cutX draws_v none (some cut_v)))]).map fun (x9 : (List Int)) => (rowCh (urn) (x9) (added_v)))), .no, .da (PyData.int ((multi draws_v (i0)).1)), .da (PyData.int ((multi draws_v (i0)).2)), .da (PyData.int (x0 : Int)), .no, .no, .no] _ _
      have hlt0 := (rng_get hx0).2
      refine s_le (ρ1 := [.mu false a (.any StOk), .da ((eT PyData.int) urn), .da (PyData.int added_v), .da ((eT PyData.int) draws_v), .no, .da (eQ (rowCh (urn) (draws_v) (added_v))), .da ((eT PyData.int) (draws_v).reverse), .da (PyData.int cut_v), .da ((eL eQ) (([draws_v, (draws_v).reverse, ((cutX draws_v (some cut_v) none) ++ (cutX draws_v none (some cut_v)))]).map fun (x9 : (List Int)) => (rowCh (urn) (x9) (added_v)))), .no, .da (PyData.int ((multi draws_v (i0)).1)), .da (PyData.int ((multi draws_v (i0)).2)), .da (PyData.int (i0 : Int)), .no, .no, .no]) (le_rfl (by rw [(rng_get hx0).1])) ?_
      have hlo := multi_lo hmn i0
      refine (s_par (ea_cons (ed_I (ed_var rfl) (ed_call (ds := [(PyData.int ((multi draws_v (i0)).2)), (PyData.int (((draws_v).count (i0 : Int) : Nat) : Int))]) (ea_cons (ed_var rfl) (ea_cons (ed_tcount (ed_var rfl) (ed_var rfl)) ea_nil)) ⟨((multi draws_v (i0)).2), (((draws_v).count (i0 : Int) : Nat) : Int), rfl, by omega, by have := List.count_le_length (a := (i0 : Int)) (l := draws_v); omega, rfl⟩) (by exact multi_mul hmn hdl (by omega))) (ea_cons (ed_I0 (ed_var rfl) (ed_tcount (ed_var rfl) (ed_var rfl))) ea_nil)) (s_le (ρ1 := [.mu false a (.any StOk), .da ((eT PyData.int) urn), .da (PyData.int added_v), .da ((eT PyData.int) draws_v), .no, .da (eQ (rowCh (urn) (draws_v) (added_v))), .da ((eT PyData.int) (draws_v).reverse), .da (PyData.int cut_v), .da ((eL eQ) (([draws_v, (draws_v).reverse, ((cutX draws_v (some cut_v) none) ++ (cutX draws_v none (some cut_v)))]).map fun (x9 : (List Int)) => (rowCh (urn) (x9) (added_v)))), .no, .da (PyData.int (((multi draws_v (i0)).1) * (chI (((multi draws_v (i0)).2)) ((((draws_v).count (i0 : Int) : Nat) : Int))))), .da (PyData.int (((multi draws_v (i0)).2) - (((draws_v).count (i0 : Int) : Nat) : Int))), .da (PyData.int (i0 : Int)), .no, .no, .no]) (le_rfl rfl) ?_))
      exact s_end (le_same (le_same (le_same (le_same (le_no (le_same (le_same (le_same (le_same (le_no (le_da (by rfl) (le_da (by rfl) (le_no (le_no (le_no (le_no le_nil))))))))))))))))
    refine s_seq (s_if (b := ((!(true)) || (!(true)))) (et_or (et_not (et_truB (ed_call (ds := [((eL eQ) (([draws_v, (draws_v).reverse, ((cutX draws_v (some cut_v) none) ++ (cutX draws_v none (some cut_v)))]).map fun (x9 : (List Int)) => (rowCh (urn) (x9) (added_v)))), ((eL eQ) ((List.replicate ((3 : Int)).toNat [(rowCh (urn) (draws_v) (added_v))]).flatten))]) (ea_cons (ed_var rfl) (ea_cons (ed_L (el_rep (el_lst (ds := [(rowCh (urn) (draws_v) (added_v))].map eQ) (ea_cons (ed_var rfl) ea_nil)) (fun _ _ => ed_int) (by simp))) ea_nil)) ⟨((eL eQ) (([draws_v, (draws_v).reverse, ((cutX draws_v (some cut_v) none) ++ (cutX draws_v none (some cut_v)))]).map fun (x9 : (List Int)) => (rowCh (urn) (x9) (added_v)))), ((eL eQ) ((List.replicate ((3 : Int)).toNat [(rowCh (urn) (draws_v) (added_v))]).flatten)), rfl, by exact told_eq hdr hk, by exact rows_gd hdr hk hgd, rfl⟩))) (fun hb10 => (et_not (et_truB (ed_call (ds := [(PyData.int ((multi (draws_v) (urn).length).1)), (PyData.int ((multi draws_v (((List.range (((urn).length : Int)).toNat)).length)).1))]) (ea_cons (ed_call (ds := [((eT PyData.int) urn), ((eT PyData.int) draws_v), (PyData.int added_v)]) (ea_cons (ed_var rfl) (ea_cons (ed_var rfl) (ea_cons (ed_var rfl) ea_nil))) ⟨urn, draws_v, added_v, rfl, by exact h0, by exact hdr, by exact ha, rfl⟩) (ea_cons (ed_var rfl) ea_nil)) ⟨(PyData.int ((multi (draws_v) (urn).length).1)), (PyData.int ((multi draws_v (((List.range (((urn).length : Int)).toNat)).length)).1)), rfl, by simp, by exact multi_gd hmn hdl hu2, rfl⟩))))) (fun hc0 => ?_) (fun hc0 => ?_))
    · exact absurd hc0 (by simp)
    · refine s_next ?_
      refine s_seq (s_asg (ed_is (ed_tupleL (ed_L (el_lcAX (xs := (List.range (((urn).length : Int)).toNat)) (ea := fun (i : Nat) => Itm.hard (PyData.int (i : Int))) (enc := PyData.int) (fb := fun (x11 : Nat) => (((draws_v).count (x11 : Int) : Nat) : Int)) (ei_rng (ed_lenTX (ed_var rfl)) (by omega)) (by first | (simp; done) | (simp; omega)) (by simp) (fun _ _ x11 hx11 => ⟨_, rfl, (eg_name (by simp)), (ed_tcount (ed_var rfl) (ed_var rfl))⟩)))) (by rfl : _ = ((eT PyData.int) (cntL urn draws_v)))) (s_le (ρ1 := [.mu false a (.any StOk), .da ((eT PyData.int) urn), .da (PyData.int added_v), .da ((eT PyData.int) draws_v), .no, .da (eQ (rowCh (urn) (draws_v) (added_v))), .da ((eT PyData.int) (draws_v).reverse), .da (PyData.int cut_v), .da ((eL eQ) (([draws_v, (draws_v).reverse, ((cutX draws_v (some cut_v) none) ++ (cutX draws_v none (some cut_v)))]).map fun (x9 : (List Int)) => (rowCh (urn) (x9) (added_v)))), .no, .da (PyData.int ((multi draws_v (((List.range (((urn).length : Int)).toNat)).length)).1)), .da (PyData.int ((multi draws_v (((List.range (((urn).length : Int)).toNat)).length)).2)), .no, .da ((eT PyData.int) (cntL urn draws_v)), .no, .no]) (le_rfl rfl) ?_))
      refine s_seq (s_asg ed_int (s_le (ρ1 := [.mu false a (.any StOk), .da ((eT PyData.int) urn), .da (PyData.int added_v), .da ((eT PyData.int) draws_v), .no, .da (eQ (rowCh (urn) (draws_v) (added_v))), .da ((eT PyData.int) (draws_v).reverse), .da (PyData.int cut_v), .da ((eL eQ) (([draws_v, (draws_v).reverse, ((cutX draws_v (some cut_v) none) ++ (cutX draws_v none (some cut_v)))]).map fun (x9 : (List Int)) => (rowCh (urn) (x9) (added_v)))), .no, .da (PyData.int ((multi draws_v (((List.range (((urn).length : Int)).toNat)).length)).1)), .da (PyData.int ((multi draws_v (((List.range (((urn).length : Int)).toNat)).length)).2)), .no, .da ((eT PyData.int) (cntL urn draws_v)), .da (PyData.int (1 : Int)), .no]) (le_rfl rfl) ?_))
      refine s_seq (s_forX ((List.range (((urn).length : Int)).toNat)) (fun (i : Nat) => Itm.hard (PyData.int (i : Int))) (ei_rng (ed_lenTX (ed_var rfl)) (by omega)) (fun i1 => [.mu false a (.any StOk), .da ((eT PyData.int) urn), .da (PyData.int added_v), .da ((eT PyData.int) draws_v), .no, .da (eQ (rowCh (urn) (draws_v) (added_v))), .da ((eT PyData.int) (draws_v).reverse), .da (PyData.int cut_v), .da ((eL eQ) (([draws_v, (draws_v).reverse, ((cutX draws_v (some cut_v) none) ++ (cutX draws_v none (some cut_v)))]).map fun (x9 : (List Int)) => (rowCh (urn) (x9) (added_v)))), .no, .da (PyData.int ((multi draws_v (((List.range (((urn).length : Int)).toNat)).length)).1)), .da (PyData.int ((multi draws_v (((List.range (((urn).length : Int)).toNat)).length)).2)), .no, .da ((eT PyData.int) (cntL urn draws_v)), .da (PyData.int (wayN urn (cntL urn draws_v) (i1))), .no]) (le_same (le_same (le_same (le_same (le_no (le_same (le_same (le_same (le_same (le_no (le_same (le_same (le_no (le_same (le_da (by rfl) (le_no le_nil)))))))))))))))) (fun T1 hT1 i1 x1 hx1 => ⟨_, [12], (eg_name (by simp)), ?_⟩) ?_)
      · show Ss _ _ [.mu false a (.any StOk), .da ((eT PyData.int) urn), .da (PyData.int added_v), .da ((eT PyData.int) draws_v), .no, .da (eQ (rowCh (urn) (draws_v) (added_v))), .da ((eT PyData.int) (draws_v).reverse), .da (PyData.int cut_v), .da ((eL eQ) (([draws_v, (draws_v).reverse, ((cutX draws_v (some cut_v) none) ++ (cutX draws_v none (some cut_v)))]).map fun (x9 : (List Int)) => (rowCh (urn) (x9) (added_v)))), .no, .da (PyData.int ((multi draws_v (((List.range (((urn).length : Int)).toNat)).length)).1)), .da (PyData.int ((multi draws_v (((List.range (((urn).length : Int)).toNat)).length)).2)), .da (PyData.int (x1 : Int)), .da ((eT PyData.int) (cntL urn draws_v)), .da (PyData.int (wayN urn (cntL urn draws_v) (i1))), .no] _ _
        have hlt1 := (rng_get hx1).2
        refine s_le (ρ1 := [.mu false a (.any StOk), .da ((eT PyData.int) urn), .da (PyData.int added_v), .da ((eT PyData.int) draws_v), .no, .da (eQ (rowCh (urn) (draws_v) (added_v))), .da ((eT PyData.int) (draws_v).reverse), .da (PyData.int cut_v), .da ((eL eQ) (([draws_v, (draws_v).reverse, ((cutX draws_v (some cut_v) none) ++ (cutX draws_v none (some cut_v)))]).map fun (x9 : (List Int)) => (rowCh (urn) (x9) (added_v)))), .no, .da (PyData.int ((multi draws_v (((List.range (((urn).length : Int)).toNat)).length)).1)), .da (PyData.int ((multi draws_v (((List.range (((urn).length : Int)).toNat)).length)).2)), .da (PyData.int (i1 : Int)), .da ((eT PyData.int) (cntL urn draws_v)), .da (PyData.int (wayN urn (cntL urn draws_v) (i1))), .no]) (le_rfl (by rw [(rng_get hx1).1])) ?_
        have hui := h0.2.2.1 _ (ixG_mem (l := urn) (i := (i1 : Int)) (by omega))
        have hci := cntL_ix (draws := draws_v) (show i1 < urn.length by omega)
        have hcc := List.count_le_length (a := (i1 : Int)) (l := draws_v)
        refine (s_asg (ed_I (ed_var rfl) (ed_call (ds := [(PyData.int (ixG urn (i1 : Int))), (PyData.int (ixG (cntL urn draws_v) (i1 : Int)))]) (ea_cons (ed_ixTX (ed_var rfl) (ed_var rfl) (by exact inb (by omega))) (ea_cons (ed_ixTX (ed_var rfl) (ed_var rfl) (by exact inb (by rw [cntL_len]; omega))) ea_nil)) ⟨(ixG urn (i1 : Int)), (ixG (cntL urn draws_v) (i1 : Int)), rfl, by omega, by rw [hci]; omega, rfl⟩) (by exact wayN_mul h0 (by omega))) (s_le (ρ1 := [.mu false a (.any StOk), .da ((eT PyData.int) urn), .da (PyData.int added_v), .da ((eT PyData.int) draws_v), .no, .da (eQ (rowCh (urn) (draws_v) (added_v))), .da ((eT PyData.int) (draws_v).reverse), .da (PyData.int cut_v), .da ((eL eQ) (([draws_v, (draws_v).reverse, ((cutX draws_v (some cut_v) none) ++ (cutX draws_v none (some cut_v)))]).map fun (x9 : (List Int)) => (rowCh (urn) (x9) (added_v)))), .no, .da (PyData.int ((multi draws_v (((List.range (((urn).length : Int)).toNat)).length)).1)), .da (PyData.int ((multi draws_v (((List.range (((urn).length : Int)).toNat)).length)).2)), .da (PyData.int (i1 : Int)), .da ((eT PyData.int) (cntL urn draws_v)), .da (PyData.int ((wayN urn (cntL urn draws_v) (i1)) * (chI ((ixG urn (i1 : Int))) ((ixG (cntL urn draws_v) (i1 : Int)))))), .no]) (le_rfl rfl) ?_))
        exact s_end (le_same (le_same (le_same (le_same (le_no (le_same (le_same (le_same (le_same (le_no (le_same (le_same (le_no (le_same (le_da (by rfl) (le_no le_nil))))))))))))))))
      refine s_seq (s_if (b := ((decide ((60 : Int) < (maxOf (cntL urn draws_v)))) || (decide ((60 : Int) < ((cntL urn draws_v)).sum)))) (et_or (et_test (ed_B0 (ed_maxT (ed_var rfl) (by rw [cntL_len]; omega)) ed_int)) (fun hb12 => (et_test (ed_B0 (ed_sumT (ed_var rfl)) ed_int)))) (fun hc1 => ?_) (fun hc1 => ?_))
      · exact s_retW (i := 0) (ew_det (f := PyData.bool) (x := true) ed_bl) rfl hR (fun x hx => by subst hx; exact hΦ _ rfl)
      · refine s_next ?_
        refine s_seq (s_asg (ed_ite (e := eQ) (et_test (ed_B0 (ed_sumT (ed_var rfl)) (ed_sumT (ed_var rfl)))) (fun hb13 => (ed_call (ds := [(PyData.int (wayN urn (cntL urn draws_v) (((List.range (((urn).length : Int)).toNat)).length))), (PyData.int (chI ((urn).sum) (((cntL urn draws_v)).sum)))]) (ea_cons (ed_var rfl) (ea_cons (ed_call (ds := [(PyData.int (urn).sum), (PyData.int (((cntL urn draws_v)).sum))]) (ea_cons (ed_sumT (ed_var rfl)) (ea_cons (ed_sumT (ed_var rfl)) ea_nil)) ⟨(urn).sum, ((cntL urn draws_v)).sum, rfl, by omega, by omega, rfl⟩) ea_nil)) ⟨(wayN urn (cntL urn draws_v) (((List.range (((urn).length : Int)).toNat)).length)), (chI ((urn).sum) (((cntL urn draws_v)).sum)), rfl, by have := chI_pos (n := urn.sum) (k := (cntL urn draws_v).sum) (by have := of_decide_eq_true (by assumption : decide ((cntL urn draws_v).sum ≤ urn.sum) = true); omega); omega, by exact ch_small h0 _, rfl⟩)) (fun hb13 => (ed_is (d1 := eQ (0 : Rat)) (ed_tup (ds := [PyData.int (0 : Int), PyData.int (1 : Int)]) (ea_cons ed_int (ea_cons ed_int ea_nil))) (by rfl)))) (s_le (ρ1 := [.mu false a (.any StOk), .da ((eT PyData.int) urn), .da (PyData.int added_v), .da ((eT PyData.int) draws_v), .no, .da (eQ (rowCh (urn) (draws_v) (added_v))), .da ((eT PyData.int) (draws_v).reverse), .da (PyData.int cut_v), .da ((eL eQ) (([draws_v, (draws_v).reverse, ((cutX draws_v (some cut_v) none) ++ (cutX draws_v none (some cut_v)))]).map fun (x9 : (List Int)) => (rowCh (urn) (x9) (added_v)))), .no, .da (PyData.int ((multi draws_v (((List.range (((urn).length : Int)).toNat)).length)).1)), .da (PyData.int ((multi draws_v (((List.range (((urn).length : Int)).toNat)).length)).2)), .no, .da ((eT PyData.int) (cntL urn draws_v)), .da (PyData.int (wayN urn (cntL urn draws_v) (((List.range (((urn).length : Int)).toNat)).length))), .da (eQ (if (decide (((cntL urn draws_v)).sum ≤ (urn).sum)) = true then (Rat.divInt ((wayN urn (cntL urn draws_v) (((List.range (((urn).length : Int)).toNat)).length))) ((chI ((urn).sum) (((cntL urn draws_v)).sum)))) else (0 : Rat)))]) (le_rfl rfl) ?_))
        exact s_retW (i := 0) (ew_det (f := PyData.bool) (x := ((true) && ((!decide (added_v = (-(1 : Int)))) || (decide (((rowCh (urn) (draws_v) (added_v)) * qv ((((multi draws_v (((List.range (((urn).length : Int)).toNat)).length)).1), (1 : Int)))) = (if (decide (((cntL urn draws_v)).sum ≤ (urn).sum)) = true then (Rat.divInt ((wayN urn (cntL urn draws_v) (((List.range (((urn).length : Int)).toNat)).length))) ((chI ((urn).sum) (((cntL urn draws_v)).sum)))) else (0 : Rat))))))) (ed_and (ed_call (ds := [(eQ (Rat.divInt (waysOf ((urn).zip ((cntL urn draws_v)))) (chI (urn).sum ((cntL urn draws_v)).sum))), (eQ (if (decide (((cntL urn draws_v)).sum ≤ (urn).sum)) = true then (Rat.divInt ((wayN urn (cntL urn draws_v) (((List.range (((urn).length : Int)).toNat)).length))) ((chI ((urn).sum) (((cntL urn draws_v)).sum)))) else (0 : Rat)))]) (ea_cons (ed_call (ds := [((eT PyData.int) urn), ((eT PyData.int) (cntL urn draws_v))]) (ea_cons (ed_var rfl) (ea_cons (ed_var rfl) ea_nil)) ⟨urn, (cntL urn draws_v), rfl, by exact h0, by exact cnt_ok h0 (by have := hc1; simp at this; omega), rfl⟩) (ea_cons (ed_var rfl) ea_nil)) ⟨(eQ (Rat.divInt (waysOf ((urn).zip ((cntL urn draws_v)))) (chI (urn).sum ((cntL urn draws_v)).sum))), (eQ (if (decide (((cntL urn draws_v)).sum ≤ (urn).sum)) = true then (Rat.divInt ((wayN urn (cntL urn draws_v) (((List.range (((urn).length : Int)).toNat)).length))) ((chI ((urn).sum) (((cntL urn draws_v)).sum)))) else (0 : Rat))), rfl, by exact counts_eq (by simp), by rw [counts_eq (m := urn.length) rfl]; exact ((exact_gd rfl h0).gd (by decide)).mono (by decide) (by decide), rfl⟩) (fun hb15 => (ed_or (ed_neI (ed_var rfl) (ed_neg ed_int)) (fun hb14 => (ed_eqQ (ed_is (ed_call (ds := [((eP PyData.int PyData.int) (qp (rowCh (urn) (draws_v) (added_v)))), ((eP PyData.int PyData.int) (((multi draws_v (((List.range (((urn).length : Int)).toNat)).length)).1), (1 : Int)))]) (ea_cons (ed_is (ed_var rfl) (rfl : _ = ((eP PyData.int PyData.int) (qp (rowCh (urn) (draws_v) (added_v)))))) (ea_cons (ed_tup (ds := [(PyData.int ((multi draws_v (((List.range (((urn).length : Int)).toNat)).length)).1)), (PyData.int (1 : Int))]) (ea_cons (ed_var rfl) (ea_cons ed_int ea_nil))) ea_nil)) ⟨(qp (rowCh (urn) (draws_v) (added_v))), (((multi draws_v (((List.range (((urn).length : Int)).toNat)).length)).1), (1 : Int)), rfl, by exact (hgd.qb (by decide)).pb, by exact multi_pb hmn hdl (by simp; omega), rfl⟩) (by simp only [qv_qp] : _ = (eQ ((rowCh (urn) (draws_v) (added_v)) * qv ((((multi draws_v (((List.range (((urn).length : Int)).toNat)).length)).1), (1 : Int))))))) (ed_var rfl))))))) rfl hR (fun x hx => by subst hx; exact hΦ _ (by rw [Bool.true_and]; exact rows_fin (by simp) (by simp) h0 hdr))

/-! ### _law_spread_holds -/
abbrev s_law_spread_holds : Stmt := topS 41
abbrev N_law_spread_holds : List Str := ["state", "urn", "colour", "added", "draws", "told", "mean_in", "k", "other", "one", "at", "both", "rest", "due"]
theorem sc_law_spread_holds : FnScope N_law_spread_holds ["state", "urn"] (defScope s_law_spread_holds) := ⟨rfl, rfl, rfl, by decide +kernel, rfl, by decide +kernel, by decide +kernel⟩
def R_law_spread_holds : List PyData → (PyData → Prop) → Prop := fun ds Φ => ∃ (urn : (List Int)), ds = [((eT PyData.int) urn)] ∧ (UrnOk urn) ∧ ∀ z : Bool, z = true → Φ (PyData.bool z)
set_option maxHeartbeats 4000000 in
theorem ok_law_spread_holds {P : Program} {w : World} {K : PySem.W.Frag} {mg : Str → Option Value} {base : Heap} (B : Gb mg) (F : Fd K mg "_law_spread_holds" s_law_spread_holds) (C_law_choose : Cl P w K mg base 1 "_law_choose" ["many", "few"] (SpP K R_law_choose)) (C_law_draw : Cl P w K mg base 1 "_law_draw" ["state", "many"] (SpW K R_draw)) (C_law_mul : Cl P w K mg base 2 "_law_mul" ["one", "other"] (SpP K R_law_mul)) (C_law_pick : Cl P w K mg base 2 "_law_pick" ["state", "some"] (SpW K R_pick)) (C_law_q : Cl P w K mg base 1 "_law_q" ["up", "down"] (SpP K R_law_q)) (C_law_same : Cl P w K mg base 1 "_law_same" ["actual", "due"] (SpP K R_law_same)) (C_law_sum : Cl P w K mg base 3 "_law_sum" ["rows"] (SpP K R_law_sum)) (C_spread_of : Cl P w K mg base 4 "spread_of" ["urn", "colour", "draws", "added"] (SpP K R_spread_of)) : Cl P w K mg base 5 "_law_spread_holds" ["state", "urn"] (SpW K R_law_spread_holds) := by
  obtain ⟨f, fd, F, hm⟩ := F.ex
  refine ⟨f, fd, fnG_of (k := 4) F sc_law_spread_holds (spW_len fun ds d h => ?_) (fun cdv A outer s H hr hgd => ⟨_, (pss_cons (ps_asg (pe_tupF (pa_cons (pe_cl C_law_draw (hr.mono (by decide)) hgd (by rfl) (pa_cons (pv 0) (pa_cons (pe_callB (r := rLenS K) call_len_seq (by rfl) B.len_ PySem.boot_len (pa_cons (pv 1) pa_nil)) pa_nil))) (pa_cons (pe_cl C_law_pick (hr.mono (by decide)) hgd (by rfl) (pa_cons (pv 0) (pa_cons (pe_lst (pa_cons (pe_un un_neg pe_int) (pa_cons pe_int (pa_cons pe_int (pa_cons pe_int pa_nil))))) pa_nil))) (pa_cons (pe_cl C_law_draw (hr.mono (by decide)) hgd (by rfl) (pa_cons (pv 0) (pa_cons (pe_cl C_law_pick (hr.mono (by decide)) hgd (by rfl) (pa_cons (pv 0) (pa_cons (pe_lst (pa_cons pe_int (pa_cons pe_int pa_nil))) pa_nil))) pa_nil))) pa_nil)))) (pg_tup rfl (pgs_cons (pg_name (i := 2) sc_law_spread_holds.nd rfl (Or.inr rfl)) (pgs_cons (pg_name (i := 3) sc_law_spread_holds.nd rfl (Or.inl rfl)) (pgs_cons (pg_name (i := 4) sc_law_spread_holds.nd rfl (Or.inr rfl)) pgs_nil)))) rfl) (pss_cons (ps_set (i := 4) sc_law_spread_holds.nd rfl (Or.inr rfl) (pe_ifExp (pt_cmpR (r := rEqD K) (op_eqD hr.units) (pv 3) (pe_un un_neg pe_int) (nomark _)) (pe_callB (r := rMinT K) (cr_minT rfl) (by rfl) B.min_ (by decide +kernel) (pa_cons (pe_lst (pa_cons (pv 4) (pa_cons (pe_callB (r := rSumT K) (cr_sumT rfl) (by rfl) B.sum_ (by decide +kernel) (pa_cons (pv 1) pa_nil)) pa_nil))) pa_nil)) (pv 4))) (pss_cons (ps_set (i := 5) sc_law_spread_holds.nd rfl (Or.inr rfl) (pe_cl C_spread_of (hr.mono (by decide)) hgd (by rfl) (pa_cons (pv 1) (pa_cons (pv 2) (pa_cons (pv 4) (pa_cons (pv 3) pa_nil)))))) (pss_cons (ps_set (i := 6) sc_law_spread_holds.nd rfl (Or.inl rfl) (pe_cl C_law_sum (hr.mono (by decide)) hgd (by rfl) (pa_cons (pe_lc (own := [("k", 7)]) (g := _) (tt := tYes) rfl sc_law_spread_holds.nd (pi_range1 (by rfl) B.range_ (pa_cons (pe_callB (r := rLenS K) call_len_seq (by rfl) B.len_ PySem.boot_len (pa_cons (pv 5) pa_nil)) pa_nil)) (blkOk_by (N := N_law_spread_holds) (sc := defScope s_law_spread_holds) (by decide +kernel)) (fun _ _ _ _ _ => (pg_name (i := 7) sc_law_spread_holds.nd rfl (Or.inl rfl))) (fun _ _ _ _ _ => pts_nil) (fun _ _ _ _ _ => (pe_cl C_law_mul (hr.mono (by decide)) hgd (by rfl) (pa_cons (pe_ix (r := rIxT K) ix_tup (pv 5) (pv 7) (fun _ _ => rfl)) (pa_cons (pe_tupF (pa_cons (pv 7) (pa_cons pe_int pa_nil))) pa_nil))))) pa_nil))) (pss_cons (ps_if (PW.pt (pw_or (pt_cmpR (r := rNeD K) (op_neD hr.units) (pe_callB (r := rLenS K) call_len_seq (by rfl) B.len_ PySem.boot_len (pa_cons (pv 5) pa_nil)) (pe_op op_add (pv 4) pe_int) (nomark _)) (pw_or (pt_cmpR (r := rNeD K) (op_neD hr.units) (pe_cl C_law_sum (hr.mono (by decide)) hgd (by rfl) (pa_cons (pv 5) pa_nil)) (pe_tupF (pa_cons pe_int (pa_cons pe_int pa_nil))) (nomark _)) (pw_or1 (pt_cmpR (r := rNeD K) (op_neD hr.units) (pv 6) (pe_cl C_law_q (hr.mono (by decide)) hgd (by rfl) (pa_cons (pe_op op_mulG (pv 4) (pe_ix (r := rIxT K) ix_tup (pv 1) (pv 2) (fun _ _ => rfl))) (pa_cons (pe_callB (r := rSumT K) (cr_sumT rfl) (by rfl) B.sum_ (by decide +kernel) (pa_cons (pv 1) pa_nil)) pa_nil))) (nomark _)))))) pss_never pss_nil) (pss_cons (ps_set (i := 8) sc_law_spread_holds.nd rfl (Or.inr rfl) (pe_op op_mod (pe_callTy call_int1 (by rfl) B.int_ PyProof.Rows.boot_int (pa_cons (pe_op op_add (pv 2) pe_int) pa_nil)) (pe_callB (r := rLenS K) call_len_seq (by rfl) B.len_ PySem.boot_len (pa_cons (pv 1) pa_nil)))) (pss_cons (ps_if (PW.pt (pw_or (pt_cmpR op_lt (pe_callB (r := rLenS K) call_len_seq (by rfl) B.len_ PySem.boot_len (pa_cons (pv 1) pa_nil)) pe_int (nomark _)) (pw_or (pt_cmpR op_gt (pe_op op_add (pe_ix (r := rIxT K) ix_tup (pv 1) (pv 2) (fun _ _ => rfl)) (pe_ix (r := rIxT K) ix_tup (pv 1) (pv 8) (fun _ _ => rfl))) pe_int (nomark _)) (pw_or (pt_cmpR op_gt (pv 4) pe_int (nomark _)) (pw_or1 (pt_cmpR (r := rNeD K) (op_neD hr.units) (pv 3) (pe_un un_neg pe_int) (nomark _))))))) (pss_one (ps_ret pe_bl)) pss_nil) (pss_cons (ps_set (i := 9) sc_law_spread_holds.nd rfl (Or.inl rfl) (pe_callTy (r := rTupOf K) call_tupleF (by rfl) B.tuple_ PyProof.Rows.boot_tuple (pa_cons (pe_lc (own := [("k", 7)]) (g := _) (tt := _) rfl sc_law_spread_holds.nd (pi_range1 (by rfl) B.range_ (pa_cons (pe_callB (r := rLenS K) call_len_seq (by rfl) B.len_ PySem.boot_len (pa_cons (pv 1) pa_nil)) pa_nil)) (blkOk_by (N := N_law_spread_holds) (sc := defScope s_law_spread_holds) (by decide +kernel)) (fun _ _ _ _ _ => (pg_name (i := 7) sc_law_spread_holds.nd rfl (Or.inl rfl))) (fun _ _ _ _ _ => (pts_one (pt_cmpR (r := rNeD K) (op_neD hr.units) (pv 7) (pv 8) (nomark _)))) (fun _ _ _ _ _ => (pe_op op_add (pe_ix (r := rIxT K) ix_tup (pv 1) (pv 7) (fun _ _ => rfl)) (pe_ifExp (pt_cmpR (r := rEqD K) (op_eqD hr.units) (pv 7) (pv 2) (nomark _)) (pe_ix (r := rIxT K) ix_tup (pv 1) (pv 8) (fun _ _ => rfl)) pe_int)))) pa_nil))) (pss_cons (ps_set (i := 10) sc_law_spread_holds.nd rfl (Or.inl rfl) (pe_op op_sub (pv 2) (pe_ifExp (pt_cmpR op_lt (pv 8) (pv 2) (nomark _)) pe_int pe_int))) (pss_cons (ps_set (i := 11) sc_law_spread_holds.nd rfl (Or.inl rfl) (pe_cl C_spread_of (hr.mono (by decide)) hgd (by rfl) (pa_cons (pv 9) (pa_cons (pv 10) (pa_cons (pv 4) (pa_cons (pv 3) pa_nil)))))) (pss_cons (ps_set (i := 12) sc_law_spread_holds.nd rfl (Or.inr rfl) (pe_op op_sub (pe_op op_sub (pe_callB (r := rSumT K) (cr_sumT rfl) (by rfl) B.sum_ (by decide +kernel) (pa_cons (pv 1) pa_nil)) (pe_ix (r := rIxT K) ix_tup (pv 1) (pv 2) (fun _ _ => rfl))) (pe_ix (r := rIxT K) ix_tup (pv 1) (pv 8) (fun _ _ => rfl)))) (pss_cons (ps_setLc (i := 13) (own := [("k", 7)]) (g := _) (tt := tYes) rfl sc_law_spread_holds.nd rfl rfl (sw_true rfl rfl rfl (by decide +kernel)) (pi_range1 (by rfl) B.range_ (pa_cons (pe_op op_add (pv 4) pe_int) pa_nil)) (blkOk_by (N := N_law_spread_holds) (sc := defScope s_law_spread_holds) (by decide +kernel)) (fun _ _ _ _ _ => (pg_name (i := 7) sc_law_spread_holds.nd rfl (Or.inl rfl))) (fun _ _ _ _ _ => pts_nil) (fun _ _ _ _ _ => (pe_cl C_law_q (hr.mono (by decide)) hgd (by rfl) (pa_cons (pe_op op_mulG (pe_cl C_law_choose (hr.mono (by decide)) hgd (by rfl) (pa_cons (pe_op op_add (pe_ix (r := rIxT K) ix_tup (pv 1) (pv 2) (fun _ _ => rfl)) (pe_ix (r := rIxT K) ix_tup (pv 1) (pv 8) (fun _ _ => rfl))) (pa_cons (pv 7) pa_nil))) (pe_cl C_law_choose (hr.mono (by decide)) hgd (by rfl) (pa_cons (pv 12) (pa_cons (pe_op op_sub (pv 4) (pv 7)) pa_nil)))) (pa_cons (pe_cl C_law_choose (hr.mono (by decide)) hgd (by rfl) (pa_cons (pe_callB (r := rSumT K) (cr_sumT rfl) (by rfl) B.sum_ (by decide +kernel) (pa_cons (pv 1) pa_nil)) (pa_cons (pv 4) pa_nil))) pa_nil))))) (pss_one (ps_ret (pe_cl C_law_same (hr.mono (by decide)) hgd (by rfl) (pa_cons (pv 11) (pa_cons (pe_callTy (r := rTupOf K) call_tupleF (by rfl) B.tuple_ PyProof.Rows.boot_tuple (pa_cons (pv 13) pa_nil)) pa_nil))))))))))))))))), fun vs Q => fn_draws (N := N_law_spread_holds) (fun ds d h => ?_) (fun B S a ds Φ h D hR => ?_) vs H Q E0⟩), hm, F.kp, F.binds fun _ _ _ _ _ _ us hl => match us, hl with | [_, _], _ => rfl⟩
  · obtain ⟨urn, rfl, h0, hΦ⟩ := h; rfl
  · obtain ⟨urn, rfl, h0, hΦ⟩ := h; simp
  · obtain ⟨urn, rfl, h0, hΦ⟩ := h
    show Ss _ _ [.mu false a (.any StOk), .da ((eT PyData.int) urn), .no, .no, .no, .no, .no, .no, .no, .no, .no, .no, .no, .no] _ _
    refine s_seq (s_asgGW (ws := [2, 3, 4]) (ρ2 := fun q3 => [.mu false a (.any StOk), .da ((eT PyData.int) urn), .da (PyData.int (q3).1), .da (PyData.int (q3).2.1), .da (PyData.int (q3).2.2), .no, .no, .no, .no, .no, .no, .no, .no, .no]) (ew_as (g := (eP3 PyData.int PyData.int PyData.int)) (R := (fun q2 => (fun x => 0 ≤ x ∧ x < ((urn).length : Int)) q2.1 ∧ (fun x => x ∈ [(-(1 : Int)), (0 : Int), (1 : Int), (7 : Int)]) q2.2.1 ∧ (fun x => ∃ m1, (fun x => x ∈ [(4 : Int), (20 : Int)]) m1 ∧ 0 ≤ x ∧ x < m1) q2.2.2)) (ew_tup (ds := fun p : Int × Int × Int × Unit => [(PyData.int p.1), (PyData.int p.2.1), (PyData.int p.2.2.1)]) (n := 3) (ewa_cons (ew_drawD (i := 0) (ed_lenTX (ed_var rfl)) rfl rfl (by have := h0.1; have := h0.2.1; omega)) (ewa_cons (ew_pickLD (i := 0) (ed_L (el_lst (ds := [(-(1 : Int)), (0 : Int), (1 : Int), (7 : Int)].map PyData.int) (ea_cons (ed_neg ed_int) (ea_cons ed_int (ea_cons ed_int (ea_cons ed_int ea_nil)))))) rfl rfl (by simp)) (ewa_cons (ew_draw (i := 0) (ew_pickLD (i := 0) (ed_L (el_lst (ds := [(4 : Int), (20 : Int)].map PyData.int) (ea_cons ed_int (ea_cons ed_int ea_nil)))) rfl rfl (by simp)) rfl rfl (by intro m hm; simp at hm; omega)) ewa_nil))) (fun _ => rfl)) (fun p hp => ⟨(p.1, p.2.1, p.2.2.1), ⟨hp.1, hp.2.1, hp.2.2.1⟩, rfl⟩)) (fun q3 hq4 => (eg_tup (egs_cons (eg_name (by simp)) (egs_cons (eg_name (by simp)) (egs_cons (eg_name (by simp)) egs_nil))))) (fun q3 hq4 => ?_))
    obtain ⟨colour_v, added_v, draws_v⟩ := q3
    obtain ⟨h_colour_v, h_added_v, h_draws_v⟩ := hq4
    refine s_le (ρ1 := [.mu false a (.any StOk), .da ((eT PyData.int) urn), .da (PyData.int colour_v), .da (PyData.int added_v), .da (PyData.int draws_v), .no, .no, .no, .no, .no, .no, .no, .no, .no]) (le_rfl rfl) ?_
    try dsimp only at h_colour_v
    try dsimp only at h_added_v
    try dsimp only at h_draws_v
    have ha : added_v = -1 ∨ added_v = 0 ∨ added_v = 1 ∨ added_v = 7 := by simpa using h_added_v
    obtain ⟨m0, hm0, hd0⟩ := h_draws_v
    have hm1 : m0 = 4 ∨ m0 = 20 := by simpa using hm0
    obtain ⟨draws_v1, h_draws_v1⟩ : ∃ z : Int, z = (drw2 added_v draws_v urn) := ⟨_, rfl⟩
    refine s_seq (s_asg (ed_is (ed_ite (e := PyData.int) (et_test (ed_eqI (ed_var rfl) (ed_neg ed_int))) (fun hb5 => (ed_minL (ed_L (el_lst (ds := [draws_v, (urn).sum].map PyData.int) (ea_cons (ed_var rfl) (ea_cons (ed_sumT (ed_var rfl)) ea_nil)))) (by simp))) (fun hb5 => (ed_var rfl))) (by rfl : _ = (PyData.int (drw2 added_v draws_v urn)))) (s_le (ρ1 := [.mu false a (.any StOk), .da ((eT PyData.int) urn), .da (PyData.int colour_v), .da (PyData.int added_v), .da (PyData.int draws_v1), .no, .no, .no, .no, .no, .no, .no, .no, .no]) (le_rfl (by subst h_draws_v1; rfl)) ?_))
    have hsp := drw2_ok (added := added_v) (draws := draws_v) h0 h_colour_v (by omega) (by omega)
    rw [← h_draws_v1] at hsp
    obtain ⟨hsp, hdl⟩ := hsp
    have hd3 := hsp.2.2.1
    have hu1 := h0.1
    have hu2 := h0.2.1
    have hsum := h0.sum_le
    have hs0 := h0.2.2.2
    have hui := urn_ix h0 h_colour_v
    have hlen := spQ_len (urn := urn) (colour := colour_v) (added := added_v) draws_v1.toNat
    have hqk := spL_qk hsp (n := draws_v1.toNat) (by omega)
    refine s_seq (s_asg (ed_call (ds := [((eT PyData.int) urn), (PyData.int colour_v), (PyData.int draws_v1), (PyData.int added_v)]) (ea_cons (ed_var rfl) (ea_cons (ed_var rfl) (ea_cons (ed_var rfl) (ea_cons (ed_var rfl) ea_nil)))) ⟨urn, colour_v, draws_v1, added_v, rfl, by exact hsp, rfl⟩) (s_le (ρ1 := [.mu false a (.any StOk), .da ((eT PyData.int) urn), .da (PyData.int colour_v), .da (PyData.int added_v), .da (PyData.int draws_v1), .da ((eT eQ) (spL (urn) (colour_v) (added_v) (draws_v1).toNat)), .no, .no, .no, .no, .no, .no, .no, .no]) (le_rfl rfl) ?_))
    refine s_seq (s_asg (ed_call (ds := [((eS eQ) (true, (((List.range ((((spL (urn) (colour_v) (added_v) (draws_v1).toNat)).length : Int)).toNat)).map fun (x6 : Nat) => ((ixG (spL (urn) (colour_v) (added_v) (draws_v1).toNat) (x6 : Int)) * qv (((x6 : Int), (1 : Int)))))))]) (ea_cons (ed_is (ed_L (el_lcAX (xs := (List.range ((((spL (urn) (colour_v) (added_v) (draws_v1).toNat)).length : Int)).toNat)) (ea := fun (i : Nat) => Itm.hard (PyData.int (i : Int))) (enc := eQ) (fb := fun (x6 : Nat) => ((ixG (spL (urn) (colour_v) (added_v) (draws_v1).toNat) (x6 : Int)) * qv (((x6 : Int), (1 : Int))))) (ei_rng (ed_lenTX (ed_var rfl)) (by omega)) (by first | (simp; done) | (simp; omega)) (by simp) (fun _ _ x6 hx6 => ⟨_, rfl, (eg_name (by simp)), (ed_is (ed_call (ds := [((eP PyData.int PyData.int) (qp (ixG (spL (urn) (colour_v) (added_v) (draws_v1).toNat) (x6 : Int)))), ((eP PyData.int PyData.int) ((x6 : Int), (1 : Int)))]) (ea_cons (ed_is (ed_ixTX (ed_var rfl) (ed_var rfl) (by exact inb (by have := List.mem_range.mp hx6; omega))) (rfl : _ = ((eP PyData.int PyData.int) (qp (ixG (spL (urn) (colour_v) (added_v) (draws_v1).toNat) (x6 : Int)))))) (ea_cons (ed_tup (ds := [(PyData.int (x6 : Int)), (PyData.int (1 : Int))]) (ea_cons (ed_var rfl) (ea_cons ed_int ea_nil))) ea_nil)) ⟨(qp (ixG (spL (urn) (colour_v) (added_v) (draws_v1).toNat) (x6 : Int))), ((x6 : Int), (1 : Int)), rfl, by exact ((hqk _ (ixQ_mem (by have := List.mem_range.mp (by assumption); omega))).qb (by omega)).pb, by exact pb_small (by have := List.mem_range.mp (by assumption); omega) (by decide) (by decide), rfl⟩) (by simp only [qv_qp] : _ = (eQ ((ixG (spL (urn) (colour_v) (added_v) (draws_v1).toNat) (x6 : Int)) * qv (((x6 : Int), (1 : Int)))))))⟩))) (rfl : _ = ((eS eQ) (true, (((List.range ((((spL (urn) (colour_v) (added_v) (draws_v1).toNat)).length : Int)).toNat)).map fun (x6 : Nat) => ((ixG (spL (urn) (colour_v) (added_v) (draws_v1).toNat) (x6 : Int)) * qv (((x6 : Int), (1 : Int))))))))) ea_nil) ⟨(true, (((List.range ((((spL (urn) (colour_v) (added_v) (draws_v1).toNat)).length : Int)).toNat)).map fun (x6 : Nat) => ((ixG (spL (urn) (colour_v) (added_v) (draws_v1).toNat) (x6 : Int)) * qv (((x6 : Int), (1 : Int)))))), rfl, by exact sp_meanpre hsp (by omega) (by omega) _, rfl⟩) (s_le (ρ1 := [.mu false a (.any StOk), .da ((eT PyData.int) urn), .da (PyData.int colour_v), .da (PyData.int added_v), .da (PyData.int draws_v1), .da ((eT eQ) (spL (urn) (colour_v) (added_v) (draws_v1).toNat)), .da (eQ (((true, (((List.range ((((spL (urn) (colour_v) (added_v) (draws_v1).toNat)).length : Int)).toNat)).map fun (x6 : Nat) => ((ixG (spL (urn) (colour_v) (added_v) (draws_v1).toNat) (x6 : Int)) * qv (((x6 : Int), (1 : Int))))))).2.sum)), .no, .no, .no, .no, .no, .no, .no]) (le_rfl rfl) ?_))
    refine s_seq (s_if (b := ((!decide ((((spL (urn) (colour_v) (added_v) (draws_v1).toNat)).length : Int) = (draws_v1 + (1 : Int)))) || ((!decide ((((false, (spL (urn) (colour_v) (added_v) (draws_v1).toNat))).2.sum) = (1 : Rat))) || (!decide ((((true, (((List.range ((((spL (urn) (colour_v) (added_v) (draws_v1).toNat)).length : Int)).toNat)).map fun (x6 : Nat) => ((ixG (spL (urn) (colour_v) (added_v) (draws_v1).toNat) (x6 : Int)) * qv (((x6 : Int), (1 : Int))))))).2.sum) = (Rat.divInt ((draws_v1 * (ixG urn colour_v))) ((urn).sum))))))) (et_or (et_test (ed_neI (ed_lenTX (ed_var rfl)) (ed_I0 (ed_var rfl) ed_int))) (fun hb8 => (et_or (et_test (ed_neQ (ed_call (ds := [((eS eQ) (false, (spL (urn) (colour_v) (added_v) (draws_v1).toNat)))]) (ea_cons (ed_is (ed_var rfl) (rfl : _ = ((eS eQ) (false, (spL (urn) (colour_v) (added_v) (draws_v1).toNat))))) ea_nil) ⟨(false, (spL (urn) (colour_v) (added_v) (draws_v1).toNat)), rfl, by exact sp_sumpre hsp (by omega) _, rfl⟩) (ed_is (d1 := eQ (1 : Rat)) (ed_tup (ds := [PyData.int (1 : Int), PyData.int (1 : Int)]) (ea_cons ed_int (ea_cons ed_int ea_nil))) (by rfl)))) (fun hb7 => (et_test (ed_neQ (ed_var rfl) (ed_call (ds := [(PyData.int (draws_v1 * (ixG urn colour_v))), (PyData.int (urn).sum)]) (ea_cons (ed_I (ed_var rfl) (ed_ixTX (ed_var rfl) (ed_var rfl) (by first | exact inb h_colour_v | exact inb ho | exact inb (by have := List.mem_range.mp (by assumption); omega))) (by first | exact mul_l (by omega) (by omega) | exact mul_r (by omega) (by omega) | exact ch_mul (by omega) (by omega))) (ea_cons (ed_sumT (ed_var rfl)) ea_nil)) ⟨(draws_v1 * (ixG urn colour_v)), (urn).sum, rfl, by omega, by exact small_lt (by omega), rfl⟩))))))) (fun hc0 => ?_) (fun hc0 => ?_))
    · exact absurd hc0 (by rw [nz_or3 (nz_ne (by omega)) (nz_ne (sp_sum hsp)) (nz_ne (sp_mean hsp (by omega)))]; simp)
    · refine s_next ?_
      obtain ⟨other_v, h_other_v⟩ : ∃ z : Int, z = ((colour_v + (1 : Int)) % ((urn).length : Int)) := ⟨_, rfl⟩
      refine s_seq (s_asg (ed_I (ed_intI (ed_I0 (ed_var rfl) ed_int)) (ed_lenTX (ed_var rfl)) (by omega)) (s_le (ρ1 := [.mu false a (.any StOk), .da ((eT PyData.int) urn), .da (PyData.int colour_v), .da (PyData.int added_v), .da (PyData.int draws_v1), .da ((eT eQ) (spL (urn) (colour_v) (added_v) (draws_v1).toNat)), .da (eQ (((true, (((List.range ((((spL (urn) (colour_v) (added_v) (draws_v1).toNat)).length : Int)).toNat)).map fun (x6 : Nat) => ((ixG (spL (urn) (colour_v) (added_v) (draws_v1).toNat) (x6 : Int)) * qv (((x6 : Int), (1 : Int))))))).2.sum)), .no, .da (PyData.int other_v), .no, .no, .no, .no, .no]) (le_rfl (by subst h_other_v; rfl)) ?_))
      have ho : 0 ≤ other_v ∧ other_v < urn.length := by subst h_other_v; exact ⟨Int.emod_nonneg _ (by omega), Int.emod_lt_of_pos _ (by omega)⟩
      refine s_seq (s_if (b := ((decide (((urn).length : Int) < (2 : Int))) || ((decide ((60 : Int) < ((ixG urn colour_v) + (ixG urn other_v)))) || ((decide ((5 : Int) < draws_v1)) || (!decide (added_v = (-(1 : Int)))))))) (et_or (et_test (ed_B0 (ed_lenTX (ed_var rfl)) ed_int)) (fun hb11 => (et_or (et_test (ed_B0 (ed_I0 (ed_ixTX (ed_var rfl) (ed_var rfl) (by first | exact inb h_colour_v | exact inb ho | exact inb (by have := List.mem_range.mp (by assumption); omega))) (ed_ixTX (ed_var rfl) (ed_var rfl) (by first | exact inb h_colour_v | exact inb ho | exact inb (by have := List.mem_range.mp (by assumption); omega)))) ed_int)) (fun hb10 => (et_or (et_test (ed_B0 (ed_var rfl) ed_int)) (fun hb9 => (et_test (ed_neI (ed_var rfl) (ed_neg ed_int))))))))) (fun hc1 => ?_) (fun hc1 => ?_))
      · exact s_retW (i := 0) (ew_det (f := PyData.bool) (x := true) ed_bl) rfl hR (fun x hx => by subst hx; exact hΦ _ rfl)
      · refine s_next ?_
        refine s_seq (s_asg (ed_is (ed_tupleL (ed_L (el_lcPX (xs := (List.range (((urn).length : Int)).toNat)) (ea := fun (i : Nat) => Itm.hard (PyData.int (i : Int))) (p := fun (x12 : Nat) => (!decide ((x12 : Int) = other_v))) (enc := PyData.int) (fb := fun (x12 : Nat) => ((ixG urn (x12 : Int)) + (if (decide ((x12 : Int) = colour_v)) = true then (ixG urn other_v) else (0 : Int)))) (ei_rng (ed_lenTX (ed_var rfl)) (by omega)) (by first | (simp; done) | (simp; omega)) (by simp) (fun _ _ x12 hx12 => ⟨_, rfl, (eg_name (by simp)), (et_test (ed_neI (ed_var rfl) (ed_var rfl))), fun hp14 => (ed_I0 (ed_ixTX (ed_var rfl) (ed_var rfl) (by first | exact inb h_colour_v | exact inb ho | exact inb (by have := List.mem_range.mp (by assumption); omega))) (ed_ite (e := PyData.int) (et_test (ed_eqI (ed_var rfl) (ed_var rfl))) (fun hb13 => (ed_ixTX (ed_var rfl) (ed_var rfl) (by first | exact inb h_colour_v | exact inb ho | exact inb (by have := List.mem_range.mp (by assumption); omega)))) (fun hb13 => ed_int)))⟩)))) (by rfl : _ = ((eT PyData.int) (oneL urn colour_v other_v)))) (s_le (ρ1 := [.mu false a (.any StOk), .da ((eT PyData.int) urn), .da (PyData.int colour_v), .da (PyData.int added_v), .da (PyData.int draws_v1), .da ((eT eQ) (spL (urn) (colour_v) (added_v) (draws_v1).toNat)), .da (eQ (((true, (((List.range ((((spL (urn) (colour_v) (added_v) (draws_v1).toNat)).length : Int)).toNat)).map fun (x6 : Nat) => ((ixG (spL (urn) (colour_v) (added_v) (draws_v1).toNat) (x6 : Int)) * qv (((x6 : Int), (1 : Int))))))).2.sum)), .no, .da (PyData.int other_v), .da ((eT PyData.int) (oneL urn colour_v other_v)), .no, .no, .no, .no]) (le_rfl rfl) ?_))
        obtain ⟨at_v, h_at_v⟩ : ∃ z : Int, z = (colour_v - (if (decide (other_v < colour_v)) = true then (1 : Int) else (0 : Int))) := ⟨_, rfl⟩
        refine s_seq (s_asg (ed_I0 (ed_var rfl) (ed_ite (e := PyData.int) (et_test (ed_B0 (ed_var rfl) (ed_var rfl))) (fun hb15 => ed_int) (fun hb15 => ed_int))) (s_le (ρ1 := [.mu false a (.any StOk), .da ((eT PyData.int) urn), .da (PyData.int colour_v), .da (PyData.int added_v), .da (PyData.int draws_v1), .da ((eT eQ) (spL (urn) (colour_v) (added_v) (draws_v1).toNat)), .da (eQ (((true, (((List.range ((((spL (urn) (colour_v) (added_v) (draws_v1).toNat)).length : Int)).toNat)).map fun (x6 : Nat) => ((ixG (spL (urn) (colour_v) (added_v) (draws_v1).toNat) (x6 : Int)) * qv (((x6 : Int), (1 : Int))))))).2.sum)), .no, .da (PyData.int other_v), .da ((eT PyData.int) (oneL urn colour_v other_v)), .da (PyData.int at_v), .no, .no, .no]) (le_rfl (by subst h_at_v; rfl)) ?_))
        have hc := hc1
        simp only [Bool.or_eq_false_iff, decide_eq_false_iff_not, Bool.not_eq_false', decide_eq_true_eq] at hc
        obtain ⟨hc2, hc3, hc4, hc5⟩ := hc
        have hne : other_v ≠ colour_v := (next_ne (x := 0) h_colour_v (by omega) (by omega) (by rw [h_other_v, Int.add_zero])).2.2
        have hone := one_ok h0 h_colour_v ho hne (by omega) h_at_v
        obtain ⟨ho1, ho2, ho3, ho4⟩ := hone
        have hsp2 : SpOk (oneL urn colour_v other_v) at_v draws_v1 added_v := ⟨ho1, ho2, hd3, by omega, fun _ => by have := hsp.2.2.2.2 (by omega); omega⟩
        refine s_seq (s_asg (ed_call (ds := [((eT PyData.int) (oneL urn colour_v other_v)), (PyData.int at_v), (PyData.int draws_v1), (PyData.int added_v)]) (ea_cons (ed_var rfl) (ea_cons (ed_var rfl) (ea_cons (ed_var rfl) (ea_cons (ed_var rfl) ea_nil)))) ⟨(oneL urn colour_v other_v), at_v, draws_v1, added_v, rfl, by exact hsp2, rfl⟩) (s_le (ρ1 := [.mu false a (.any StOk), .da ((eT PyData.int) urn), .da (PyData.int colour_v), .da (PyData.int added_v), .da (PyData.int draws_v1), .da ((eT eQ) (spL (urn) (colour_v) (added_v) (draws_v1).toNat)), .da (eQ (((true, (((List.range ((((spL (urn) (colour_v) (added_v) (draws_v1).toNat)).length : Int)).toNat)).map fun (x6 : Nat) => ((ixG (spL (urn) (colour_v) (added_v) (draws_v1).toNat) (x6 : Int)) * qv (((x6 : Int), (1 : Int))))))).2.sum)), .no, .da (PyData.int other_v), .da ((eT PyData.int) (oneL urn colour_v other_v)), .da (PyData.int at_v), .da ((eT eQ) (spL ((oneL urn colour_v other_v)) (at_v) (added_v) (draws_v1).toNat)), .no, .no]) (le_rfl rfl) ?_))
        obtain ⟨rest_v, h_rest_v⟩ : ∃ z : Int, z = (((urn).sum - (ixG urn colour_v)) - (ixG urn other_v)) := ⟨_, rfl⟩
        refine s_seq (s_asg (ed_I0 (ed_I0 (ed_sumT (ed_var rfl)) (ed_ixTX (ed_var rfl) (ed_var rfl) (by first | exact inb h_colour_v | exact inb ho | exact inb (by have := List.mem_range.mp (by assumption); omega)))) (ed_ixTX (ed_var rfl) (ed_var rfl) (by first | exact inb h_colour_v | exact inb ho | exact inb (by have := List.mem_range.mp (by assumption); omega)))) (s_le (ρ1 := [.mu false a (.any StOk), .da ((eT PyData.int) urn), .da (PyData.int colour_v), .da (PyData.int added_v), .da (PyData.int draws_v1), .da ((eT eQ) (spL (urn) (colour_v) (added_v) (draws_v1).toNat)), .da (eQ (((true, (((List.range ((((spL (urn) (colour_v) (added_v) (draws_v1).toNat)).length : Int)).toNat)).map fun (x6 : Nat) => ((ixG (spL (urn) (colour_v) (added_v) (draws_v1).toNat) (x6 : Int)) * qv (((x6 : Int), (1 : Int))))))).2.sum)), .no, .da (PyData.int other_v), .da ((eT PyData.int) (oneL urn colour_v other_v)), .da (PyData.int at_v), .da ((eT eQ) (spL ((oneL urn colour_v other_v)) (at_v) (added_v) (draws_v1).toNat)), .da (PyData.int rest_v), .no]) (le_rfl (by subst h_rest_v; rfl)) ?_))
        have hrest : 0 ≤ rest_v := by have := urn_ix ho1 ho2; omega
        have huo := urn_ix h0 ho
        refine s_seq (s_asg (ed_L (el_lcAX (xs := (List.range ((draws_v1 + (1 : Int))).toNat)) (ea := fun (i : Nat) => Itm.hard (PyData.int (i : Int))) (enc := eQ) (fb := fun (x16 : Nat) => (Rat.divInt (((chI (((ixG urn colour_v) + (ixG urn other_v))) ((x16 : Int))) * (chI (rest_v) ((draws_v1 - (x16 : Int)))))) ((chI ((urn).sum) (draws_v1))))) (ei_rng (ed_I0 (ed_var rfl) ed_int) (by omega)) (by first | (simp; done) | (simp; omega)) (by simp) (fun _ _ x16 hx16 => ⟨_, rfl, (eg_name (by simp)), (ed_call (ds := [(PyData.int ((chI (((ixG urn colour_v) + (ixG urn other_v))) ((x16 : Int))) * (chI (rest_v) ((draws_v1 - (x16 : Int)))))), (PyData.int (chI ((urn).sum) (draws_v1)))]) (ea_cons (ed_I (ed_call (ds := [(PyData.int ((ixG urn colour_v) + (ixG urn other_v))), (PyData.int (x16 : Int))]) (ea_cons (ed_I0 (ed_ixTX (ed_var rfl) (ed_var rfl) (by first | exact inb h_colour_v | exact inb ho | exact inb (by have := List.mem_range.mp (by assumption); omega))) (ed_ixTX (ed_var rfl) (ed_var rfl) (by first | exact inb h_colour_v | exact inb ho | exact inb (by have := List.mem_range.mp (by assumption); omega)))) (ea_cons (ed_var rfl) ea_nil)) ⟨((ixG urn colour_v) + (ixG urn other_v)), (x16 : Int), rfl, by first | omega | (have := List.mem_range.mp (by assumption); omega), by first | omega | (have := List.mem_range.mp (by assumption); omega), rfl⟩) (ed_call (ds := [(PyData.int rest_v), (PyData.int (draws_v1 - (x16 : Int)))]) (ea_cons (ed_var rfl) (ea_cons (ed_I0 (ed_var rfl) (ed_var rfl)) ea_nil)) ⟨rest_v, (draws_v1 - (x16 : Int)), rfl, by first | omega | (have := List.mem_range.mp (by assumption); omega), by first | omega | (have := List.mem_range.mp (by assumption); omega), rfl⟩) (by first | exact mul_l (by omega) (by omega) | exact mul_r (by omega) (by omega) | exact ch_mul (by omega) (by omega))) (ea_cons (ed_call (ds := [(PyData.int (urn).sum), (PyData.int draws_v1)]) (ea_cons (ed_sumT (ed_var rfl)) (ea_cons (ed_var rfl) ea_nil)) ⟨(urn).sum, draws_v1, rfl, by first | omega | (have := List.mem_range.mp (by assumption); omega), by first | omega | (have := List.mem_range.mp (by assumption); omega), rfl⟩) ea_nil)) ⟨((chI (((ixG urn colour_v) + (ixG urn other_v))) ((x16 : Int))) * (chI (rest_v) ((draws_v1 - (x16 : Int))))), (chI ((urn).sum) (draws_v1)), rfl, by have := chI_pos (n := urn.sum) (k := draws_v1) (by have := hsp.2.2.2.2 (by omega); omega); omega, by exact ch_small h0 _, rfl⟩)⟩))) (s_le (ρ1 := [.mu false a (.any StOk), .da ((eT PyData.int) urn), .da (PyData.int colour_v), .da (PyData.int added_v), .da (PyData.int draws_v1), .da ((eT eQ) (spL (urn) (colour_v) (added_v) (draws_v1).toNat)), .da (eQ (((true, (((List.range ((((spL (urn) (colour_v) (added_v) (draws_v1).toNat)).length : Int)).toNat)).map fun (x6 : Nat) => ((ixG (spL (urn) (colour_v) (added_v) (draws_v1).toNat) (x6 : Int)) * qv (((x6 : Int), (1 : Int))))))).2.sum)), .no, .da (PyData.int other_v), .da ((eT PyData.int) (oneL urn colour_v other_v)), .da (PyData.int at_v), .da ((eT eQ) (spL ((oneL urn colour_v other_v)) (at_v) (added_v) (draws_v1).toNat)), .da (PyData.int rest_v), .da ((eL eQ) (((List.range ((draws_v1 + (1 : Int))).toNat)).map fun (x16 : Nat) => (Rat.divInt (((chI (((ixG urn colour_v) + (ixG urn other_v))) ((x16 : Int))) * (chI (rest_v) ((draws_v1 - (x16 : Int)))))) ((chI ((urn).sum) (draws_v1))))))]) (le_rfl rfl) ?_))
        exact s_retW (i := 0) (ew_det (f := PyData.bool) (x := (true)) (ed_call (ds := [((eT eQ) (spL ((oneL urn colour_v other_v)) (at_v) (added_v) (draws_v1).toNat)), ((eT eQ) (((List.range ((draws_v1 + (1 : Int))).toNat)).map fun (x16 : Nat) => (Rat.divInt (((chI (((ixG urn colour_v) + (ixG urn other_v))) ((x16 : Int))) * (chI (rest_v) ((draws_v1 - (x16 : Int)))))) ((chI ((urn).sum) (draws_v1))))))]) (ea_cons (ed_var rfl) (ea_cons (ed_tupleL (ed_var rfl)) ea_nil)) ⟨((eT eQ) (spL ((oneL urn colour_v other_v)) (at_v) (added_v) (draws_v1).toNat)), ((eT eQ) (((List.range ((draws_v1 + (1 : Int))).toNat)).map fun (x16 : Nat) => (Rat.divInt (((chI (((ixG urn colour_v) + (ixG urn other_v))) ((x16 : Int))) * (chI (rest_v) ((draws_v1 - (x16 : Int)))))) ((chI ((urn).sum) (draws_v1)))))), rfl, by exact congrArg (eT eQ) (sp_both hsp2 (by omega) ho3 ho4 h_rest_v), by exact sp_gd hsp2, rfl⟩)) rfl hR (fun x hx => by subst hx; exact hΦ _ rfl)

/-! ### _law_waits_hold -/
abbrev s_law_waits_hold : Stmt := topS 42
abbrev N_law_waits_hold : List Str := ["state", "urn", "colour", "whole", "own", "many", "due", "part", "first", "k", "other"]
theorem sc_law_waits_hold : FnScope N_law_waits_hold ["state", "urn"] (defScope s_law_waits_hold) := ⟨rfl, rfl, rfl, by decide +kernel, rfl, by decide +kernel, by decide +kernel⟩
def R_law_waits_hold : List PyData → (PyData → Prop) → Prop := fun ds Φ => ∃ (urn : (List Int)), ds = [((eT PyData.int) urn)] ∧ (UrnOk urn) ∧ ∀ z : Bool, z = true → Φ (PyData.bool z)
set_option maxHeartbeats 4000000 in
theorem ok_law_waits_hold {P : Program} {w : World} {K : PySem.W.Frag} {mg : Str → Option Value} {base : Heap} (B : Gb mg) (F : Fd K mg "_law_waits_hold" s_law_waits_hold) (C_law_choose : Cl P w K mg base 1 "_law_choose" ["many", "few"] (SpP K R_law_choose)) (C_law_draw : Cl P w K mg base 1 "_law_draw" ["state", "many"] (SpW K R_draw)) (C_law_q : Cl P w K mg base 1 "_law_q" ["up", "down"] (SpP K R_law_q)) (C_law_same : Cl P w K mg base 1 "_law_same" ["actual", "due"] (SpP K R_law_same)) (C_law_sum : Cl P w K mg base 3 "_law_sum" ["rows"] (SpP K R_law_sum)) (C_first_drawn : Cl P w K mg base 4 "first_drawn" ["urn", "colour"] (SpP K R_first_drawn)) (C_gone_first : Cl P w K mg base 3 "gone_first" ["urn", "one", "other"] (SpP K R_gone_first)) (C_last_colour : Cl P w K mg base 3 "last_colour" ["urn"] (SpP K R_last_colour)) (C_mean_wait : Cl P w K mg base 3 "mean_wait" ["urn", "colour", "many"] (SpP K R_mean_wait)) : Cl P w K mg base 5 "_law_waits_hold" ["state", "urn"] (SpW K R_law_waits_hold) := by
  obtain ⟨f, fd, F, hm⟩ := F.ex
  refine ⟨f, fd, fnG_of (k := 4) F sc_law_waits_hold (spW_len fun ds d h => ?_) (fun cdv A outer s H hr hgd => ⟨_, (pss_cons (ps_asg (pe_tupF (pa_cons (pe_cl C_law_draw (hr.mono (by decide)) hgd (by rfl) (pa_cons (pv 0) (pa_cons (pe_callB (r := rLenS K) call_len_seq (by rfl) B.len_ PySem.boot_len (pa_cons (pv 1) pa_nil)) pa_nil))) (pa_cons (pe_callB (r := rSumT K) (cr_sumT rfl) (by rfl) B.sum_ (by decide +kernel) (pa_cons (pv 1) pa_nil)) pa_nil))) (pg_tup rfl (pgs_cons (pg_name (i := 2) sc_law_waits_hold.nd rfl (Or.inl rfl)) (pgs_cons (pg_name (i := 3) sc_law_waits_hold.nd rfl (Or.inr rfl)) pgs_nil))) rfl) (pss_cons (ps_set (i := 4) sc_law_waits_hold.nd rfl (Or.inr rfl) (pe_ix (r := rIxT K) ix_tup (pv 1) (pv 2) (fun _ _ => rfl))) (pss_cons (ps_set (i := 5) sc_law_waits_hold.nd rfl (Or.inl rfl) (pe_cl C_law_draw (hr.mono (by decide)) hgd (by rfl) (pa_cons (pv 0) (pa_cons (pe_callB (r := rMinT K) (cr_minT rfl) (by rfl) B.min_ (by decide +kernel) (pa_cons (pe_lst (pa_cons pe_int (pa_cons (pe_op op_add (pv 4) pe_int) pa_nil))) pa_nil)) pa_nil)))) (pss_cons (ps_set (i := 6) sc_law_waits_hold.nd rfl (Or.inl rfl) (pe_ifExp (pt_cmpR op_gt (pv 5) (pv 4) (nomark _)) pe_non (pe_cl C_law_q (hr.mono (by decide)) hgd (by rfl) (pa_cons (pe_op op_mulG (pv 5) (pe_op op_add (pv 3) pe_int)) (pa_cons (pe_op op_add (pv 4) pe_int) pa_nil))))) (pss_cons (ps_if (pt_not (pt_truth (pe_cl C_law_same (hr.mono (by decide)) hgd (by rfl) (pa_cons (pe_lst (pa_cons (pe_cl C_mean_wait (hr.mono (by decide)) hgd (by rfl) (pa_cons (pv 1) (pa_cons (pv 2) (pa_cons (pv 5) pa_nil)))) (pa_cons (pe_cl C_last_colour (hr.mono (by decide)) hgd (by rfl) (pa_cons (pv 1) pa_nil)) pa_nil))) (pa_cons (pe_lst (pa_cons (pv 6) (pa_cons (pe_callTy (r := rTupOf K) call_tupleF (by rfl) B.tuple_ PyProof.Rows.boot_tuple (pa_cons (pe_lc (own := [("part", 7)]) (g := _) (tt := tYes) rfl sc_law_waits_hold.nd (pi_tup (pv 1)) (blkOk_by (N := N_law_waits_hold) (sc := defScope s_law_waits_hold) (by decide +kernel)) (fun _ _ _ _ _ => (pg_name (i := 7) sc_law_waits_hold.nd rfl (Or.inl rfl))) (fun _ _ _ _ _ => pts_nil) (fun _ _ _ _ _ => (pe_cl C_law_q (hr.mono (by decide)) hgd (by rfl) (pa_cons (pv 7) (pa_cons (pv 3) pa_nil))))) pa_nil)) pa_nil))) pa_nil))) (fun _ => rfl))) pss_never pss_nil) (pss_cons (ps_set (i := 8) sc_law_waits_hold.nd rfl (Or.inl rfl) (pe_ifExp (pt_cmpR op_gt (pv 4) pe_int (nomark _)) (pe_callTy (r := rTupOf K) call_tupleF (by rfl) B.tuple_ PyProof.Rows.boot_tuple (pa_cons (pe_lc (own := [("k", 9)]) (g := _) (tt := tYes) rfl sc_law_waits_hold.nd (pi_range1 (by rfl) B.range_ (pa_cons (pe_op op_add (pe_op op_sub (pv 3) (pv 4)) pe_int) pa_nil)) (blkOk_by (N := N_law_waits_hold) (sc := defScope s_law_waits_hold) (by decide +kernel)) (fun _ _ _ _ _ => (pg_name (i := 9) sc_law_waits_hold.nd rfl (Or.inl rfl))) (fun _ _ _ _ _ => pts_nil) (fun _ _ _ _ _ => (pe_cl C_law_q (hr.mono (by decide)) hgd (by rfl) (pa_cons (pe_cl C_law_choose (hr.mono (by decide)) hgd (by rfl) (pa_cons (pe_op op_sub (pe_op op_sub (pv 3) (pv 9)) pe_int) (pa_cons (pe_op op_sub (pv 4) pe_int) pa_nil))) (pa_cons (pe_cl C_law_choose (hr.mono (by decide)) hgd (by rfl) (pa_cons (pv 3) (pa_cons (pv 4) pa_nil))) pa_nil))))) pa_nil)) (pe_tupF pa_nil))) (pss_cons (ps_if (PW.pt (pw_or (pt_not (pt_truth (pe_cl C_law_same (hr.mono (by decide)) hgd (by rfl) (pa_cons (pe_cl C_first_drawn (hr.mono (by decide)) hgd (by rfl) (pa_cons (pv 1) (pa_cons (pv 2) pa_nil))) (pa_cons (pv 8) pa_nil))) (fun _ => rfl))) (pw_or1 (PW.pt (pw_and (pt_truth (pv 8) (fun _ => rfl)) (pw_and (pt_cmpR op_lt (pv 3) pe_int (nomark _)) (pw_and1 (pt_cmpR (r := rNeD K) (op_neD hr.units) (pe_cl C_law_sum (hr.mono (by decide)) hgd (by rfl) (pa_cons (pv 8) pa_nil)) (pe_tupF (pa_cons pe_int (pa_cons pe_int pa_nil))) (nomark _))))))))) pss_never pss_nil) (pss_cons (ps_if (pt_cmpR op_lt (pe_callB (r := rLenS K) call_len_seq (by rfl) B.len_ PySem.boot_len (pa_cons (pv 1) pa_nil)) pe_int (nomark _)) (pss_one (ps_ret pe_bl)) pss_nil) (pss_cons (ps_set (i := 10) sc_law_waits_hold.nd rfl (Or.inl rfl) (pe_op op_mod (pe_callTy call_int1 (by rfl) B.int_ PyProof.Rows.boot_int (pa_cons (pe_op op_add (pe_op op_add (pv 2) pe_int) (pe_cl C_law_draw (hr.mono (by decide)) hgd (by rfl) (pa_cons (pv 0) (pa_cons (pe_op op_sub (pe_callB (r := rLenS K) call_len_seq (by rfl) B.len_ PySem.boot_len (pa_cons (pv 1) pa_nil)) pe_int) pa_nil)))) pa_nil)) (pe_callB (r := rLenS K) call_len_seq (by rfl) B.len_ PySem.boot_len (pa_cons (pv 1) pa_nil)))) (pss_cons (ps_if (pt_cmpR (r := rEqD K) (op_eqD hr.units) (pe_op op_add (pv 4) (pe_ix (r := rIxT K) ix_tup (pv 1) (pv 10) (fun _ _ => rfl))) pe_int (nomark _)) (pss_one (ps_ret pe_bl)) pss_nil) (pss_one (ps_ret (pe_cl C_law_same (hr.mono (by decide)) hgd (by rfl) (pa_cons (pe_cl C_gone_first (hr.mono (by decide)) hgd (by rfl) (pa_cons (pv 1) (pa_cons (pv 2) (pa_cons (pv 10) pa_nil)))) (pa_cons (pe_cl C_law_q (hr.mono (by decide)) hgd (by rfl) (pa_cons (pe_ix (r := rIxT K) ix_tup (pv 1) (pv 10) (fun _ _ => rfl)) (pa_cons (pe_op op_add (pv 4) (pe_ix (r := rIxT K) ix_tup (pv 1) (pv 10) (fun _ _ => rfl))) pa_nil))) pa_nil))))))))))))))), fun vs Q => fn_draws (N := N_law_waits_hold) (fun ds d h => ?_) (fun B S a ds Φ h D hR => ?_) vs H Q E0⟩), hm, F.kp, F.binds fun _ _ _ _ _ _ us hl => match us, hl with | [_, _], _ => rfl⟩
  · obtain ⟨urn, rfl, h0, hΦ⟩ := h; rfl
  · obtain ⟨urn, rfl, h0, hΦ⟩ := h; simp
  · obtain ⟨urn, rfl, h0, hΦ⟩ := h
    show Ss _ _ [.mu false a (.any StOk), .da ((eT PyData.int) urn), .no, .no, .no, .no, .no, .no, .no, .no, .no] _ _
    refine s_seq (s_asgGW (ws := [2, 3]) (ρ2 := fun q2 => [.mu false a (.any StOk), .da ((eT PyData.int) urn), .da (PyData.int (q2).1), .da (PyData.int (q2).2), .no, .no, .no, .no, .no, .no, .no]) (ew_as (g := (eP PyData.int PyData.int)) (R := (fun q1 => (fun x => 0 ≤ x ∧ x < ((urn).length : Int)) q1.1 ∧ (fun y => y = (urn).sum) q1.2)) (ew_tup (ds := fun p : Int × Int × Unit => [(PyData.int p.1), (PyData.int p.2.1)]) (n := 2) (ewa_cons (ew_drawD (i := 0) (ed_lenTX (ed_var rfl)) rfl rfl (by have := h0.1; have := h0.2.1; omega)) (ewa_cons (ew_det (f := PyData.int) (x := (urn).sum) (ed_sumT (ed_var rfl))) ewa_nil)) (fun _ => rfl)) (fun p hp => ⟨(p.1, p.2.1), ⟨hp.1, hp.2.1⟩, rfl⟩)) (fun q2 hq3 => (eg_tup (egs_cons (eg_name (by simp)) (egs_cons (eg_name (by simp)) egs_nil)))) (fun q2 hq3 => ?_))
    obtain ⟨colour_v, whole_v⟩ := q2
    obtain ⟨h_colour_v, h_whole_v⟩ := hq3
    refine s_le (ρ1 := [.mu false a (.any StOk), .da ((eT PyData.int) urn), .da (PyData.int colour_v), .da (PyData.int whole_v), .no, .no, .no, .no, .no, .no, .no]) (le_rfl rfl) ?_
    try dsimp only at h_colour_v
    try dsimp only at h_whole_v
    have hu1 := h0.1
    have hu2 := h0.2.1
    have hsum := h0.sum_le
    have hs0 := h0.2.2.2
    have hui := urn_ix h0 h_colour_v
    obtain ⟨own_v, h_own_v⟩ : ∃ z : Int, z = (ixG urn colour_v) := ⟨_, rfl⟩
    refine s_seq (s_asg (ed_ixTX (ed_var rfl) (ed_var rfl) (by exact inb h_colour_v)) (s_le (ρ1 := [.mu false a (.any StOk), .da ((eT PyData.int) urn), .da (PyData.int colour_v), .da (PyData.int whole_v), .da (PyData.int own_v), .no, .no, .no, .no, .no, .no]) (le_rfl (by subst h_own_v; rfl)) ?_))
    have how : 0 ≤ own_v ∧ own_v ≤ whole_v ∧ whole_v ≤ 360 := by omega
    refine s_seq (s_asgW (ew_drawD (i := 0) (ed_minL (ed_L (el_lst (ds := [(60 : Int), (own_v + (2 : Int))].map PyData.int) (ea_cons ed_int (ea_cons (ed_I0 (ed_var rfl) ed_int) ea_nil)))) (by simp)) rfl rfl (by have hm2 := min_two (a := 60) (b := own_v + 2); omega)) (fun many_v h_many_v => s_le (ρ1 := [.mu false a (.any StOk), .da ((eT PyData.int) urn), .da (PyData.int colour_v), .da (PyData.int whole_v), .da (PyData.int own_v), .da (PyData.int many_v), .no, .no, .no, .no, .no]) (le_rfl rfl) ?_))
    try dsimp only at h_many_v
    have hm2 := min_two (a := 60) (b := own_v + 2)
    have hm : 0 ≤ many_v ∧ many_v ≤ 60 := by omega
    refine s_seq (s_asg (ed_is (ed_ite (e := (eO eQ)) (et_test (ed_B0 (ed_var rfl) (ed_var rfl))) (fun hb4 => (ed_is ed_non (rfl : _ = ((eO eQ) (none : (Option Rat)))))) (fun hb4 => (ed_is (ed_call (ds := [(PyData.int (many_v * (whole_v + (1 : Int)))), (PyData.int (own_v + (1 : Int)))]) (ea_cons (ed_I (ed_var rfl) (ed_I0 (ed_var rfl) ed_int) (by exact mul_l (by omega) (by omega))) (ea_cons (ed_I0 (ed_var rfl) ed_int) ea_nil)) ⟨(many_v * (whole_v + (1 : Int))), (own_v + (1 : Int)), rfl, by omega, by exact small_lt (by omega), rfl⟩) (rfl : _ = ((eO eQ) (some (Rat.divInt ((many_v * (whole_v + (1 : Int)))) ((own_v + (1 : Int)))))))))) (by rfl : _ = ((eO eQ) (lawDue own_v many_v whole_v)))) (s_le (ρ1 := [.mu false a (.any StOk), .da ((eT PyData.int) urn), .da (PyData.int colour_v), .da (PyData.int whole_v), .da (PyData.int own_v), .da (PyData.int many_v), .da ((eO eQ) (lawDue own_v many_v whole_v)), .no, .no, .no, .no]) (le_rfl rfl) ?_))
    refine s_seq (s_if (b := (!(true))) (et_not (et_truB (ed_call (ds := [((eL id) [((eO eQ) (meanW (urn) (colour_v) (many_v))), ((eT eQ) (((urn).map fun many => Rat.divInt many (urn).sum)))]), ((eL id) [((eO eQ) (lawDue own_v many_v whole_v)), ((eT eQ) ((urn).map fun (x5 : Int) => (Rat.divInt (x5) (whole_v))))])]) (ea_cons (ed_L (el_lst (ds := [((eO eQ) (meanW (urn) (colour_v) (many_v))), ((eT eQ) (((urn).map fun many => Rat.divInt many (urn).sum)))].map id) (ea_cons (ed_call (ds := [((eT PyData.int) urn), (PyData.int colour_v), (PyData.int many_v)]) (ea_cons (ed_var rfl) (ea_cons (ed_var rfl) (ea_cons (ed_var rfl) ea_nil))) ⟨urn, colour_v, many_v, rfl, by exact h0, by exact h_colour_v, by exact hm, rfl⟩) (ea_cons (ed_call (ds := [((eT PyData.int) urn)]) (ea_cons (ed_var rfl) ea_nil) ⟨urn, rfl, by exact h0, rfl⟩) ea_nil)))) (ea_cons (ed_L (el_lst (ds := [((eO eQ) (lawDue own_v many_v whole_v)), ((eT eQ) ((urn).map fun (x5 : Int) => (Rat.divInt (x5) (whole_v))))].map id) (ea_cons (ed_var rfl) (ea_cons (ed_tupleL (ed_L (el_lcAX (xs := urn) (ea := fun x => Itm.hard (PyData.int x)) (enc := eQ) (fb := fun (x5 : Int) => (Rat.divInt (x5) (whole_v))) (ei_tupX (ed_var rfl)) (by first | omega | (simp; omega)) (by simp) (fun _ _ x5 hx5 => ⟨_, rfl, (eg_name (by simp)), (ed_call (ds := [(PyData.int x5), (PyData.int whole_v)]) (ea_cons (ed_var rfl) (ea_cons (ed_var rfl) ea_nil)) ⟨x5, whole_v, rfl, by omega, by exact small_lt (by omega), rfl⟩)⟩)))) ea_nil)))) ea_nil)) ⟨((eL id) [((eO eQ) (meanW (urn) (colour_v) (many_v))), ((eT eQ) (((urn).map fun many => Rat.divInt many (urn).sum)))]), ((eL id) [((eO eQ) (lawDue own_v many_v whole_v)), ((eT eQ) ((urn).map fun (x5 : Int) => (Rat.divInt (x5) (whole_v))))]), rfl, by exact waits_eq h_whole_v h_own_v, by exact waits_gd h0 h_colour_v hm, rfl⟩))) (fun hc0 => ?_) (fun hc0 => ?_))
    · exact absurd hc0 (by simp)
    · refine s_next ?_
      refine s_seq (s_asg (ed_is (ed_ite (e := (eT eQ)) (et_test (ed_B0 (ed_var rfl) ed_int)) (fun hb6 => (ed_tupleL (ed_L (el_lcAX (xs := (List.range (((whole_v - own_v) + (1 : Int))).toNat)) (ea := fun (i : Nat) => Itm.hard (PyData.int (i : Int))) (enc := eQ) (fb := fun (x7 : Nat) => (Rat.divInt ((chI (((whole_v - (x7 : Int)) - (1 : Int))) ((own_v - (1 : Int))))) ((chI (whole_v) (own_v))))) (ei_rng (ed_I0 (ed_I0 (ed_var rfl) (ed_var rfl)) ed_int) (by omega)) (by first | omega | (simp; omega)) (by simp) (fun _ _ x7 hx7 => ⟨_, rfl, (eg_name (by simp)), (ed_call (ds := [(PyData.int (chI (((whole_v - (x7 : Int)) - (1 : Int))) ((own_v - (1 : Int))))), (PyData.int (chI (whole_v) (own_v)))]) (ea_cons (ed_call (ds := [(PyData.int ((whole_v - (x7 : Int)) - (1 : Int))), (PyData.int (own_v - (1 : Int)))]) (ea_cons (ed_I0 (ed_I0 (ed_var rfl) (ed_var rfl)) ed_int) (ea_cons (ed_I0 (ed_var rfl) ed_int) ea_nil)) ⟨((whole_v - (x7 : Int)) - (1 : Int)), (own_v - (1 : Int)), rfl, by first | omega | (have := List.mem_range.mp (by assumption); have := of_decide_eq_true (by assumption : decide (0 < own_v) = true); omega), by first | omega | (have := List.mem_range.mp (by assumption); have := of_decide_eq_true (by assumption : decide (0 < own_v) = true); omega), rfl⟩) (ea_cons (ed_call (ds := [(PyData.int whole_v), (PyData.int own_v)]) (ea_cons (ed_var rfl) (ea_cons (ed_var rfl) ea_nil)) ⟨whole_v, own_v, rfl, by first | omega | (have := List.mem_range.mp (by assumption); have := of_decide_eq_true (by assumption : decide (0 < own_v) = true); omega), by first | omega | (have := List.mem_range.mp (by assumption); have := of_decide_eq_true (by assumption : decide (0 < own_v) = true); omega), rfl⟩) ea_nil)) ⟨(chI (((whole_v - (x7 : Int)) - (1 : Int))) ((own_v - (1 : Int)))), (chI (whole_v) (own_v)), rfl, by have := chI_pos (n := whole_v) (k := own_v) (by omega); omega, by rw [h_whole_v]; exact ch_small h0 _, rfl⟩)⟩))))) (fun hb6 => (ed_tup (ds := []) ea_nil))) (by rfl : _ = ((eT eQ) (lawFirst whole_v own_v)))) (s_le (ρ1 := [.mu false a (.any StOk), .da ((eT PyData.int) urn), .da (PyData.int colour_v), .da (PyData.int whole_v), .da (PyData.int own_v), .da (PyData.int many_v), .da ((eO eQ) (lawDue own_v many_v whole_v)), .no, .da ((eT eQ) (lawFirst whole_v own_v)), .no, .no]) (le_rfl rfl) ?_))
      refine s_seq (s_if (b := ((!(true)) || ((!((lawFirst whole_v own_v)).isEmpty) && ((decide (whole_v < (61 : Int))) && (!decide ((((false, (lawFirst whole_v own_v))).2.sum) = (1 : Rat))))))) (et_or (et_not (et_truB (ed_call (ds := [((eT eQ) (firstL (urn) (colour_v))), ((eT eQ) (lawFirst whole_v own_v))]) (ea_cons (ed_call (ds := [((eT PyData.int) urn), (PyData.int colour_v)]) (ea_cons (ed_var rfl) (ea_cons (ed_var rfl) ea_nil)) ⟨urn, colour_v, rfl, by exact h0, by exact h_colour_v, rfl⟩) (ea_cons (ed_var rfl) ea_nil)) ⟨((eT eQ) (firstL (urn) (colour_v))), ((eT eQ) (lawFirst whole_v own_v)), rfl, by exact congrArg (eT eQ) (first_eq h0 h_colour_v h_whole_v h_own_v), by rw [first_eq h0 h_colour_v h_whole_v h_own_v]; exact first_gd how.1 how.2.1 how.2.2, rfl⟩))) (fun hb10 => (et_and (et_truT (ed_var rfl)) (fun hb9 => (et_and (et_test (ed_B0 (ed_var rfl) ed_int)) (fun hb8 => (et_test (ed_neQ (ed_call (ds := [((eS eQ) (false, (lawFirst whole_v own_v)))]) (ea_cons (ed_is (ed_var rfl) (rfl : _ = ((eS eQ) (false, (lawFirst whole_v own_v))))) ea_nil) ⟨(false, (lawFirst whole_v own_v)), rfl, by exact first_pre how.1 how.2.1 how.2.2 _, rfl⟩) (ed_is (d1 := eQ (1 : Rat)) (ed_tup (ds := [PyData.int (1 : Int), PyData.int (1 : Int)]) (ea_cons ed_int (ea_cons ed_int ea_nil))) (by rfl)))))))))) (fun hc1 => ?_) (fun hc1 => ?_))
      · exact absurd hc1 (by rw [first_chk how.1 how.2.1]; simp)
      · refine s_next ?_
        refine s_seq (s_if (b := (decide (((urn).length : Int) < (2 : Int)))) (et_test (ed_B0 (ed_lenTX (ed_var rfl)) ed_int)) (fun hc2 => ?_) (fun hc2 => ?_))
        · exact s_retW (i := 0) (ew_det (f := PyData.bool) (x := true) ed_bl) rfl hR (fun x hx => by subst hx; exact hΦ _ rfl)
        · refine s_next ?_
          refine s_seq (s_asgW (ew_op (e := PyData.int) (F := (fun x22 _ => (x22 % ((urn).length : Int)))) (ew_imp (R := (fun z17 => ∃ x11 y12, (fun y => y = (colour_v + (1 : Int))) x11 ∧ (fun x => 0 ≤ x ∧ x < (((urn).length : Int) - (1 : Int))) y12 ∧ z17 = (fun _ y12 => ((colour_v + (1 : Int)) + y12)) x11 y12)) (ew_cb1 (e := PyData.int) (F := (fun x18 => x18)) (ew_op (e := PyData.int) (F := (fun _ y12 => ((colour_v + (1 : Int)) + y12))) (ew_det (f := PyData.int) (x := (colour_v + (1 : Int))) (ed_I0 (ed_var rfl) ed_int)) (ew_drawD (i := 0) (ed_I0 (ed_lenTX (ed_var rfl)) ed_int) rfl rfl (by have := hc2; simp at this; omega)) (fun x11 y12 hx13 hy14 _ _ _ ha15 hb16 => by subst hx13; exact (ed_I0 ha15 hb16))) (fun x18 hx19 _ _ ha20 => (ed_intI ha20))) (fun _ ⟨_, h, e⟩ => by subst e; exact h)) (ew_det (f := PyData.int) (x := ((urn).length : Int)) (ed_lenTX (ed_var rfl))) (fun x22 y23 hx24 hy25 _ _ _ ha26 hb27 => by subst hy25; exact (ed_I ha26 hb27 (by omega)))) (fun other_v h_other_v => s_le (ρ1 := [.mu false a (.any StOk), .da ((eT PyData.int) urn), .da (PyData.int colour_v), .da (PyData.int whole_v), .da (PyData.int own_v), .da (PyData.int many_v), .da ((eO eQ) (lawDue own_v many_v whole_v)), .no, .da ((eT eQ) (lawFirst whole_v own_v)), .no, .da (PyData.int other_v)]) (le_rfl rfl) ?_))
          try dsimp only at h_other_v
          obtain ⟨x1, y1, ⟨x2, y2, hx2, hy2, hx1⟩, hy1, hv⟩ := h_other_v
          try dsimp only at hx1
          try dsimp only at hx2
          try dsimp only at hy1
          try dsimp only at hy2
          try dsimp only at hv
          have hlen : 2 ≤ urn.length := by have := hc2; simp at this; omega
          have ho := next_ne (c := colour_v) (n := (urn.length : Int)) (x := y2) (o := other_v) (by omega) (by omega) (by omega) (by first | rw [hv, hx1] | rw [hv, hx1, hy1] | rw [hv, hx1, hx2, hy1])
          have huo := urn_ix h0 ⟨ho.1, ho.2.1⟩
          refine s_seq (s_if (b := (decide ((own_v + (ixG urn other_v)) = (0 : Int)))) (et_test (ed_eqI (ed_I0 (ed_var rfl) (ed_ixTX (ed_var rfl) (ed_var rfl) (by exact inb ⟨ho.1, ho.2.1⟩))) ed_int)) (fun hc3 => ?_) (fun hc3 => ?_))
          · exact s_retW (i := 0) (ew_det (f := PyData.bool) (x := true) ed_bl) rfl hR (fun x hx => by subst hx; exact hΦ _ rfl)
          · refine s_next ?_
            exact s_retW (i := 0) (ew_det (f := PyData.bool) (x := (true)) (ed_call (ds := [(eQ (Rat.divInt (ixG (urn) (other_v)) (ixG (urn) (colour_v) + ixG (urn) (other_v)))), (eQ (Rat.divInt ((ixG urn other_v)) ((own_v + (ixG urn other_v)))))]) (ea_cons (ed_call (ds := [((eT PyData.int) urn), (PyData.int colour_v), (PyData.int other_v)]) (ea_cons (ed_var rfl) (ea_cons (ed_var rfl) (ea_cons (ed_var rfl) ea_nil))) ⟨urn, colour_v, other_v, rfl, by exact h0, by exact h_colour_v, by exact ⟨ho.1, ho.2.1⟩, by exact ho.2.2, rfl⟩) (ea_cons (ed_call (ds := [(PyData.int (ixG urn other_v)), (PyData.int (own_v + (ixG urn other_v)))]) (ea_cons (ed_ixTX (ed_var rfl) (ed_var rfl) (by exact inb ⟨ho.1, ho.2.1⟩)) (ea_cons (ed_I0 (ed_var rfl) (ed_ixTX (ed_var rfl) (ed_var rfl) (by exact inb ⟨ho.1, ho.2.1⟩))) ea_nil)) ⟨(ixG urn other_v), (own_v + (ixG urn other_v)), rfl, by simpa using hc3, by exact small_lt (by omega), rfl⟩) ea_nil)) ⟨(eQ (Rat.divInt (ixG (urn) (other_v)) (ixG (urn) (colour_v) + ixG (urn) (other_v)))), (eQ (Rat.divInt ((ixG urn other_v)) ((own_v + (ixG urn other_v))))), rfl, by rw [h_own_v], by have hz := of_decide_eq_false hc3; rw [h_own_v] at hz; exact gone_gd (by omega) (by omega) hz, rfl⟩)) rfl hR (fun x hx => by subst hx; exact hΦ _ rfl)

/-! ### law -/
abbrev s_law : Stmt := topS 43
abbrev N_law : List Str := ["script", "state", "turn", "urn"]
theorem sc_law : FnScope N_law ["script"] (defScope s_law) := ⟨rfl, rfl, rfl, by decide +kernel, rfl, by decide +kernel, by decide +kernel⟩
def R_law : List PyData → PyData → Prop := fun ds d => ∃ (script : (List Int)), ds = [((eL PyData.int) script)] ∧ (script.length ≤ 100000) ∧ d = (PyData.bool (true))
set_option maxHeartbeats 4000000 in
theorem ok_law {P : Program} {w : World} {K : PySem.W.Frag} {mg : Str → Option Value} {base : Heap} (B : Gb mg) {f : Addr} {fd : FuncData} (F : Fun K "law" "law" s_law f fd) (C_law_rows_hold : Cl P w K mg base 5 "_law_rows_hold" ["state", "urn"] (SpW K R_law_rows_hold)) (C_law_spread_holds : Cl P w K mg base 5 "_law_spread_holds" ["state", "urn"] (SpW K R_law_spread_holds)) (C_law_start : Cl P w K mg base 1 "_law_start" ["script"] (SpL K R_law_start)) (C_law_urn : Cl P w K mg base 3 "_law_urn" ["state"] (SpW K R_law_urn)) (C_law_waits_hold : Cl P w K mg base 5 "_law_waits_hold" ["state", "urn"] (SpW K R_law_waits_hold)) : FnG P w K mg base 6 f fd ["script"] (SpP K R_top) := by
  refine fnG_of (k := 5) F sc_law (spP_len fun ds d h => ?_) (fun cdv A outer s H hr hgd => ⟨_, (pss_cons (ps_set (i := 1) sc_law.nd rfl (Or.inl rfl) (pe_cl C_law_start (hr.mono (by decide)) hgd (by rfl) (pa_cons (pv 0) pa_nil))) (pss_cons (ps_for PassesOwn.never rfl (pi_range1 (by rfl) B.range_ (pa_cons pe_int pa_nil)) (pg_name (i := 2) sc_law.nd rfl (Or.inl rfl)) (pss_cons (ps_set (i := 3) sc_law.nd rfl (Or.inl rfl) (pe_cl C_law_urn (hr.mono (by decide)) hgd (by rfl) (pa_cons (pv 1) pa_nil))) (pss_one (ps_if (PW.pt (pw_or (pt_not (pt_truth (pe_cl C_law_rows_hold (hr.mono (by decide)) hgd (by rfl) (pa_cons (pv 1) (pa_cons (pv 3) pa_nil))) (fun _ => rfl))) (pw_or (pt_not (pt_truth (pe_cl C_law_spread_holds (hr.mono (by decide)) hgd (by rfl) (pa_cons (pv 1) (pa_cons (pv 3) pa_nil))) (fun _ => rfl))) (pw_or1 (pt_not (pt_truth (pe_cl C_law_waits_hold (hr.mono (by decide)) hgd (by rfl) (pa_cons (pv 1) (pa_cons (pv 3) pa_nil))) (fun _ => rfl))))))) pss_never pss_nil)))) (pss_one (ps_ret pe_bl)))), fun vs Q => fn_pure (N := N_law) (fun ds d h => ?_) (fun B S ds d h D hR hN => ?_) vs H Q E0⟩)
  · obtain ⟨script, rfl, h0, rfl⟩ := h; rfl
  · obtain ⟨script, rfl, h0, rfl⟩ := h; simp
  · obtain ⟨script, rfl, h0, rfl⟩ := h
    show Ss _ _ [.da ((eL PyData.int) script), .no, .no, .no] _ _
    refine s_seq (s_state (i := 1) (l := script) (s := seedOf script) (el_callL (ds := [((eL PyData.int) script)]) (ea_cons (ed_var rfl) ea_nil) ⟨_, rfl, by exact h0, rfl⟩) (fun p_state => s_le (ρ1 := [.da ((eL PyData.int) script), .mu true p_state (.any StOk), .no, .no]) (le_rfl rfl) ?_))
    refine s_seq (s_forX ((List.range ((2 : Int)).toNat)) (fun (i : Nat) => Itm.hard (PyData.int (i : Int))) (ei_rng ed_int (by omega)) (fun i0 => [.da ((eL PyData.int) script), .mu true p_state (.any StOk), .no, .no]) (le_same (le_same (le_no (le_no le_nil)))) (fun T0 hT0 i0 x0 hx0 => ⟨_, [2], (eg_name (by simp)), ?_⟩) ?_)
    · show Ss _ _ [.da ((eL PyData.int) script), .mu true p_state (.any StOk), .da (PyData.int (x0 : Int)), .no] _ _
      refine s_seq (s_asgW (ew_callWD (i := 1) (e := (fun l : List Int => PyData.tuple (l.map PyData.int))) (P3 := (fun z => UrnOk z)) (ds := []) (ea_raw rfl ea_nil) rfl ⟨rfl, fun z hz => ⟨z, hz, rfl⟩⟩) (fun urn_v h_urn_v => s_le (ρ1 := [.da ((eL PyData.int) script), .mu true p_state (.any StOk), .da (PyData.int (x0 : Int)), .da ((eT PyData.int) urn_v)]) (le_rfl rfl) ?_))
      try dsimp only at h_urn_v
      refine (s_ifW (A := (fun b => ((fun b => (fun z => z = true) (!b)) true ∧ b = true) ∨ ((fun b => (fun z => z = true) (!b)) false ∧ (fun b => ((fun b => (fun z => z = true) (!b)) true ∧ b = true) ∨ ((fun b => (fun z => z = true) (!b)) false ∧ (fun b => (fun z => z = true) (!b)) b)) b))) (ewt_or (ewt_not (ewt_tru (R := (fun z => z = true)) (ew_callWD (i := 1) (e := PyData.bool) (P3 := (fun z => z = true)) (ds := [((eT PyData.int) urn_v)]) (ea_raw rfl (ea_cons (ed_var rfl) ea_nil)) rfl ⟨urn_v, rfl, by assumption, fun z hz => ⟨z, hz, rfl⟩⟩) (fun _ _ => rfl) (fun _ h => h))) (fun hb2 => (ewt_or (ewt_not (ewt_tru (R := (fun z => z = true)) (ew_callWD (i := 1) (e := PyData.bool) (P3 := (fun z => z = true)) (ds := [((eT PyData.int) urn_v)]) (ea_raw rfl (ea_cons (ed_var rfl) ea_nil)) rfl ⟨urn_v, rfl, by assumption, fun z hz => ⟨z, hz, rfl⟩⟩) (fun _ _ => rfl) (fun _ h => h))) (fun hb1 => (ewt_not (ewt_tru (R := (fun z => z = true)) (ew_callWD (i := 1) (e := PyData.bool) (P3 := (fun z => z = true)) (ds := [((eT PyData.int) urn_v)]) (ea_raw rfl (ea_cons (ed_var rfl) ea_nil)) rfl ⟨urn_v, rfl, by assumption, fun z hz => ⟨z, hz, rfl⟩⟩) (fun _ _ => rfl) (fun _ h => h))))))) (fun hc0 => ?_) (fun hc0 => ?_))
      · exfalso
        try dsimp only at hc0
        simp at hc0
      · try dsimp only at hc0
        refine s_next ?_
        exact s_end (le_same (le_same (le_no (le_no le_nil))))
    exact s_retP (ew_det (f := PyData.bool) (x := true) ed_bl) (fun x hx => by subst hx; exact hR)


/-! ### what the top has written; the law -/
theorem all_mk {l : PySem.W.OpenLaw} {w : World} {K : PySem.W.Frag} {h : Heap} {mg : Str → Option Value} {fa f0 f1 f2 f3 f4 f5 f6 f7 f8 f9 f10 f11 f12 f13 f14 f15 f16 f17 f18 f19 f20 f21 f22 f23 f24 f25 f26 f27 f28 f29 f30 f31 f32 f33 : Addr} {od0 an0 od1 an1 od2 an2 od3 an3 od4 an4 od5 an5 od6 an6 od7 an7 od8 an8 od9 an9 od10 an10 od11 an11 od12 an12 od13 an13 od14 an14 od15 an15 od16 an16 od17 an17 od18 an18 od19 an19 od20 an20 od21 an21 od22 an22 od23 an23 od24 an24 od25 an25 od26 an26 od27 an27 od28 an28 od29 an29 od30 an30 od31 an31 od32 an32 od33 an33 : Option Addr} {sl0 sl1 sl2 sl3 sl4 sl5 sl6 sl7 sl8 sl9 sl10 sl11 sl12 sl13 sl14 sl15 sl16 sl17 sl18 sl19 sl20 sl21 sl22 sl23 sl24 sl25 sl26 sl27 sl28 sl29 sl30 sl31 sl32 sl33 : Array (Option Value)} {oc0 kV0 dc0 pm0 cd0 ct0 oc1 kV1 dc1 pm1 cd1 ct1 oc2 kV2 dc2 pm2 cd2 ct2 oc3 kV3 dc3 pm3 cd3 ct3 oc4 kV4 dc4 pm4 cd4 ct4 oc5 kV5 dc5 pm5 cd5 ct5 oc6 kV6 dc6 pm6 cd6 ct6 oc7 kV7 dc7 pm7 cd7 ct7 oc8 kV8 dc8 pm8 cd8 ct8 oc9 kV9 dc9 pm9 cd9 ct9 oc10 kV10 dc10 pm10 cd10 ct10 oc11 kV11 dc11 pm11 cd11 ct11 oc12 kV12 dc12 pm12 cd12 ct12 oc13 kV13 dc13 pm13 cd13 ct13 oc14 kV14 dc14 pm14 cd14 ct14 oc15 kV15 dc15 pm15 cd15 ct15 oc16 kV16 dc16 pm16 cd16 ct16 oc17 kV17 dc17 pm17 cd17 ct17 oc18 kV18 dc18 pm18 cd18 ct18 oc19 kV19 dc19 pm19 cd19 ct19 oc20 kV20 dc20 pm20 cd20 ct20 oc21 kV21 dc21 pm21 cd21 ct21 oc22 kV22 dc22 pm22 cd22 ct22 oc23 kV23 dc23 pm23 cd23 ct23 oc24 kV24 dc24 pm24 cd24 ct24 oc25 kV25 dc25 pm25 cd25 ct25 oc26 kV26 dc26 pm26 cd26 ct26 oc27 kV27 dc27 pm27 cd27 ct27 oc28 kV28 dc28 pm28 cd28 ct28 oc29 kV29 dc29 pm29 cd29 ct29 oc30 kV30 dc30 pm30 cd30 ct30 oc31 kV31 dc31 pm31 cd31 ct31 oc32 kV32 dc32 pm32 cd32 ct32 oc33 kV33 dc33 pm33 cd33 ct33 : Value} (X : K.In h) (G : h.Ns mainGlobals mg) (hfa : mg "law" = some (.ref fa))
    (a0 : PySem.W.nsIn K mainGlobals "_law_start" = some (some (.ref f0))) (l0 : K.lookup f0 = some ⟨oc0, od0, .func (PySem.W.fnOf "_law_start" "_law_start" (defArgs s_law_start) (defBody s_law_start) (defScope s_law_start) .none kV0 dc0 pm0 an0 cd0 ct0), sl0⟩) (c0 : PySem.W.codeIn K cd0 "_law_start" = true) (k0 : PySem.W.keepIn K (.ref f0) = true)
    (a1 : PySem.W.nsIn K mainGlobals "_law_draw" = some (some (.ref f1))) (l1 : K.lookup f1 = some ⟨oc1, od1, .func (PySem.W.fnOf "_law_draw" "_law_draw" (defArgs s_law_draw) (defBody s_law_draw) (defScope s_law_draw) .none kV1 dc1 pm1 an1 cd1 ct1), sl1⟩) (c1 : PySem.W.codeIn K cd1 "_law_draw" = true) (k1 : PySem.W.keepIn K (.ref f1) = true)
    (a2 : PySem.W.nsIn K mainGlobals "_law_pick" = some (some (.ref f2))) (l2 : K.lookup f2 = some ⟨oc2, od2, .func (PySem.W.fnOf "_law_pick" "_law_pick" (defArgs s_law_pick) (defBody s_law_pick) (defScope s_law_pick) .none kV2 dc2 pm2 an2 cd2 ct2), sl2⟩) (c2 : PySem.W.codeIn K cd2 "_law_pick" = true) (k2 : PySem.W.keepIn K (.ref f2) = true)
    (a3 : PySem.W.nsIn K mainGlobals "is_integer" = some (some (.ref f3))) (l3 : K.lookup f3 = some ⟨oc3, od3, .func (PySem.W.fnOf "is_integer" "is_integer" (defArgs s_is_integer) (defBody s_is_integer) (defScope s_is_integer) .none kV3 dc3 pm3 an3 cd3 ct3), sl3⟩) (c3 : PySem.W.codeIn K cd3 "is_integer" = true) (k3 : PySem.W.keepIn K (.ref f3) = true)
    (a4 : PySem.W.nsIn K mainGlobals "greatest_divisor" = some (some (.ref f4))) (l4 : K.lookup f4 = some ⟨oc4, od4, .func (PySem.W.fnOf "greatest_divisor" "greatest_divisor" (defArgs s_greatest_divisor) (defBody s_greatest_divisor) (defScope s_greatest_divisor) .none kV4 dc4 pm4 an4 cd4 ct4), sl4⟩) (c4 : PySem.W.codeIn K cd4 "greatest_divisor" = true) (k4 : PySem.W.keepIn K (.ref f4) = true)
    (a5 : PySem.W.nsIn K mainGlobals "quotient" = some (some (.ref f5))) (l5 : K.lookup f5 = some ⟨oc5, od5, .func (PySem.W.fnOf "quotient" "quotient" (defArgs s_quotient) (defBody s_quotient) (defScope s_quotient) .none kV5 dc5 pm5 an5 cd5 ct5), sl5⟩) (c5 : PySem.W.codeIn K cd5 "quotient" = true) (k5 : PySem.W.keepIn K (.ref f5) = true)
    (a6 : PySem.W.nsIn K mainGlobals "plus" = some (some (.ref f6))) (l6 : K.lookup f6 = some ⟨oc6, od6, .func (PySem.W.fnOf "plus" "plus" (defArgs s_plus) (defBody s_plus) (defScope s_plus) .none kV6 dc6 pm6 an6 cd6 ct6), sl6⟩) (c6 : PySem.W.codeIn K cd6 "plus" = true) (k6 : PySem.W.keepIn K (.ref f6) = true)
    (a7 : PySem.W.nsIn K mainGlobals "times" = some (some (.ref f7))) (l7 : K.lookup f7 = some ⟨oc7, od7, .func (PySem.W.fnOf "times" "times" (defArgs s_times) (defBody s_times) (defScope s_times) .none kV7 dc7 pm7 an7 cd7 ct7), sl7⟩) (c7 : PySem.W.codeIn K cd7 "times" = true) (k7 : PySem.W.keepIn K (.ref f7) = true)
    (a8 : PySem.W.nsIn K mainGlobals "choose" = some (some (.ref f8))) (l8 : K.lookup f8 = some ⟨oc8, od8, .func (PySem.W.fnOf "choose" "choose" (defArgs s_choose) (defBody s_choose) (defScope s_choose) .none kV8 dc8 pm8 an8 cd8 ct8), sl8⟩) (c8 : PySem.W.codeIn K cd8 "choose" = true) (k8 : PySem.W.keepIn K (.ref f8) = true)
    (a9 : PySem.W.nsIn K mainGlobals "check_urn" = some (some (.ref f9))) (l9 : K.lookup f9 = some ⟨oc9, od9, .func (PySem.W.fnOf "check_urn" "check_urn" (defArgs s_check_urn) (defBody s_check_urn) (defScope s_check_urn) .none kV9 dc9 pm9 an9 cd9 ct9), sl9⟩) (c9 : PySem.W.codeIn K cd9 "check_urn" = true) (k9 : PySem.W.keepIn K (.ref f9) = true)
    (a10 : PySem.W.nsIn K mainGlobals "check_counts" = some (some (.ref f10))) (l10 : K.lookup f10 = some ⟨oc10, od10, .func (PySem.W.fnOf "check_counts" "check_counts" (defArgs s_check_counts) (defBody s_check_counts) (defScope s_check_counts) .none kV10 dc10 pm10 an10 cd10 ct10), sl10⟩) (c10 : PySem.W.codeIn K cd10 "check_counts" = true) (k10 : PySem.W.keepIn K (.ref f10) = true)
    (a11 : PySem.W.nsIn K mainGlobals "check_draws" = some (some (.ref f11))) (l11 : K.lookup f11 = some ⟨oc11, od11, .func (PySem.W.fnOf "check_draws" "check_draws" (defArgs s_check_draws) (defBody s_check_draws) (defScope s_check_draws) .none kV11 dc11 pm11 an11 cd11 ct11), sl11⟩) (c11 : PySem.W.codeIn K cd11 "check_draws" = true) (k11 : PySem.W.keepIn K (.ref f11) = true)
    (a12 : PySem.W.nsIn K mainGlobals "check_added" = some (some (.ref f12))) (l12 : K.lookup f12 = some ⟨oc12, od12, .func (PySem.W.fnOf "check_added" "check_added" (defArgs s_check_added) (defBody s_check_added) (defScope s_check_added) .none kV12 dc12 pm12 an12 cd12 ct12), sl12⟩) (c12 : PySem.W.codeIn K cd12 "check_added" = true) (k12 : PySem.W.keepIn K (.ref f12) = true)
    (a13 : PySem.W.nsIn K mainGlobals "check_colour" = some (some (.ref f13))) (l13 : K.lookup f13 = some ⟨oc13, od13, .func (PySem.W.fnOf "check_colour" "check_colour" (defArgs s_check_colour) (defBody s_check_colour) (defScope s_check_colour) .none kV13 dc13 pm13 an13 cd13 ct13), sl13⟩) (c13 : PySem.W.codeIn K cd13 "check_colour" = true) (k13 : PySem.W.keepIn K (.ref f13) = true)
    (a14 : PySem.W.nsIn K mainGlobals "chance_of_counts" = some (some (.ref f14))) (l14 : K.lookup f14 = some ⟨oc14, od14, .func (PySem.W.fnOf "chance_of_counts" "chance_of_counts" (defArgs s_chance_of_counts) (defBody s_chance_of_counts) (defScope s_chance_of_counts) .none kV14 dc14 pm14 an14 cd14 ct14), sl14⟩) (c14 : PySem.W.codeIn K cd14 "chance_of_counts" = true) (k14 : PySem.W.keepIn K (.ref f14) = true)
    (a15 : PySem.W.nsIn K mainGlobals "chance_of_row" = some (some (.ref f15))) (l15 : K.lookup f15 = some ⟨oc15, od15, .func (PySem.W.fnOf "chance_of_row" "chance_of_row" (defArgs s_chance_of_row) (defBody s_chance_of_row) (defScope s_chance_of_row) .none kV15 dc15 pm15 an15 cd15 ct15), sl15⟩) (c15 : PySem.W.codeIn K cd15 "chance_of_row" = true) (k15 : PySem.W.keepIn K (.ref f15) = true)
    (a16 : PySem.W.nsIn K mainGlobals "first_drawn" = some (some (.ref f16))) (l16 : K.lookup f16 = some ⟨oc16, od16, .func (PySem.W.fnOf "first_drawn" "first_drawn" (defArgs s_first_drawn) (defBody s_first_drawn) (defScope s_first_drawn) .none kV16 dc16 pm16 an16 cd16 ct16), sl16⟩) (c16 : PySem.W.codeIn K cd16 "first_drawn" = true) (k16 : PySem.W.keepIn K (.ref f16) = true)
    (a17 : PySem.W.nsIn K mainGlobals "mean_wait" = some (some (.ref f17))) (l17 : K.lookup f17 = some ⟨oc17, od17, .func (PySem.W.fnOf "mean_wait" "mean_wait" (defArgs s_mean_wait) (defBody s_mean_wait) (defScope s_mean_wait) .none kV17 dc17 pm17 an17 cd17 ct17), sl17⟩) (c17 : PySem.W.codeIn K cd17 "mean_wait" = true) (k17 : PySem.W.keepIn K (.ref f17) = true)
    (a18 : PySem.W.nsIn K mainGlobals "last_colour" = some (some (.ref f18))) (l18 : K.lookup f18 = some ⟨oc18, od18, .func (PySem.W.fnOf "last_colour" "last_colour" (defArgs s_last_colour) (defBody s_last_colour) (defScope s_last_colour) .none kV18 dc18 pm18 an18 cd18 ct18), sl18⟩) (c18 : PySem.W.codeIn K cd18 "last_colour" = true) (k18 : PySem.W.keepIn K (.ref f18) = true)
    (a19 : PySem.W.nsIn K mainGlobals "gone_first" = some (some (.ref f19))) (l19 : K.lookup f19 = some ⟨oc19, od19, .func (PySem.W.fnOf "gone_first" "gone_first" (defArgs s_gone_first) (defBody s_gone_first) (defScope s_gone_first) .none kV19 dc19 pm19 an19 cd19 ct19), sl19⟩) (c19 : PySem.W.codeIn K cd19 "gone_first" = true) (k19 : PySem.W.keepIn K (.ref f19) = true)
    (a20 : PySem.W.nsIn K mainGlobals "same_chance" = some (some (.ref f20))) (l20 : K.lookup f20 = some ⟨oc20, od20, .func (PySem.W.fnOf "same_chance" "same_chance" (defArgs s_same_chance) (defBody s_same_chance) (defScope s_same_chance) .none kV20 dc20 pm20 an20 cd20 ct20), sl20⟩) (c20 : PySem.W.codeIn K cd20 "same_chance" = true) (k20 : PySem.W.keepIn K (.ref f20) = true)
    (a21 : PySem.W.nsIn K mainGlobals "spread_of" = some (some (.ref f21))) (l21 : K.lookup f21 = some ⟨oc21, od21, .func (PySem.W.fnOf "spread_of" "spread_of" (defArgs s_spread_of) (defBody s_spread_of) (defScope s_spread_of) .none kV21 dc21 pm21 an21 cd21 ct21), sl21⟩) (c21 : PySem.W.codeIn K cd21 "spread_of" = true) (k21 : PySem.W.keepIn K (.ref f21) = true)
    (a22 : PySem.W.nsIn K mainGlobals "_law_same" = some (some (.ref f22))) (l22 : K.lookup f22 = some ⟨oc22, od22, .func (PySem.W.fnOf "_law_same" "_law_same" (defArgs s_law_same) (defBody s_law_same) (defScope s_law_same) .none kV22 dc22 pm22 an22 cd22 ct22), sl22⟩) (c22 : PySem.W.codeIn K cd22 "_law_same" = true) (k22 : PySem.W.keepIn K (.ref f22) = true)
    (a23 : PySem.W.nsIn K mainGlobals "_law_q" = some (some (.ref f23))) (l23 : K.lookup f23 = some ⟨oc23, od23, .func (PySem.W.fnOf "_law_q" "_law_q" (defArgs s_law_q) (defBody s_law_q) (defScope s_law_q) .none kV23 dc23 pm23 an23 cd23 ct23), sl23⟩) (c23 : PySem.W.codeIn K cd23 "_law_q" = true) (k23 : PySem.W.keepIn K (.ref f23) = true)
    (a24 : PySem.W.nsIn K mainGlobals "_law_add" = some (some (.ref f24))) (l24 : K.lookup f24 = some ⟨oc24, od24, .func (PySem.W.fnOf "_law_add" "_law_add" (defArgs s_law_add) (defBody s_law_add) (defScope s_law_add) .none kV24 dc24 pm24 an24 cd24 ct24), sl24⟩) (c24 : PySem.W.codeIn K cd24 "_law_add" = true) (k24 : PySem.W.keepIn K (.ref f24) = true)
    (a25 : PySem.W.nsIn K mainGlobals "_law_mul" = some (some (.ref f25))) (l25 : K.lookup f25 = some ⟨oc25, od25, .func (PySem.W.fnOf "_law_mul" "_law_mul" (defArgs s_law_mul) (defBody s_law_mul) (defScope s_law_mul) .none kV25 dc25 pm25 an25 cd25 ct25), sl25⟩) (c25 : PySem.W.codeIn K cd25 "_law_mul" = true) (k25 : PySem.W.keepIn K (.ref f25) = true)
    (a26 : PySem.W.nsIn K mainGlobals "_law_sum" = some (some (.ref f26))) (l26 : K.lookup f26 = some ⟨oc26, od26, .func (PySem.W.fnOf "_law_sum" "_law_sum" (defArgs s_law_sum) (defBody s_law_sum) (defScope s_law_sum) .none kV26 dc26 pm26 an26 cd26 ct26), sl26⟩) (c26 : PySem.W.codeIn K cd26 "_law_sum" = true) (k26 : PySem.W.keepIn K (.ref f26) = true)
    (a27 : PySem.W.nsIn K mainGlobals "_law_choose" = some (some (.ref f27))) (l27 : K.lookup f27 = some ⟨oc27, od27, .func (PySem.W.fnOf "_law_choose" "_law_choose" (defArgs s_law_choose) (defBody s_law_choose) (defScope s_law_choose) .none kV27 dc27 pm27 an27 cd27 ct27), sl27⟩) (c27 : PySem.W.codeIn K cd27 "_law_choose" = true) (k27 : PySem.W.keepIn K (.ref f27) = true)
    (a28 : PySem.W.nsIn K mainGlobals "_law_row_chance" = some (some (.ref f28))) (l28 : K.lookup f28 = some ⟨oc28, od28, .func (PySem.W.fnOf "_law_row_chance" "_law_row_chance" (defArgs s_law_row_chance) (defBody s_law_row_chance) (defScope s_law_row_chance) .none kV28 dc28 pm28 an28 cd28 ct28), sl28⟩) (c28 : PySem.W.codeIn K cd28 "_law_row_chance" = true) (k28 : PySem.W.keepIn K (.ref f28) = true)
    (a29 : PySem.W.nsIn K mainGlobals "_law_urn" = some (some (.ref f29))) (l29 : K.lookup f29 = some ⟨oc29, od29, .func (PySem.W.fnOf "_law_urn" "_law_urn" (defArgs s_law_urn) (defBody s_law_urn) (defScope s_law_urn) .none kV29 dc29 pm29 an29 cd29 ct29), sl29⟩) (c29 : PySem.W.codeIn K cd29 "_law_urn" = true) (k29 : PySem.W.keepIn K (.ref f29) = true)
    (a30 : PySem.W.nsIn K mainGlobals "_law_rows_hold" = some (some (.ref f30))) (l30 : K.lookup f30 = some ⟨oc30, od30, .func (PySem.W.fnOf "_law_rows_hold" "_law_rows_hold" (defArgs s_law_rows_hold) (defBody s_law_rows_hold) (defScope s_law_rows_hold) .none kV30 dc30 pm30 an30 cd30 ct30), sl30⟩) (c30 : PySem.W.codeIn K cd30 "_law_rows_hold" = true) (k30 : PySem.W.keepIn K (.ref f30) = true)
    (a31 : PySem.W.nsIn K mainGlobals "_law_spread_holds" = some (some (.ref f31))) (l31 : K.lookup f31 = some ⟨oc31, od31, .func (PySem.W.fnOf "_law_spread_holds" "_law_spread_holds" (defArgs s_law_spread_holds) (defBody s_law_spread_holds) (defScope s_law_spread_holds) .none kV31 dc31 pm31 an31 cd31 ct31), sl31⟩) (c31 : PySem.W.codeIn K cd31 "_law_spread_holds" = true) (k31 : PySem.W.keepIn K (.ref f31) = true)
    (a32 : PySem.W.nsIn K mainGlobals "_law_waits_hold" = some (some (.ref f32))) (l32 : K.lookup f32 = some ⟨oc32, od32, .func (PySem.W.fnOf "_law_waits_hold" "_law_waits_hold" (defArgs s_law_waits_hold) (defBody s_law_waits_hold) (defScope s_law_waits_hold) .none kV32 dc32 pm32 an32 cd32 ct32), sl32⟩) (c32 : PySem.W.codeIn K cd32 "_law_waits_hold" = true) (k32 : PySem.W.keepIn K (.ref f32) = true)
    (a33 : PySem.W.nsIn K mainGlobals "law" = some (some (.ref f33))) (l33 : K.lookup f33 = some ⟨oc33, od33, .func (PySem.W.fnOf "law" "law" (defArgs s_law) (defBody s_law) (defScope s_law) .none kV33 dc33 pm33 an33 cd33 ct33), sl33⟩) (c33 : PySem.W.codeIn K cd33 "law" = true) (k33 : PySem.W.keepIn K (.ref f33) = true)
    (z_abs : PySem.W.nsIn K mainGlobals "abs" = some none)
    (z_all : PySem.W.nsIn K mainGlobals "all" = some none)
    (z_bool : PySem.W.nsIn K mainGlobals "bool" = some none)
    (z_enumerate : PySem.W.nsIn K mainGlobals "enumerate" = some none)
    (z_int : PySem.W.nsIn K mainGlobals "int" = some none)
    (z_isinstance : PySem.W.nsIn K mainGlobals "isinstance" = some none)
    (z_len : PySem.W.nsIn K mainGlobals "len" = some none)
    (z_list : PySem.W.nsIn K mainGlobals "list" = some none)
    (z_max : PySem.W.nsIn K mainGlobals "max" = some none)
    (z_min : PySem.W.nsIn K mainGlobals "min" = some none)
    (z_range : PySem.W.nsIn K mainGlobals "range" = some none)
    (z_repr : PySem.W.nsIn K mainGlobals "repr" = some none)
    (z_sum : PySem.W.nsIn K mainGlobals "sum" = some none)
    (z_tuple : PySem.W.nsIn K mainGlobals "tuple" = some none)
    (z_zip : PySem.W.nsIn K mainGlobals "zip" = some none)
    {t_MAX_BALLS : Tok} (q_MAX_BALLS : PySem.W.nsIn K mainGlobals "MAX_BALLS" = some (some (.int 60 t_MAX_BALLS)))
    {t_MAX_COLOURS : Tok} (q_MAX_COLOURS : PySem.W.nsIn K mainGlobals "MAX_COLOURS" = some (some (.int 6 t_MAX_COLOURS)))
    {t_MAX_DRAWS : Tok} (q_MAX_DRAWS : PySem.W.nsIn K mainGlobals "MAX_DRAWS" = some (some (.int 60 t_MAX_DRAWS)))
    : ∃ fd : FuncData, (∀ (s : Shared) (v : Value), BindsTo s fd ⟨[v], []⟩ [("script", v)]) ∧ ∀ base : Heap, K.In base → base.Ns mainGlobals mg → FnG l.prog w K mg base 6 fa fd ["script"] (SpP K R_top) := by
  have e := hfa.symm.trans (PySem.W.mg_of X G a33)
  cases e
  have B : Gb mg := ⟨PySem.W.mg_none_of X G z_abs, PySem.W.mg_none_of X G z_all, PySem.W.mg_none_of X G z_bool, PySem.W.mg_none_of X G z_enumerate, PySem.W.mg_none_of X G z_int, PySem.W.mg_none_of X G z_isinstance, PySem.W.mg_none_of X G z_len, PySem.W.mg_none_of X G z_list, PySem.W.mg_none_of X G z_max, PySem.W.mg_none_of X G z_min, PySem.W.mg_none_of X G z_range, PySem.W.mg_none_of X G z_repr, PySem.W.mg_none_of X G z_sum, PySem.W.mg_none_of X G z_tuple, PySem.W.mg_none_of X G z_zip, ⟨t_MAX_BALLS, PySem.W.mg_of X G q_MAX_BALLS⟩, ⟨t_MAX_COLOURS, PySem.W.mg_of X G q_MAX_COLOURS⟩, ⟨t_MAX_DRAWS, PySem.W.mg_of X G q_MAX_DRAWS⟩⟩
  refine ⟨PySem.W.fnOf "law" "law" (defArgs s_law) (defBody s_law) (defScope s_law) .none kV33 dc33 pm33 an33 cd33 ct33, fun s v => .of_eq rfl, fun base _ _ => ?_⟩
  have D0 : Fd K mg "_law_start" s_law_start := ⟨⟨_, _, fun_mk (st := s_law_start) l0 c0 k0, PySem.W.mg_of X G a0⟩⟩
  have C0 := ok_law_start (P := l.prog) (w := w) (base := base) B D0 
  have D1 : Fd K mg "_law_draw" s_law_draw := ⟨⟨_, _, fun_mk (st := s_law_draw) l1 c1 k1, PySem.W.mg_of X G a1⟩⟩
  have C1 := ok_law_draw (P := l.prog) (w := w) (base := base) B D1 
  have D2 : Fd K mg "_law_pick" s_law_pick := ⟨⟨_, _, fun_mk (st := s_law_pick) l2 c2 k2, PySem.W.mg_of X G a2⟩⟩
  have C2 := ok_law_pick (P := l.prog) (w := w) (base := base) B D2 C1
  have D3 : Fd K mg "is_integer" s_is_integer := ⟨⟨_, _, fun_mk (st := s_is_integer) l3 c3 k3, PySem.W.mg_of X G a3⟩⟩
  have C3 := ok_is_integer (P := l.prog) (w := w) (base := base) B D3 
  have D4 : Fd K mg "greatest_divisor" s_greatest_divisor := ⟨⟨_, _, fun_mk (st := s_greatest_divisor) l4 c4 k4, PySem.W.mg_of X G a4⟩⟩
  have C4 := ok_greatest_divisor (P := l.prog) (w := w) (base := base) B D4 
  have D5 : Fd K mg "quotient" s_quotient := ⟨⟨_, _, fun_mk (st := s_quotient) l5 c5 k5, PySem.W.mg_of X G a5⟩⟩
  have C5 := ok_quotient (P := l.prog) (w := w) (base := base) B D5 C4
  have D6 : Fd K mg "plus" s_plus := ⟨⟨_, _, fun_mk (st := s_plus) l6 c6 k6, PySem.W.mg_of X G a6⟩⟩
  have C6 := ok_plus (P := l.prog) (w := w) (base := base) B D6 C5
  have D7 : Fd K mg "times" s_times := ⟨⟨_, _, fun_mk (st := s_times) l7 c7 k7, PySem.W.mg_of X G a7⟩⟩
  have C7 := ok_times (P := l.prog) (w := w) (base := base) B D7 C5
  have D8 : Fd K mg "choose" s_choose := ⟨⟨_, _, fun_mk (st := s_choose) l8 c8 k8, PySem.W.mg_of X G a8⟩⟩
  have C8 := ok_choose (P := l.prog) (w := w) (base := base) B D8 
  have D9 : Fd K mg "check_urn" s_check_urn := ⟨⟨_, _, fun_mk (st := s_check_urn) l9 c9 k9, PySem.W.mg_of X G a9⟩⟩
  have C9 := ok_check_urn (P := l.prog) (w := w) (base := base) B D9 C3
  have D10 : Fd K mg "check_counts" s_check_counts := ⟨⟨_, _, fun_mk (st := s_check_counts) l10 c10 k10, PySem.W.mg_of X G a10⟩⟩
  have C10 := ok_check_counts (P := l.prog) (w := w) (base := base) B D10 C3
  have D11 : Fd K mg "check_draws" s_check_draws := ⟨⟨_, _, fun_mk (st := s_check_draws) l11 c11 k11, PySem.W.mg_of X G a11⟩⟩
  have C11 := ok_check_draws (P := l.prog) (w := w) (base := base) B D11 C3
  have D12 : Fd K mg "check_added" s_check_added := ⟨⟨_, _, fun_mk (st := s_check_added) l12 c12 k12, PySem.W.mg_of X G a12⟩⟩
  have C12 := ok_check_added (P := l.prog) (w := w) (base := base) B D12 C3
  have D13 : Fd K mg "check_colour" s_check_colour := ⟨⟨_, _, fun_mk (st := s_check_colour) l13 c13 k13, PySem.W.mg_of X G a13⟩⟩
  have C13 := ok_check_colour (P := l.prog) (w := w) (base := base) B D13 C3
  have D14 : Fd K mg "chance_of_counts" s_chance_of_counts := ⟨⟨_, _, fun_mk (st := s_chance_of_counts) l14 c14 k14, PySem.W.mg_of X G a14⟩⟩
  have C14 := ok_chance_of_counts (P := l.prog) (w := w) (base := base) B D14 C10 C9 C8 C5
  have D15 : Fd K mg "chance_of_row" s_chance_of_row := ⟨⟨_, _, fun_mk (st := s_chance_of_row) l15 c15 k15, PySem.W.mg_of X G a15⟩⟩
  have C15 := ok_chance_of_row (P := l.prog) (w := w) (base := base) B D15 C12 C11 C9 C5 C7
  have D16 : Fd K mg "first_drawn" s_first_drawn := ⟨⟨_, _, fun_mk (st := s_first_drawn) l16 c16 k16, PySem.W.mg_of X G a16⟩⟩
  have C16 := ok_first_drawn (P := l.prog) (w := w) (base := base) B D16 C13 C9 C8 C5 C7
  have D17 : Fd K mg "mean_wait" s_mean_wait := ⟨⟨_, _, fun_mk (st := s_mean_wait) l17 c17 k17, PySem.W.mg_of X G a17⟩⟩
  have C17 := ok_mean_wait (P := l.prog) (w := w) (base := base) B D17 C13 C9 C3 C5
  have D18 : Fd K mg "last_colour" s_last_colour := ⟨⟨_, _, fun_mk (st := s_last_colour) l18 c18 k18, PySem.W.mg_of X G a18⟩⟩
  have C18 := ok_last_colour (P := l.prog) (w := w) (base := base) B D18 C9 C5
  have D19 : Fd K mg "gone_first" s_gone_first := ⟨⟨_, _, fun_mk (st := s_gone_first) l19 c19 k19, PySem.W.mg_of X G a19⟩⟩
  have C19 := ok_gone_first (P := l.prog) (w := w) (base := base) B D19 C13 C9 C3 C5
  have D20 : Fd K mg "same_chance" s_same_chance := ⟨⟨_, _, fun_mk (st := s_same_chance) l20 c20 k20, PySem.W.mg_of X G a20⟩⟩
  have C20 := ok_same_chance (P := l.prog) (w := w) (base := base) B D20 C12 C11 C9 C8
  have D21 : Fd K mg "spread_of" s_spread_of := ⟨⟨_, _, fun_mk (st := s_spread_of) l21 c21 k21, PySem.W.mg_of X G a21⟩⟩
  have C21 := ok_spread_of (P := l.prog) (w := w) (base := base) B D21 C12 C13 C9 C3 C6 C5 C7
  have D22 : Fd K mg "_law_same" s_law_same := ⟨⟨_, _, fun_mk (st := s_law_same) l22 c22 k22, PySem.W.mg_of X G a22⟩⟩
  have C22 := ok_law_same (P := l.prog) (w := w) (base := base) B D22 
  have D23 : Fd K mg "_law_q" s_law_q := ⟨⟨_, _, fun_mk (st := s_law_q) l23 c23 k23, PySem.W.mg_of X G a23⟩⟩
  have C23 := ok_law_q (P := l.prog) (w := w) (base := base) B D23 
  have D24 : Fd K mg "_law_add" s_law_add := ⟨⟨_, _, fun_mk (st := s_law_add) l24 c24 k24, PySem.W.mg_of X G a24⟩⟩
  have C24 := ok_law_add (P := l.prog) (w := w) (base := base) B D24 C23
  have D25 : Fd K mg "_law_mul" s_law_mul := ⟨⟨_, _, fun_mk (st := s_law_mul) l25 c25 k25, PySem.W.mg_of X G a25⟩⟩
  have C25 := ok_law_mul (P := l.prog) (w := w) (base := base) B D25 C23
  have D26 : Fd K mg "_law_sum" s_law_sum := ⟨⟨_, _, fun_mk (st := s_law_sum) l26 c26 k26, PySem.W.mg_of X G a26⟩⟩
  have C26 := ok_law_sum (P := l.prog) (w := w) (base := base) B D26 C24
  have D27 : Fd K mg "_law_choose" s_law_choose := ⟨⟨_, _, fun_mk (st := s_law_choose) l27 c27 k27, PySem.W.mg_of X G a27⟩⟩
  have C27 := ok_law_choose (P := l.prog) (w := w) (base := base) B D27 
  have D28 : Fd K mg "_law_row_chance" s_law_row_chance := ⟨⟨_, _, fun_mk (st := s_law_row_chance) l28 c28 k28, PySem.W.mg_of X G a28⟩⟩
  have C28 := ok_law_row_chance (P := l.prog) (w := w) (base := base) B D28 C25
  have D29 : Fd K mg "_law_urn" s_law_urn := ⟨⟨_, _, fun_mk (st := s_law_urn) l29 c29 k29, PySem.W.mg_of X G a29⟩⟩
  have C29 := ok_law_urn (P := l.prog) (w := w) (base := base) B D29 C1 C2
  have D30 : Fd K mg "_law_rows_hold" s_law_rows_hold := ⟨⟨_, _, fun_mk (st := s_law_rows_hold) l30 c30 k30, PySem.W.mg_of X G a30⟩⟩
  have C30 := ok_law_rows_hold (P := l.prog) (w := w) (base := base) B D30 C27 C1 C25 C2 C23 C28 C22 C14 C15 C20
  have D31 : Fd K mg "_law_spread_holds" s_law_spread_holds := ⟨⟨_, _, fun_mk (st := s_law_spread_holds) l31 c31 k31, PySem.W.mg_of X G a31⟩⟩
  have C31 := ok_law_spread_holds (P := l.prog) (w := w) (base := base) B D31 C27 C1 C25 C2 C23 C22 C26 C21
  have D32 : Fd K mg "_law_waits_hold" s_law_waits_hold := ⟨⟨_, _, fun_mk (st := s_law_waits_hold) l32 c32 k32, PySem.W.mg_of X G a32⟩⟩
  have C32 := ok_law_waits_hold (P := l.prog) (w := w) (base := base) B D32 C27 C1 C23 C22 C26 C16 C19 C18 C17
  exact ok_law (P := l.prog) (w := w) (base := base) B (fun_mk (st := s_law) l33 c33 k33) C30 C31 C0 C29 C32
end Nz
open PySem PySem.W PyProof.Rows
set_option maxHeartbeats 0 in
theorem PySem.Challenge.cw_nosurewin_k76_urns_whose_draws_may_be_ex_holds : PySem.Challenge.rw_nosurewin_k76_urns_whose_draws_may_be_ex.Holds := by
  w_on; o_law; k_head; (case hw => w_witness2)
  k_fill
  refine Nz.walk_ofG (l := PySem.Challenge.rw_nosurewin_k76_urns_whose_draws_may_be_ex) (n := 63) (k := 6) (x := "script") rfl (by decide) rfl ⟨rfl, by decide, by decide⟩ (fun w h Y => PySem.W.kIn_of Y) ?F
  case F =>
    intro w mg fa h KX G hmg
    refine' Nz.all_mk KX G hmg ?a0 ?l0 ?c0 ?k0 ?a1 ?l1 ?c1 ?k1 ?a2 ?l2 ?c2 ?k2 ?a3 ?l3 ?c3 ?k3 ?a4 ?l4 ?c4 ?k4 ?a5 ?l5 ?c5 ?k5 ?a6 ?l6 ?c6 ?k6 ?a7 ?l7 ?c7 ?k7 ?a8 ?l8 ?c8 ?k8 ?a9 ?l9 ?c9 ?k9 ?a10 ?l10 ?c10 ?k10 ?a11 ?l11 ?c11 ?k11 ?a12 ?l12 ?c12 ?k12 ?a13 ?l13 ?c13 ?k13 ?a14 ?l14 ?c14 ?k14 ?a15 ?l15 ?c15 ?k15 ?a16 ?l16 ?c16 ?k16 ?a17 ?l17 ?c17 ?k17 ?a18 ?l18 ?c18 ?k18 ?a19 ?l19 ?c19 ?k19 ?a20 ?l20 ?c20 ?k20 ?a21 ?l21 ?c21 ?k21 ?a22 ?l22 ?c22 ?k22 ?a23 ?l23 ?c23 ?k23 ?a24 ?l24 ?c24 ?k24 ?a25 ?l25 ?c25 ?k25 ?a26 ?l26 ?c26 ?k26 ?a27 ?l27 ?c27 ?k27 ?a28 ?l28 ?c28 ?k28 ?a29 ?l29 ?c29 ?k29 ?a30 ?l30 ?c30 ?k30 ?a31 ?l31 ?c31 ?k31 ?a32 ?l32 ?c32 ?k32 ?a33 ?l33 ?c33 ?k33 ?z_abs ?z_all ?z_bool ?z_enumerate ?z_int ?z_isinstance ?z_len ?z_list ?z_max ?z_min ?z_range ?z_repr ?z_sum ?z_tuple ?z_zip ?q_MAX_BALLS ?q_MAX_COLOURS ?q_MAX_DRAWS
    (case a0 => k_is)
    (case l0 => k_is)
    (case c0 => k_is)
    (case k0 => k_is)
    (case a1 => k_is)
    (case l1 => k_is)
    (case c1 => k_is)
    (case k1 => k_is)
    (case a2 => k_is)
    (case l2 => k_is)
    (case c2 => k_is)
    (case k2 => k_is)
    (case a3 => k_is)
    (case l3 => k_is)
    (case c3 => k_is)
    (case k3 => k_is)
    (case a4 => k_is)
    (case l4 => k_is)
    (case c4 => k_is)
    (case k4 => k_is)
    (case a5 => k_is)
    (case l5 => k_is)
    (case c5 => k_is)
    (case k5 => k_is)
    (case a6 => k_is)
    (case l6 => k_is)
    (case c6 => k_is)
    (case k6 => k_is)
    (case a7 => k_is)
    (case l7 => k_is)
    (case c7 => k_is)
    (case k7 => k_is)
    (case a8 => k_is)
    (case l8 => k_is)
    (case c8 => k_is)
    (case k8 => k_is)
    (case a9 => k_is)
    (case l9 => k_is)
    (case c9 => k_is)
    (case k9 => k_is)
    (case a10 => k_is)
    (case l10 => k_is)
    (case c10 => k_is)
    (case k10 => k_is)
    (case a11 => k_is)
    (case l11 => k_is)
    (case c11 => k_is)
    (case k11 => k_is)
    (case a12 => k_is)
    (case l12 => k_is)
    (case c12 => k_is)
    (case k12 => k_is)
    (case a13 => k_is)
    (case l13 => k_is)
    (case c13 => k_is)
    (case k13 => k_is)
    (case a14 => k_is)
    (case l14 => k_is)
    (case c14 => k_is)
    (case k14 => k_is)
    (case a15 => k_is)
    (case l15 => k_is)
    (case c15 => k_is)
    (case k15 => k_is)
    (case a16 => k_is)
    (case l16 => k_is)
    (case c16 => k_is)
    (case k16 => k_is)
    (case a17 => k_is)
    (case l17 => k_is)
    (case c17 => k_is)
    (case k17 => k_is)
    (case a18 => k_is)
    (case l18 => k_is)
    (case c18 => k_is)
    (case k18 => k_is)
    (case a19 => k_is)
    (case l19 => k_is)
    (case c19 => k_is)
    (case k19 => k_is)
    (case a20 => k_is)
    (case l20 => k_is)
    (case c20 => k_is)
    (case k20 => k_is)
    (case a21 => k_is)
    (case l21 => k_is)
    (case c21 => k_is)
    (case k21 => k_is)
    (case a22 => k_is)
    (case l22 => k_is)
    (case c22 => k_is)
    (case k22 => k_is)
    (case a23 => k_is)
    (case l23 => k_is)
    (case c23 => k_is)
    (case k23 => k_is)
    (case a24 => k_is)
    (case l24 => k_is)
    (case c24 => k_is)
    (case k24 => k_is)
    (case a25 => k_is)
    (case l25 => k_is)
    (case c25 => k_is)
    (case k25 => k_is)
    (case a26 => k_is)
    (case l26 => k_is)
    (case c26 => k_is)
    (case k26 => k_is)
    (case a27 => k_is)
    (case l27 => k_is)
    (case c27 => k_is)
    (case k27 => k_is)
    (case a28 => k_is)
    (case l28 => k_is)
    (case c28 => k_is)
    (case k28 => k_is)
    (case a29 => k_is)
    (case l29 => k_is)
    (case c29 => k_is)
    (case k29 => k_is)
    (case a30 => k_is)
    (case l30 => k_is)
    (case c30 => k_is)
    (case k30 => k_is)
    (case a31 => k_is)
    (case l31 => k_is)
    (case c31 => k_is)
    (case k31 => k_is)
    (case a32 => k_is)
    (case l32 => k_is)
    (case c32 => k_is)
    (case k32 => k_is)
    (case a33 => k_is)
    (case l33 => k_is)
    (case c33 => k_is)
    (case k33 => k_is)
    (case z_abs => k_is)
    (case z_all => k_is)
    (case z_bool => k_is)
    (case z_enumerate => k_is)
    (case z_int => k_is)
    (case z_isinstance => k_is)
    (case z_len => k_is)
    (case z_list => k_is)
    (case z_max => k_is)
    (case z_min => k_is)
    (case z_range => k_is)
    (case z_repr => k_is)
    (case z_sum => k_is)
    (case z_tuple => k_is)
    (case z_zip => k_is)
    (case q_MAX_BALLS => k_is)
    (case q_MAX_COLOURS => k_is)
    (case q_MAX_DRAWS => k_is)

