import PyProof.Rows.All
import HandS.ForMost
import HandS.Wide
import HandS.Zip
import HandS.Style
import HandS.IsInst
import HandS.TupAny
import HandS.RaiseMore
import KE.KRevSl
import PyProof.ReprRoads
import PyProof.WalksMore
import PyProof.SumWalkG
import HandS.SetFor
import PyProof.ReprLen
import PyProof.ReprText
import PyProof.P3Eq
import PyProof.Draws
import PyProof.EnumMake
import HandS.Strs
import HandS.SortInts
import HandS.TupMul
import HandS.Flow
import HandS.Ends
import PySem.Challenge.RW_nosurewin_k67_claims_added_and_scaled_on
set_option Elab.async false
set_option linter.all false
set_option maxRecDepth 100000
set_option maxHeartbeats 4000000
namespace Nz
open PySem PySem.Spec PyProof.Rows L2

/-! ### heaps: growth, hiding -/
def Ex (H H' : Hp) : Prop := ∀ a o, H a = some o → H' a = some o
theorem Ex.refl (H : Hp) : Ex H H := fun _ _ h => h
theorem Ex.trans {H H1 H2 : Hp} (a : Ex H H1) (b : Ex H1 H2) : Ex H H2 := fun x o h => b x o (a x o h)
theorem Ex.new {H : Hp} {p : Addr} {o : HO} (h : H p = none) : Ex H (upd H p o) := fun a u e => by
  rw [upd_ne (ne_of_none e h)]; exact e
def hide (S : List Addr) (H : Hp) : Hp := fun a => if a ∈ S then none else H a
theorem hide_some {S : List Addr} {H : Hp} {a : Addr} {o : HO} (h : hide S H a = some o) : a ∉ S ∧ H a = some o := by
  unfold hide at h
  by_cases e : a ∈ S
  · rw [if_pos e] at h; cases h
  · rw [if_neg e] at h; exact ⟨e, h⟩
theorem hide_of {S : List Addr} {H : Hp} {a : Addr} {o : HO} (n : a ∉ S) (h : H a = some o) : hide S H a = some o := by
  unfold hide; rw [if_neg n]; exact h
theorem hide_ex (S : List Addr) (H : Hp) : Ex (hide S H) H := fun _ _ h => (hide_some h).2
/-- less hidden, more there -/
theorem hide_mono {S S' : List Addr} {H H' : Hp} (h : ∀ a o, a ∉ S → H a = some o → a ∉ S' ∧ H' a = some o) : Ex (hide S H) (hide S' H') := fun a o e =>
  have ⟨n, e⟩ := hide_some e
  have ⟨n', e'⟩ := h a o n e
  hide_of n' e'

/-- a tuple with no dict of its own -/
def Pt (K : PySem.W.Frag) (H : Hp) (a : Addr) (xs : List V) : Prop :=
  (∃ o, H a = some (.frz o (.tup xs)) ∧ o.dict = none) ∨
    ∃ (o : Obj) (its : Array Value) (n : Nat), K.lookup a = some o ∧ o.cls = .type "tuple" ∧ o.dict = none ∧ o.data = .seq its n ∧ its.size ≤ sizeLine ∧ Vals xs its.toList
theorem Pt.sq {K : PySem.W.Frag} {H : Hp} {a : Addr} {xs : List V} (h : Pt K H a xs) : SqT K H a xs := by
  rcases h with ⟨o, h, _⟩ | ⟨o, its, n, h1, h2, _, h4, h5, h6⟩
  · exact .inl (.inr ⟨o, h⟩)
  · exact .inr ⟨o, its, n, h1, h2, h4, h5, h6⟩
/-! data at any depth; tuples have no dict of their own -/
mutual
inductive Dz (K : PySem.W.Frag) (H : Hp) : V → PyData → Prop
  | non : Dz K H .non .none
  | bl (b : Bool) : Dz K H (.bl b) (.bool b)
  | int (i : Int) : Dz K H (.int i) (.int i)
  | str (x : Str) : Dz K H (.str x) (.str x)
  | lst {a : Addr} {xs : List V} {ds : List PyData} : SqL K H a xs → DzAll K H xs ds → Dz K H (.ref a) (.list ds)
  | tup {a : Addr} {xs : List V} {ds : List PyData} : Pt K H a xs → DzAll K H xs ds → Dz K H (.ref a) (.tuple ds)
inductive DzAll (K : PySem.W.Frag) (H : Hp) : List V → List PyData → Prop
  | nil : DzAll K H [] []
  | cons {v : V} {vs : List V} {d : PyData} {ds : List PyData} : Dz K H v d → DzAll K H vs ds → DzAll K H (v :: vs) (d :: ds)
end
section
variable {K : PySem.W.Frag} {H H' : Hp}
mutual
theorem dz_dp : ∀ (d : PyData) (v : V), Dz K H v d → Dp K H v d
  | .none, _, h => by cases h; exact .non
  | .bool b, _, h => by cases h; exact .bl b
  | .int i, _, h => by cases h; exact .int i
  | .str x, _, h => by cases h; exact .str x
  | .list ds, _, h => by
    cases h with
    | lst hs ha => exact .lst hs (dza_dpa ds _ ha)
  | .tuple ds, _, h => by
    cases h with
    | tup hs ha => exact .tup hs.sq (dza_dpa ds _ ha)
  | .dict _, _, h => by cases h
theorem dza_dpa : ∀ (ds : List PyData) (vs : List V), DzAll K H vs ds → DpAll K H vs ds
  | [], _, h => by cases h; exact .nil
  | d :: ds, _, h => by
    cases h with
    | cons h1 h2 => exact .cons (dz_dp d _ h1) (dza_dpa ds _ h2)
end
end

section
variable {K : PySem.W.Frag} {H H' : Hp}
theorem ex_rd {a : Addr} {u : HO} (e : Ex H H') (h : Rd H a u) : Rd H' a u := by
  rcases h with h | ⟨o, h⟩
  · exact Or.inl (e a _ h)
  · exact Or.inr ⟨o, e a _ h⟩
theorem ex_l {a : Addr} {xs : List V} (e : Ex H H') (h : SqL K H a xs) : SqL K H' a xs := by
  rcases h with h | h
  · exact Or.inl (ex_rd e h)
  · exact Or.inr h
theorem ex_t {a : Addr} {xs : List V} (e : Ex H H') (h : SqT K H a xs) : SqT K H' a xs := by
  rcases h with h | h
  · exact Or.inl (ex_rd e h)
  · exact Or.inr h
theorem ex_p {a : Addr} {xs : List V} (e : Ex H H') (h : Pt K H a xs) : Pt K H' a xs := by
  rcases h with ⟨o, h, z⟩ | h
  · exact .inl ⟨o, e a _ h, z⟩
  · exact .inr h
theorem sq_of {a : Addr} {xs : List V} (h : H a = some (.lst xs)) : SqL K H a xs := Or.inl (Or.inl h)
theorem pt_of {a : Addr} {o : Obj} {xs : List V} (h : H a = some (.frz o (.tup xs))) (z : o.dict = none) : Pt K H a xs := .inl ⟨o, h, z⟩
mutual
theorem dp_mono (e : Ex H H') : ∀ (d : PyData) (v : V), Dz K H v d → Dz K H' v d
  | .none, _, h => by cases h; exact .non
  | .bool b, _, h => by cases h; exact .bl b
  | .int i, _, h => by cases h; exact .int i
  | .str x, _, h => by cases h; exact .str x
  | .list ds, _, h => by
    cases h with
    | lst hs ha => exact .lst (ex_l e hs) (dpa_mono e ds _ ha)
  | .tuple ds, _, h => by
    cases h with
    | tup hs ha => exact .tup (ex_p e hs) (dpa_mono e ds _ ha)
  | .dict _, _, h => by cases h
theorem dpa_mono (e : Ex H H') : ∀ (ds : List PyData) (vs : List V), DzAll K H vs ds → DzAll K H' vs ds
  | [], _, h => by cases h; exact .nil
  | d :: ds, _, h => by
    cases h with
    | cons h1 h2 => exact .cons (dp_mono e d _ h1) (dpa_mono e ds _ h2)
end
theorem dpm (e : Ex H H') {d : PyData} {v : V} (h : Dz K H v d) : Dz K H' v d := dp_mono e d v h
theorem dpam (e : Ex H H') {ds : List PyData} {vs : List V} (h : DzAll K H vs ds) : DzAll K H' vs ds := dpa_mono e ds vs h
theorem dp_int {v : V} {i : Int} (h : Dz K H v (.int i)) : v = .int i := by cases h; rfl
theorem dp_bl {v : V} {b : Bool} (h : Dz K H v (.bool b)) : v = .bl b := by cases h; rfl
theorem dp_str {v : V} {x : Str} (h : Dz K H v (.str x)) : v = .str x := by cases h; rfl
theorem dp_non {v : V} (h : Dz K H v .none) : v = .non := by cases h; rfl
theorem dp_tup {v : V} {ds : List PyData} (h : Dz K H v (.tuple ds)) : ∃ a xs, v = .ref a ∧ Pt K H a xs ∧ DzAll K H xs ds := by
  cases h with
  | tup hs ha => exact ⟨_, _, rfl, hs, ha⟩
theorem dp_lst {v : V} {ds : List PyData} (h : Dz K H v (.list ds)) : ∃ a xs, v = .ref a ∧ SqL K H a xs ∧ DzAll K H xs ds := by
  cases h with
  | lst hs ha => exact ⟨_, _, rfl, hs, ha⟩
theorem dpa_length : ∀ {ds : List PyData} {xs : List V}, DzAll K H xs ds → xs.length = ds.length
  | [], _, h => by cases h; rfl
  | _ :: _, _, h => by
    cases h with
    | cons _ h2 => rw [List.length_cons, List.length_cons, dpa_length h2]
theorem dpa_get : ∀ {ds : List PyData} {xs : List V} {i : Nat} {d : PyData}, DzAll K H xs ds → ds[i]? = some d → ∃ v, xs[i]? = some v ∧ Dz K H v d
  | [], _, _, _, h, e => by simp at e
  | d :: ds, _, 0, _, h, e => by
    cases h with
    | cons h1 h2 =>
      have e' := Option.some.inj e
      subst e'
      exact ⟨_, rfl, h1⟩
  | d :: ds, _, i + 1, d', h, e => by
    cases h with
    | cons h1 h2 =>
      obtain ⟨v, a, b⟩ := dpa_get (i := i) (d := d') h2 (by simpa using e)
      exact ⟨v, by simpa using a, b⟩
theorem dpa_getV : ∀ {ds : List PyData} {xs : List V} {i : Nat} {v : V}, DzAll K H xs ds → xs[i]? = some v → ∃ d, ds[i]? = some d ∧ Dz K H v d := fun {ds xs i v} h e => by
  have hl := dpa_length h
  have hi : i < xs.length := (List.getElem?_eq_some_iff.mp e).1
  have hi' : i < ds.length := by omega
  have ⟨w, a, b⟩ := dpa_get h (List.getElem?_eq_getElem hi')
  rw [a] at e; cases e
  exact ⟨_, List.getElem?_eq_getElem hi', b⟩
theorem dpa_append : ∀ {ds es : List PyData} {xs ys : List V}, DzAll K H xs ds → DzAll K H ys es → DzAll K H (xs ++ ys) (ds ++ es)
  | [], _, _, _, h, h2 => by cases h; exact h2
  | _ :: _, _, _, _, h, h2 => by
    cases h with
    | cons a b => exact .cons a (dpa_append b h2)
theorem dpa_set : ∀ {ds : List PyData} {xs : List V} {v : V} {d : PyData} (i : Nat), DzAll K H xs ds → Dz K H v d → DzAll K H (xs.set i v) (ds.set i d)
  | [], _, _, _, _, h, _ => by cases h; exact .nil
  | _ :: _, _, _, _, 0, h, h2 => by
    cases h with
    | cons a b => exact .cons h2 b
  | _ :: _, _, _, _, i + 1, h, h2 => by
    cases h with
    | cons a b => exact .cons a (dpa_set i b h2)
theorem dpa_take : ∀ {ds : List PyData} {xs : List V} (n : Nat), DzAll K H xs ds → DzAll K H (xs.take n) (ds.take n)
  | _, _, 0, _ => by simp; exact .nil
  | [], _, _ + 1, h => by cases h; exact .nil
  | _ :: _, _, n + 1, h => by
    cases h with
    | cons a b => exact .cons a (dpa_take n b)
theorem dpa_drop : ∀ {ds : List PyData} {xs : List V} (n : Nat), DzAll K H xs ds → DzAll K H (xs.drop n) (ds.drop n)
  | _, _, 0, h => h
  | [], _, _ + 1, h => by cases h; exact .nil
  | _ :: _, _, n + 1, h => by
    cases h with
    | cons a b => exact dpa_drop n b
theorem dpa_rev {ds : List PyData} {xs : List V} (h : DzAll K H xs ds) : DzAll K H xs.reverse ds.reverse := by
  induction ds generalizing xs with
  | nil => cases h; exact .nil
  | cons d ds ih =>
    cases h with
    | cons a b =>
      rw [List.reverse_cons, List.reverse_cons]
      exact dpa_append (ih b) (.cons a .nil)
theorem dpa_rep {ds : List PyData} {xs : List V} (h : DzAll K H xs ds) : ∀ k : Nat, DzAll K H (List.replicate k xs).flatten (List.replicate k ds).flatten
  | 0 => by simp; exact .nil
  | k + 1 => by
    rw [List.replicate_succ, List.replicate_succ, List.flatten_cons, List.flatten_cons]
    exact dpa_append h (dpa_rep h k)
theorem dpaInts : ∀ {ns : List Int} {xs : List V}, DzAll K H xs (ns.map .int) → xs = ns.map V.int
  | [], _, h => by cases h; rfl
  | n :: ns, _, h => by
    cases h with
    | cons a b => rw [dp_int a, dpaInts b]; rfl
theorem dpa_ints : ∀ (ns : List Int), DzAll K H (ns.map V.int) (ns.map .int)
  | [] => .nil
  | n :: ns => .cons (.int n) (dpa_ints ns)
theorem dpaBools : ∀ {ns : List Bool} {xs : List V}, DzAll K H xs (ns.map .bool) → xs = ns.map V.bl
  | [], _, h => by cases h; rfl
  | n :: ns, _, h => by
    cases h with
    | cons a b => rw [dp_bl a, dpaBools b]; rfl
end

/-! ### what a frame holds -/
inductive MO where
  | lst (ds : List PyData)
  | dK (kvs : List (Key × PyData))
  | dT (kvs : List (List Key × PyData))
  /-- a list, of which P is known -/
  | any (P : List PyData → Prop)
inductive Sl where
  /-- nothing is known -/
  | no
  /-- data, never changed -/
  | da (d : PyData)
  /-- a thing that may change: of the frame's own (l), or borrowed -/
  | mu (l : Bool) (a : Addr) (o : MO)
  /-- just this value -/
  | vl (v : V)
structure Cz where
  K : PySem.W.Frag
  /-- the heap at the entry -/
  B : Hp
  /-- what is borrowed and may be changed -/
  M : List Addr
  /-- what the caller hides -/
  S0 : List Addr
def mutA : Sl → Option Addr
  | .mu _ a _ => some a
  | _ => none
def muts (ρ : List Sl) : List Addr := ρ.filterMap mutA
abbrev hid (c : Cz) (ρ : List Sl) : List Addr := c.S0 ++ muts ρ
theorem mem_muts {ρ : List Sl} {a : Addr} : a ∈ muts ρ ↔ ∃ (i : Nat) (l : Bool) (o : MO), ρ[i]? = some (Sl.mu l a o) := by
  unfold muts
  rw [List.mem_filterMap]
  constructor
  · rintro ⟨s, hs, e⟩
    obtain ⟨i, hi⟩ := List.mem_iff_getElem?.mp hs
    cases s <;> simp [mutA] at e
    subst e
    exact ⟨i, _, _, hi⟩
  · rintro ⟨i, l, o, h⟩
    exact ⟨_, List.mem_of_getElem? h, rfl⟩
def KVd {κ : Type} (K : PySem.W.Frag) (H : Hp) : List (κ × V) → List (κ × PyData) → Prop := Paired fun p q => p.1 = q.1 ∧ Dz K H p.2 q.2
def MoOk (K : PySem.W.Frag) (S : List Addr) (H : Hp) (a : Addr) : MO → Prop
  | .lst ds => ∃ xs, H a = some (.lst xs) ∧ DzAll K (hide S H) xs ds
  | .dK kvs => ∃ xs, H a = some (.dK xs) ∧ KVd K (hide S H) xs kvs
  | .dT kvs => ∃ xs, H a = some (.dT xs) ∧ KVd K (hide S H) xs kvs
  | .any P => ∃ xs, H a = some (.lst xs) ∧ ∃ ds, P ds ∧ DzAll K (hide S H) xs ds
def SlOk (c : Cz) (S : List Addr) (H : Hp) (x : Option (Option V)) : Sl → Prop
  | .no => True
  | .da d => ∃ v, x = some (some v) ∧ Dz c.K (hide S H) v d
  | .mu l a o => x = some (some (.ref a)) ∧ (if l = true then c.B a = none else a ∈ c.M) ∧ MoOk c.K S H a o
  | .vl v => x = some (some v)
theorem MoOk.there {K : PySem.W.Frag} {S : List Addr} {H : Hp} {a : Addr} {o : MO} (h : MoOk K S H a o) : ∃ u, H a = some u := by
  cases o <;> exact ⟨_, h.choose_spec.1⟩
theorem KVd.mono {κ : Type} {K : PySem.W.Frag} {H H' : Hp} {xs : List (κ × V)} {kvs : List (κ × PyData)} (e : Ex H H') (h : KVd K H xs kvs) : KVd K H' xs kvs :=
  Paired.mapP h fun _ _ z => ⟨z.1, dpm e z.2⟩
theorem MoOk.mono {K : PySem.W.Frag} {S S' : List Addr} {H H' : Hp} {a : Addr} {o : MO} (e : Ex (hide S H) (hide S' H')) (he : H' a = H a) (h : MoOk K S H a o) : MoOk K S' H' a o := by
  cases o with
  | lst ds => obtain ⟨xs, h1, h2⟩ := h; exact ⟨xs, he.trans h1, dpam e h2⟩
  | dK ds => obtain ⟨xs, h1, h2⟩ := h; exact ⟨xs, he.trans h1, h2.mono e⟩
  | dT ds => obtain ⟨xs, h1, h2⟩ := h; exact ⟨xs, he.trans h1, h2.mono e⟩
  | any P => obtain ⟨xs, h1, ds, h3, h2⟩ := h; exact ⟨xs, he.trans h1, ds, h3, dpam e h2⟩

abbrev Tm := List (V × PyData)
structure Wd (c : Cz) (T : Tm) (H : Hp) (σ : L2.St) (ρ : List Sl) : Prop where
  len : σ.length = ρ.length
  keep : ∀ a o, a ∉ c.M → c.B a = some o → H a = some o
  sub : ∀ a ∈ c.M, a ∈ c.S0
  dom : ∀ a ∈ c.S0, ∃ o, H a = some o
  tmp : ∀ p ∈ T, Dz c.K (hide (hid c ρ) H) p.1 p.2
  inj : ∀ (i j : Nat) (l m : Bool) (a : Addr) (o u : MO), ρ[i]? = some (Sl.mu l a o) → ρ[j]? = some (Sl.mu m a u) → i = j
  ap : ∀ (i : Nat) (a : Addr) (o : MO), ρ[i]? = some (Sl.mu true a o) → a ∉ c.S0
  ok : ∀ (i : Nat) (s : Sl), ρ[i]? = some s → SlOk c (hid c ρ) H σ[i]? s

section
variable {c : Cz} {T : Tm} {H H' : Hp} {σ σ' : L2.St} {ρ ρ' : List Sl}
theorem Wd.there (W : Wd c T H σ ρ) {a : Addr} (h : a ∈ hid c ρ) : ∃ o, H a = some o := by
  rcases List.mem_append.mp h with h | h
  · exact W.dom a h
  · obtain ⟨i, l, o, e⟩ := mem_muts.mp h
    exact (W.ok i _ e).2.2.there
theorem Wd.fresh (W : Wd c T H σ ρ) {p : Addr} (h : H p = none) : p ∉ hid c ρ := fun m => by
  obtain ⟨o, e⟩ := W.there m
  rw [h] at e; cases e
theorem Wd.freshB (W : Wd c T H σ ρ) {p : Addr} (h : H p = none) : c.B p = none := by
  cases e : c.B p with
  | none => rfl
  | some o =>
    have n : p ∉ c.M := fun m => W.fresh h (List.mem_append_left _ (W.sub p m))
    have := W.keep p o n e
    rw [h] at this; cases this
/-- the heap has grown -/
theorem Wd.grow (W : Wd c T H σ ρ) (e : Ex H H') : Wd c T H' σ ρ := by
  have e2 : Ex (hide (hid c ρ) H) (hide (hid c ρ) H') := hide_mono fun a o n h => ⟨n, e a o h⟩
  refine ⟨W.len, fun a o n h => e _ _ (W.keep a o n h), W.sub, fun a h => ?_, fun p hp => dpm e2 (W.tmp p hp), W.inj, W.ap, fun i s h => ?_⟩
  · obtain ⟨o, h1⟩ := W.dom a h
    exact ⟨o, e _ _ h1⟩
  · have h1 := W.ok i s h
    cases s with
    | no => exact h1
    | da d => obtain ⟨v, a, b⟩ := h1; exact ⟨v, a, dpm e2 b⟩
    | mu l a o =>
      obtain ⟨x, y, z⟩ := h1
      obtain ⟨u, hu⟩ := z.there
      exact ⟨x, y, z.mono e2 (by rw [hu, e _ _ hu])⟩
    | vl v => exact h1
theorem Wd.push (W : Wd c T H σ ρ) {v : V} {d : PyData} (h : Dz c.K (hide (hid c ρ) H) v d) : Wd c ((v, d) :: T) H σ ρ :=
  ⟨W.len, W.keep, W.sub, W.dom, fun p hp => by
    rcases List.mem_cons.mp hp with e | e
    · subst e; exact h
    · exact W.tmp p e, W.inj, W.ap, W.ok⟩
theorem Wd.tmps {T' : Tm} (W : Wd c T H σ ρ) (h : ∀ p ∈ T', p ∈ T) : Wd c T' H σ ρ := ⟨W.len, W.keep, W.sub, W.dom, fun p hp => W.tmp p (h p hp), W.inj, W.ap, W.ok⟩
theorem Wd.pop {p : V × PyData} (W : Wd c (p :: T) H σ ρ) : Wd c T H σ ρ := W.tmps fun _ h => List.mem_cons_of_mem _ h
theorem Wd.top {v : V} {d : PyData} (W : Wd c ((v, d) :: T) H σ ρ) : Dz c.K H v d := dpm (hide_ex _ _) (W.tmp (v, d) (List.mem_cons_self ..))
theorem Wd.at {v : V} {d : PyData} (W : Wd c T H σ ρ) (h : (v, d) ∈ T) : Dz c.K H v d := dpm (hide_ex _ _) (W.tmp _ h)
theorem slOk_mono {S S' : List Addr} {x : Option (Option V)} {s : Sl} (e : Ex (hide S H) (hide S' H')) (he : ∀ a, mutA s = some a → H' a = H a) (h : SlOk c S H x s) : SlOk c S' H' x s := by
  cases s with
  | no => exact h
  | da d => obtain ⟨v, a, b⟩ := h; exact ⟨v, a, dpm e b⟩
  | mu l a o => obtain ⟨x, y, z⟩ := h; exact ⟨x, y, z.mono e (he a rfl)⟩
  | vl v => exact h
theorem get_set {α : Type} {l : List α} {i j : Nat} {x y : α} (h : (l.set i x)[j]? = some y) : (i = j ∧ i < l.length ∧ y = x) ∨ (i ≠ j ∧ l[j]? = some y) := by
  by_cases q : i = j
  · subst q
    have hi := (List.getElem?_eq_some_iff.mp h).1
    rw [List.length_set] at hi
    rw [List.getElem?_set_self hi] at h
    cases h
    exact .inl ⟨rfl, hi, rfl⟩
  · rw [List.getElem?_set_ne q] at h
    exact .inr ⟨q, h⟩
/-- a slot is stored, nothing that may change -/
theorem Wd.setN (W : Wd c T H σ ρ) (i : Nat) (x : Option V) (s : Sl) (hs : mutA s = none) (h : SlOk c (hid c ρ) H (some x) s) : Wd c T H (σ.set i x) (ρ.set i s) := by
  have r : ∀ {j : Nat} {l : Bool} {a : Addr} {o : MO}, (ρ.set i s)[j]? = some (.mu l a o) → i ≠ j ∧ ρ[j]? = some (.mu l a o) := fun {j l a o} h => by
    rcases get_set h with ⟨_, _, e⟩ | e
    · rw [← e] at hs; cases hs
    · exact e
  have sub : ∀ a, a ∈ hid c (ρ.set i s) → a ∈ hid c ρ := fun a m => by
    rcases List.mem_append.mp m with m | m
    · exact List.mem_append_left _ m
    · obtain ⟨j, l, o, e⟩ := mem_muts.mp m
      exact List.mem_append_right _ (mem_muts.mpr ⟨j, l, o, (r e).2⟩)
  have e2 : Ex (hide (hid c ρ) H) (hide (hid c (ρ.set i s)) H) := hide_mono fun a o n h => ⟨fun m => n (sub a m), h⟩
  refine ⟨by rw [List.length_set, List.length_set]; exact W.len, W.keep, W.sub, W.dom, fun p hp => dpm e2 (W.tmp p hp), fun j k l m a o u h1 h2 => W.inj j k l m a o u (r h1).2 (r h2).2, fun j a o h1 => W.ap j a o (r h1).2, fun j z hz => ?_⟩
  rcases get_set hz with ⟨q, hi, e⟩ | ⟨q, e⟩
  · subst q; subst e
    rw [List.getElem?_set_self (by rw [W.len]; exact hi)]
    exact slOk_mono e2 (fun _ _ => rfl) h
  · rw [List.getElem?_set_ne q]
    exact slOk_mono e2 (fun _ _ => rfl) (W.ok j z e)
theorem Wd.setD {v : V} {d : PyData} (W : Wd c T H σ ρ) (i : Nat) (h : Dz c.K (hide (hid c ρ) H) v d) : Wd c T H (σ.set i (some v)) (ρ.set i (.da d)) :=
  W.setN i (some v) (.da d) rfl ⟨v, rfl, h⟩
/-- what stands at p is hidden too -/
abbrev Cz.hidden (c : Cz) (p : Addr) : Cz := { c with S0 := p :: c.S0 }
theorem Wd.unhide {p : Addr} (W : Wd (c.hidden p) T H σ ρ) (hs : ∀ a ∈ c.M, a ∈ c.S0) : Wd c T H σ ρ := by
  have e2 : Ex (hide (hid (c.hidden p) ρ) H) (hide (hid c ρ) H) := hide_mono fun a o n h => ⟨fun m => n (List.mem_cons_of_mem _ m), h⟩
  exact ⟨W.len, W.keep, hs, fun a h => W.dom a (List.mem_cons_of_mem _ h), fun q hq => dpm e2 (W.tmp q hq), W.inj, fun i a o h m => W.ap i a o h (List.mem_cons_of_mem _ m), fun i s h => by
    have := slOk_mono (H' := H) e2 (fun _ _ => rfl) (W.ok i s h)
    cases s <;> exact this⟩
/-- a fresh thing is hidden -/
theorem Wd.hideNew {p : Addr} {o : HO} (W : Wd c T H σ ρ) (h : H p = none) : Wd (c.hidden p) T (upd H p o) σ ρ := by
  have W2 := W.grow (Ex.new (o := o) h)
  have n := W.fresh h
  have e2 : Ex (hide (hid c ρ) H) (hide (hid (c.hidden p) ρ) (upd H p o)) := hide_mono fun a u m e => ⟨fun q => by
    rcases List.mem_cons.mp q with q | q
    · rw [q, h] at e; cases e
    · exact m q, Ex.new h a u e⟩
  refine ⟨W.len, W2.keep, fun a m => List.mem_cons_of_mem _ (W.sub a m), fun a m => ?_, fun q hq => dpm e2 (W.tmp q hq), W.inj, fun i a u e m => ?_, fun i s m => ?_⟩
  · rcases List.mem_cons.mp m with m | m
    · rw [m]; exact ⟨o, upd_same⟩
    · exact W2.dom a m
  · rcases List.mem_cons.mp m with m | m
    · obtain ⟨z, hz⟩ := (W.ok i _ e).2.2.there
      rw [m, h] at hz; cases hz
    · exact W.ap i a u e m
  · have := slOk_mono (c := c) (H' := upd H p o) e2 (fun a e => by
      cases s with
      | mu l b o' =>
        cases e
        obtain ⟨u, hu⟩ := (W.ok i _ m).2.2.there
        exact upd_ne (ne_of_none hu h)
      | _ => cases e) (W.ok i s m)
    cases s <;> exact this
theorem Wd.notin {p : Addr} (W : Wd (c.hidden p) T H σ ρ) (h0 : p ∉ c.S0) (hs : ∀ a ∈ c.M, a ∈ c.S0) : p ∉ hid c ρ := fun m => by
  rcases List.mem_append.mp m with m | m
  · exact h0 m
  · obtain ⟨i, l, o, e⟩ := mem_muts.mp m
    cases l with
    | true => exact W.ap i p o e (List.mem_cons_self ..)
    | false =>
      have := (W.ok i _ e).2.1
      rw [if_neg (by decide)] at this
      exact h0 (hs p this)
/-- a slot takes a thing that may change -/
theorem Wd.setM {p : Addr} {l : Bool} {o : MO} (W : Wd (c.hidden p) T H σ ρ) (hs : ∀ a ∈ c.M, a ∈ c.S0) (i : Nat) (hB : if l = true then c.B p = none else p ∈ c.M) (hn : p ∉ hid c ρ) (h : MoOk c.K (p :: hid c ρ) H p o) :
    Wd c T H (σ.set i (some (.ref p))) (ρ.set i (.mu l p o)) := by
  have nm : ∀ (j : Nat) (m : Bool) (u : MO), ρ[j]? ≠ some (.mu m p u) := fun j m u e => hn (List.mem_append_right _ (mem_muts.mpr ⟨j, m, u, e⟩))
  have sub : ∀ a, a ∈ hid c (ρ.set i (.mu l p o)) → a ∈ hid (c.hidden p) ρ := fun a m => by
    rcases List.mem_append.mp m with m | m
    · exact List.mem_append_left _ (List.mem_cons_of_mem _ m)
    · obtain ⟨j, l', u, e⟩ := mem_muts.mp m
      rcases get_set e with ⟨_, _, e⟩ | ⟨_, e⟩
      · cases e; exact List.mem_append_left _ (List.mem_cons_self ..)
      · exact List.mem_append_right _ (mem_muts.mpr ⟨j, l', u, e⟩)
  have e2 : Ex (hide (hid (c.hidden p) ρ) H) (hide (hid c (ρ.set i (.mu l p o))) H) := hide_mono fun a o n h => ⟨fun m => n (sub a m), h⟩
  refine ⟨by rw [List.length_set, List.length_set]; exact W.len, W.keep, hs, fun a h => W.dom a (List.mem_cons_of_mem _ h), fun q hq => dpm e2 (W.tmp q hq), fun j k l1 l2 a u u' h1 h2 => ?_, fun j a u h1 => ?_, fun j z hz => ?_⟩
  · rcases get_set h1 with ⟨q, _, e⟩ | ⟨q, e⟩
    · rcases get_set h2 with ⟨q2, _, e'⟩ | ⟨q2, e'⟩
      · exact q.symm.trans q2
      · cases e; exact absurd e' (nm k l2 u')
    · rcases get_set h2 with ⟨q2, _, e'⟩ | ⟨q2, e'⟩
      · cases e'; exact absurd e (nm j l1 u)
      · exact W.inj j k l1 l2 a u u' e e'
  · rcases get_set h1 with ⟨_, _, e⟩ | ⟨_, e⟩
    · cases e; exact fun m => hn (List.mem_append_left _ m)
    · exact fun m => W.ap j a u e (List.mem_cons_of_mem _ m)
  · rcases get_set hz with ⟨q, hi, e⟩ | ⟨q, e⟩
    · subst q; subst e
      rw [List.getElem?_set_self (by rw [W.len]; exact hi)]
      exact ⟨rfl, hB, h.mono e2 rfl⟩
    · rw [List.getElem?_set_ne q]
      have := slOk_mono (H' := H) e2 (fun _ _ => rfl) (W.ok j z e)
      cases z <;> exact this
/-- what may change has changed -/
theorem Wd.chg {a : Addr} {l : Bool} {o o' : MO} {i : Nat} (W : Wd c T H σ ρ) (hi : ρ[i]? = some (.mu l a o)) (hk : ∀ b u, b ≠ a → H b = some u → H' b = some u) (h : MoOk c.K (hid c ρ) H' a o') : Wd c T H' σ (ρ.set i (.mu l a o')) := by
  obtain ⟨h1, h2, h3⟩ := W.ok i _ hi
  have hm : a ∈ hid c ρ := List.mem_append_right _ (mem_muts.mpr ⟨i, l, o, hi⟩)
  have r : ∀ {j : Nat} {m : Bool} {b : Addr} {u : MO}, (ρ.set i (.mu l a o'))[j]? = some (.mu m b u) → ∃ u', ρ[j]? = some (.mu m b u') := fun {j m b u} h => by
    rcases get_set h with ⟨q, _, e⟩ | ⟨_, e⟩
    · cases e; subst q; exact ⟨_, hi⟩
    · exact ⟨_, e⟩
  have sub : ∀ b, b ∈ hid c (ρ.set i (.mu l a o')) → b ∈ hid c ρ := fun b m => by
    rcases List.mem_append.mp m with m | m
    · exact List.mem_append_left _ m
    · obtain ⟨j, m', v, e⟩ := mem_muts.mp m
      obtain ⟨v', e⟩ := r e
      exact List.mem_append_right _ (mem_muts.mpr ⟨j, m', v', e⟩)
  have e2 : Ex (hide (hid c ρ) H) (hide (hid c (ρ.set i (.mu l a o'))) H') := hide_mono fun b v n h => ⟨fun m => n (sub b m), hk b v (fun q => by rw [q] at n; exact n hm) h⟩
  have e3 : Ex (hide (hid c ρ) H') (hide (hid c (ρ.set i (.mu l a o'))) H') := hide_mono fun b v n h => ⟨fun m => n (sub b m), h⟩
  refine ⟨by rw [List.length_set]; exact W.len, fun b v n e => ?_, W.sub, fun b hb => ?_, fun q hq => dpm e2 (W.tmp q hq), fun j k m m' b v v' g1 g2 => ?_, fun j b v g => ?_, fun j z hz => ?_⟩
  · refine hk b v ?_ (W.keep b v n e)
    intro q
    subst q
    cases l with
    | true => rw [if_pos rfl] at h2; rw [h2] at e; cases e
    | false => rw [if_neg (by decide)] at h2; exact n h2
  · by_cases q : b = a
    · subst q; exact h.there
    · obtain ⟨o, e⟩ := W.dom b hb
      exact ⟨o, hk b o q e⟩
  · obtain ⟨w, g1⟩ := r g1
    obtain ⟨w', g2⟩ := r g2
    exact W.inj j k m m' b w w' g1 g2
  · obtain ⟨w, g⟩ := r g
    exact W.ap j b w g
  · rcases get_set hz with ⟨q, _, e⟩ | ⟨q, e⟩
    · subst q; subst e
      exact ⟨h1, h2, h.mono e3 rfl⟩
    · refine slOk_mono e2 (fun b eb => ?_) (W.ok j z e)
      cases z with
      | mu m b' v =>
        cases eb
        have nb : b ≠ a := fun eab => q (by rw [eab] at e; exact W.inj i j l m a _ _ hi e)
        obtain ⟨u, hu⟩ := (W.ok j _ e).2.2.there
        rw [hu, hk _ _ nb hu]
      | _ => cases eb
theorem Wd.updM {a : Addr} {l : Bool} {o o' : MO} {i : Nat} {u : HO} (W : Wd c T H σ ρ) (hi : ρ[i]? = some (.mu l a o)) (h : MoOk c.K (hid c ρ) (upd H a u) a o') : Wd c T (upd H a u) σ (ρ.set i (.mu l a o')) :=
  W.chg hi (fun b v n e => by rw [upd_ne n]; exact e) h
end
def MoLe (o u : MO) : Prop := o = u ∨ ∃ ds P, o = .lst ds ∧ u = .any P ∧ P ds
theorem MoOk.le {K : PySem.W.Frag} {S : List Addr} {H : Hp} {a : Addr} {o u : MO} (h : MoOk K S H a o) (l : MoLe o u) : MoOk K S H a u := by
  rcases l with rfl | ⟨ds, P, rfl, rfl, p⟩
  · exact h
  · obtain ⟨xs, h1, h2⟩ := h
    exact ⟨xs, h1, ds, p, h2⟩
/-- weaker: slots forgotten, things frozen -/
def slLe : Sl → Sl → Prop
  | _, .no => True
  | .da d, .da e => d = e
  | .mu l _ (.lst ds), .da e => l = true ∧ .list ds = e
  | .mu l a o, .mu m b u => l = m ∧ a = b ∧ MoLe o u
  | .vl v, .vl w => v = w
  | _, _ => False
theorem Wd.weak {c : Cz} {T : Tm} {H : Hp} {σ : L2.St} {ρ ρ' : List Sl} (W : Wd c T H σ ρ) (hl : ρ.length = ρ'.length) (h : ∀ (i : Nat) (s s' : Sl), ρ[i]? = some s → ρ'[i]? = some s' → slLe s s') : Wd c T H σ ρ' := by
  have gt : ∀ {i : Nat} {s' : Sl}, ρ'[i]? = some s' → ∃ s, ρ[i]? = some s ∧ slLe s s' := fun {i s'} e => by
    have hi := (List.getElem?_eq_some_iff.mp e).1
    have hi' : i < ρ.length := by omega
    exact ⟨_, List.getElem?_eq_getElem hi', h i _ _ (List.getElem?_eq_getElem hi') e⟩
  have r : ∀ {j : Nat} {m : Bool} {b : Addr} {u : MO}, ρ'[j]? = some (.mu m b u) → ∃ o, ρ[j]? = some (.mu m b o) := fun {j m b u} e => by
    obtain ⟨s, e1, l⟩ := gt e
    cases s with
    | mu l' a' o' =>
      obtain ⟨rfl, rfl, _⟩ : l' = m ∧ a' = b ∧ MoLe o' u := l
      exact ⟨_, e1⟩
    | _ => exact l.elim
  have sub : ∀ b, b ∈ hid c ρ' → b ∈ hid c ρ := fun b m => by
    rcases List.mem_append.mp m with m | m
    · exact List.mem_append_left _ m
    · obtain ⟨j, l, v, e⟩ := mem_muts.mp m
      obtain ⟨o, e⟩ := r e
      exact List.mem_append_right _ (mem_muts.mpr ⟨j, l, o, e⟩)
  have e2 : Ex (hide (hid c ρ) H) (hide (hid c ρ') H) := hide_mono fun a o n h => ⟨fun m => n (sub a m), h⟩
  refine ⟨W.len.trans hl, W.keep, W.sub, W.dom, fun q hq => dpm e2 (W.tmp q hq), fun i j l m a o u h1 h2 => W.inj i j l m a _ _ (r h1).choose_spec (r h2).choose_spec, fun i a o h => W.ap i a _ (r h).choose_spec, fun i s' e => ?_⟩
  obtain ⟨s, e1, le⟩ := gt e
  have ok := slOk_mono (H' := H) e2 (fun _ _ => rfl) (W.ok i s e1)
  cases s' with
  | no => exact trivial
  | da d =>
    cases s with
    | da e =>
      have le : e = d := le
      subst le
      exact ok
    | mu l a o =>
      cases o with
      | lst ds =>
        obtain ⟨rfl, rfl⟩ : l = true ∧ PyData.list ds = d := le
        obtain ⟨x, y, xs, z1, z2⟩ := ok
        rw [if_pos rfl] at y
        refine ⟨.ref a, x, .lst (sq_of (hide_of (fun m => ?_) z1)) z2⟩
        rcases List.mem_append.mp m with m | m
        · exact W.ap i a _ e1 m
        · obtain ⟨j, m', v, e'⟩ := mem_muts.mp m
          have := W.inj i j _ _ _ _ _ e1 (r e').choose_spec
          subst this
          rw [e] at e'
          cases e'
      | dK _ => exact le.elim
      | dT _ => exact le.elim
      | any _ => exact le.elim
    | no => exact le.elim
    | vl _ => exact le.elim
  | mu m b u =>
    cases s with
    | mu l a o =>
      obtain ⟨rfl, rfl, le⟩ : l = m ∧ a = b ∧ MoLe o u := le
      obtain ⟨x, y, z⟩ := ok
      exact ⟨x, y, z.le le⟩
    | _ => exact le.elim
  | vl w =>
    cases s with
    | vl v =>
      have le : v = w := le
      subst le
      exact ok
    | _ => exact le.elim

theorem set_no {ρ : List Sl} {j : Nat} (h : ρ[j]? = some .no) : ρ.set j .no = ρ := by
  apply List.ext_getElem?
  intro k
  by_cases q : j = k
  · subst q
    rw [List.getElem?_set_self (List.getElem?_eq_some_iff.mp h).1, h]
  · rw [List.getElem?_set_ne q]
theorem Wd.wipe {c : Cz} {T : Tm} {H : Hp} {σ : L2.St} {ρ : List Sl} : ∀ {vs : List Nat}, Wd c T H σ ρ → (∀ j ∈ vs, ρ[j]? = some .no) → Wd c T H (L2.wipe σ vs) ρ
  | [], W, _ => W
  | v :: vs, W, h => by
    have W1 := Wd.wipe (vs := vs) W fun j hj => h j (List.mem_cons_of_mem _ hj)
    have W2 := W1.setN v none .no rfl trivial
    rw [set_no (h v (List.mem_cons_self ..))] at W2
    exact W2
theorem wipe_get {σ : L2.St} {i : Nat} : ∀ {vs : List Nat}, i ∉ vs → (L2.wipe σ vs)[i]? = σ[i]?
  | [], _ => rfl
  | v :: vs, h => by
    show ((L2.wipe σ vs).set v none)[i]? = _
    have n : v ≠ i := fun e => h (by rw [e]; exact List.mem_cons_self ..)
    rw [List.getElem?_set_ne n, wipe_get fun m => h (List.mem_cons_of_mem _ m)]
theorem Wd.unwipe {c : Cz} {T : Tm} {H : Hp} {σ : L2.St} {ρ : List Sl} {vs : List Nat} (W : Wd c T H (L2.wipe σ vs) ρ) (h : ∀ j ∈ vs, ρ[j]? = some .no) : Wd c T H σ ρ := by
  refine ⟨by rw [← W.len, L2.wipe_length], W.keep, W.sub, W.dom, W.tmp, W.inj, W.ap, fun i s e => ?_⟩
  by_cases q : i ∈ vs
  · rw [h i q] at e; cases e; exact trivial
  · have := W.ok i s e
    rw [wipe_get q] at this
    exact this
end Nz

namespace Nz
open PySem PySem.Spec PyProof.Rows L2

/-! ### what evaluates to what -/
def Ed (c : Cz) (ρ : List Sl) (te : TE) (d : PyData) (ρ' : List Sl) : Prop := ∀ (T : Tm) (σ : L2.St) (H : Hp), Wd c T H σ ρ → ∀ Q : VK, (∀ v H', Wd c ((v, d) :: T) H' σ ρ' → Q v H') → te σ H Q
def Et (c : Cz) (ρ : List Sl) (tt : TT) (b : Bool) (ρ' : List Sl) : Prop := ∀ (T : Tm) (σ : L2.St) (H : Hp), Wd c T H σ ρ → ∀ Q : Bool → Hp → Prop, (∀ H', Wd c T H' σ ρ' → Q b H') → tt σ H Q
/-- a new list -/
def EdL (c : Cz) (ρ : List Sl) (te : TE) (ds : List PyData) (ρ' : List Sl) : Prop := ∀ (T : Tm) (σ : L2.St) (H : Hp), Wd c T H σ ρ → ∀ Q : VK,
  (∀ p H', c.B p = none → p ∉ hid c ρ' → MoOk c.K (p :: hid c ρ') H' p (.lst ds) → Wd (c.hidden p) T H' σ ρ' → Q (.ref p) H') → te σ H Q
inductive Ar where
  | raw (v : V)
  | dat (d : PyData)
inductive AA (K : PySem.W.Frag) (H : Hp) : List V → List Ar → Prop
  | nil : AA K H [] []
  | raw {v : V} {vs : List V} {as : List Ar} : AA K H vs as → AA K H (v :: vs) (.raw v :: as)
  | dat {v : V} {d : PyData} {vs : List V} {as : List Ar} : Dz K H v d → AA K H vs as → AA K H (v :: vs) (.dat d :: as)
def Ea (c : Cz) (ρ : List Sl) (ta : TA) (as : List Ar) (ρ' : List Sl) : Prop := ∀ (T : Tm) (σ : L2.St) (H : Hp), Wd c T H σ ρ → ∀ Q : List V → Hp → Prop,
  (∀ vs H', AA c.K (hide (hid c ρ') H') vs as → Wd c T H' σ ρ' → Q vs H') → ta σ H Q
/-- a part of a slice -/
def Eo (c : Cz) (ρ : List Sl) (to : TO) (o : Option Int) (ρ' : List Sl) : Prop := ∀ (T : Tm) (σ : L2.St) (H : Hp), Wd c T H σ ρ → ∀ Q : Option Int → Hp → Prop, (∀ H', Wd c T H' σ ρ' → Q o H') → to σ H Q

section
variable {c : Cz} {ρ ρ1 ρ2 ρ3 : List Sl} {ta tb te tx : TE} {t u : TT} {d d1 d2 d3 : PyData} {T : Tm} {H H' : Hp} {σ : L2.St}
theorem Wd.dp {v : V} {d : PyData} {ρ : List Sl} (W : Wd c ((v, d) :: T) H σ ρ) : Dz c.K (hide (hid c ρ) H) v d := W.tmp (v, d) (List.mem_cons_self ..)
theorem ed_is (h : Ed c ρ te d ρ1) (e : d = d1) : Ed c ρ te d1 ρ1 := e ▸ h
theorem et_is {b b1 : Bool} (h : Et c ρ t b ρ1) (e : b = b1) : Et c ρ t b1 ρ1 := e ▸ h
theorem el_is {ds ds1 : List PyData} (h : EdL c ρ te ds ρ1) (e : ds = ds1) : EdL c ρ te ds1 ρ1 := e ▸ h
theorem ed_var {i : Nat} (h : ρ[i]? = some (.da d)) : Ed c ρ (tVar i) d ρ := fun T σ H W Q q => by
  obtain ⟨v, e, dp⟩ := W.ok i _ h
  exact ⟨v, e, q v H (W.push dp)⟩
theorem ed_int {i : Int} : Ed c ρ (tC (.int i)) (.int i) ρ := fun T σ H W Q q => q _ H (W.push (.int i))
theorem ed_bl {b : Bool} : Ed c ρ (tC (.bl b)) (.bool b) ρ := fun T σ H W Q q => q _ H (W.push (.bl b))
theorem ed_str {x : Str} : Ed c ρ (tC (.str x)) (.str x) ρ := fun T σ H W Q q => q _ H (W.push (.str x))
theorem ed_non : Ed c ρ (tC .non) .none ρ := fun T σ H W Q q => q _ H (W.push .non)
/-- a constant of the module -/
theorem ed_ref {a : Addr} (h : ∀ H, Dz c.K H (.ref a) d) : Ed c ρ (tC (.ref a)) d ρ := fun T σ H W Q q => q _ H (W.push (h _))
theorem ed_ofL {ds : List PyData} (h : EdL c ρ te ds ρ1) (hs : ∀ a ∈ c.M, a ∈ c.S0) : Ed c ρ te (.list ds) ρ1 := fun T σ H W Q q => h T σ H W Q fun p H' hB hn hm W' => by
  have W2 := W'.unhide hs
  obtain ⟨xs, h1, h2⟩ := hm
  have e2 : Ex (hide (p :: hid c ρ1) H') (hide (hid c ρ1) H') := hide_mono fun a o n h => ⟨fun m => n (List.mem_cons_of_mem _ m), h⟩
  exact q _ H' (W2.push (.lst (sq_of (hide_of hn h1)) (dpam e2 h2)))
theorem ed_L {ds : List PyData} (h : EdL c ρ te ds ρ1) : Ed c ρ te (.list ds) ρ1 := fun T σ H W => ed_ofL h W.sub T σ H W
/-! #### operators -/
theorem ed_op {r : R2} (ha : Ed c ρ ta d1 ρ1) (hb : Ed c ρ1 tb d2 ρ2)
    (hr : ∀ (T : Tm) (σ : L2.St) (H : Hp) (x y : V), Wd c T H σ ρ2 → Dz c.K (hide (hid c ρ2) H) x d1 → Dz c.K (hide (hid c ρ2) H) y d2 → ∀ Q : VK, (∀ v H', Wd c ((v, d) :: T) H' σ ρ2 → Q v H') → r x y H Q) : Ed c ρ (tOp r ta tb) d ρ2 :=
  fun T σ H W Q q => ha T σ H W _ fun v H1 W1 => hb _ σ H1 W1 _ fun w H2 W2 => hr T σ H2 v w W2.pop.pop W2.pop.dp W2.dp Q q
theorem ed_I0 {f : Int → Int → Int} {i j : Int} (ha : Ed c ρ ta (.int i) ρ1) (hb : Ed c ρ1 tb (.int j) ρ2) : Ed c ρ (tOp (rI0 fun i j => .int (f i j)) ta tb) (.int (f i j)) ρ2 :=
  ed_op ha hb fun T σ H x y W hx hy Q q => ⟨i, j, dp_int hx, dp_int hy, q _ H (W.push (.int _))⟩
theorem ed_B0 {f : Int → Int → Bool} {i j : Int} (ha : Ed c ρ ta (.int i) ρ1) (hb : Ed c ρ1 tb (.int j) ρ2) : Ed c ρ (tOp (rI0 fun i j => .bl (f i j)) ta tb) (.bool (f i j)) ρ2 :=
  ed_op ha hb fun T σ H x y W hx hy Q q => ⟨i, j, dp_int hx, dp_int hy, q _ H (W.push (.bl _))⟩
theorem ed_I {C : Int → Int → Prop} {f : Int → Int → Int} {i j : Int} (ha : Ed c ρ ta (.int i) ρ1) (hb : Ed c ρ1 tb (.int j) ρ2) (hc : C i j) : Ed c ρ (tOp (rI C fun i j => .int (f i j)) ta tb) (.int (f i j)) ρ2 :=
  ed_op ha hb fun T σ H x y W hx hy Q q => ⟨i, j, dp_int hx, dp_int hy, hc, q _ H (W.push (.int _))⟩
theorem ed_neg {f : Int → Int} {i : Int} (ha : Ed c ρ ta (.int i) ρ1) : Ed c ρ (tUn (rU fun i => .int (f i)) ta) (.int (f i)) ρ1 := fun T σ H W Q q => ha T σ H W _ fun v H1 W1 => ⟨i, dp_int W1.dp, q _ H1 (W1.pop.push (.int _))⟩
theorem ed_eq (ha : Ed c ρ ta d1 ρ1) (hb : Ed c ρ1 tb d2 ρ2) (s1 : SeqAt.shaped d1 = true) (s2 : SeqAt.shaped d2 = true) : Ed c ρ (tOp (rEqD c.K) ta tb) (.bool (PyData.eqv d1 d2)) ρ2 :=
  ed_op ha hb fun T σ H x y W hx hy Q q => ⟨d1, d2, dz_dp _ _ (dpm (hide_ex _ _) hx), dz_dp _ _ (dpm (hide_ex _ _) hy), s1, s2, q _ H (W.push (.bl _))⟩
theorem ed_ne (ha : Ed c ρ ta d1 ρ1) (hb : Ed c ρ1 tb d2 ρ2) (s1 : SeqAt.shaped d1 = true) (s2 : SeqAt.shaped d2 = true) : Ed c ρ (tOp (rNeD c.K) ta tb) (.bool (!PyData.eqv d1 d2)) ρ2 :=
  ed_op ha hb fun T σ H x y W hx hy Q q => ⟨d1, d2, dz_dp _ _ (dpm (hide_ex _ _) hx), dz_dp _ _ (dpm (hide_ex _ _) hy), s1, s2, q _ H (W.push (.bl _))⟩
/-- is None, is not None -/
def isNone : PyData → Bool
  | .none => true
  | _ => false
theorem dp_isN {K : PySem.W.Frag} {v : V} (h : Dz K H v d) : decide (v = .non) = isNone d := by
  cases h <;> first | rfl | exact decide_eq_false (fun e => by cases e)
theorem ed_isN (ha : Ed c ρ ta d ρ1) : Ed c ρ (tOp (fun x y H Q => y = .non ∧ Q (.bl (decide (x = .non))) H) ta (tC .non)) (.bool (isNone d)) ρ1 := fun T σ H W Q q => ha T σ H W _ fun v H1 W1 => ⟨rfl, by
  rw [dp_isN W1.dp]
  exact q _ H1 (W1.pop.push (.bl _))⟩
theorem ed_notN (ha : Ed c ρ ta d ρ1) : Ed c ρ (tOp (fun x y H Q => y = .non ∧ Q (.bl (!decide (x = .non))) H) ta (tC .non)) (.bool (!isNone d)) ρ1 := fun T σ H W Q q => ha T σ H W _ fun v H1 W1 => ⟨rfl, by
  rw [dp_isN W1.dp]
  exact q _ H1 (W1.pop.push (.bl _))⟩
/-! #### displays, arguments -/
theorem ea_nil : Ea c ρ tNil [] ρ := fun T σ H W Q q => q [] H .nil W
theorem ea_cons {ts : TA} {as : List Ar} (h : Ed c ρ te d ρ1) (hr : Ea c ρ1 ts as ρ2) : Ea c ρ (tCons te ts) (.dat d :: as) ρ2 := fun T σ H W Q q => h T σ H W _ fun v H1 W1 => hr _ σ H1 W1 _ fun vs H2 a W2 => q _ H2 (.dat W2.dp a) W2.pop
theorem ea_raw {ts : TA} {as : List Ar} {i : Nat} {a : Addr} {l : Bool} {o : MO} (h : ρ[i]? = some (.mu l a o)) (hr : Ea c ρ ts as ρ2) : Ea c ρ (tCons (tVar i) ts) (.raw (.ref a) :: as) ρ2 := fun T σ H W Q q =>
  ⟨.ref a, (W.ok i _ h).1, hr T σ H W _ fun vs H2 a W2 => q _ H2 (.raw a) W2⟩
theorem ea_vl {ts : TA} {as : List Ar} {i : Nat} {v : V} (h : ρ[i]? = some (.vl v)) (hr : Ea c ρ ts as ρ2) : Ea c ρ (tCons (tVar i) ts) (.raw v :: as) ρ2 := fun T σ H W Q q =>
  ⟨v, W.ok i _ h, hr T σ H W _ fun vs H2 a W2 => q _ H2 (.raw a) W2⟩
theorem ea_c {ts : TA} {as : List Ar} {v : V} (hr : Ea c ρ ts as ρ2) : Ea c ρ (tCons (tC v) ts) (.raw v :: as) ρ2 := fun T σ H W Q q => hr T σ H W _ fun vs H2 a W2 => q _ H2 (.raw a) W2
theorem aa_dats {K : PySem.W.Frag} : ∀ {ds : List PyData} {vs : List V}, AA K H vs (ds.map .dat) → DzAll K H vs ds
  | [], _, h => by cases h; exact .nil
  | d :: ds, _, h => by
    cases h with
    | dat h1 h2 => exact .cons h1 (aa_dats h2)
theorem dpa_sz {K : PySem.W.Frag} {ds : List PyData} {vs : List V} (h : DzAll K H vs ds) (hl : ds.length ≤ 100000) : vs.length ≤ sizeLine := by
  rw [dpa_length h]; exact Nat.le_trans hl (by decide)
/-- (a, b, ..): a new tuple with no dict -/
def tTupF (t : TA) : TE := fun σ H Q => t σ H fun xs H1 => xs.length ≤ sizeLine ∧ ∀ p o, o.dict = none → H1 p = none → Q (.ref p) (upd H1 p (.frz o (.tup xs)))
theorem tup_new {ds : List PyData} {vs : List V} {p : Addr} {o : Obj} (W : Wd c T H σ ρ) (a : DzAll c.K (hide (hid c ρ) H) vs ds) (z : o.dict = none) (hp : H p = none) : Wd c ((.ref p, .tuple ds) :: T) (upd H p (.frz o (.tup vs))) σ ρ := by
  have W2 := W.grow (Ex.new (o := .frz o (.tup vs)) hp)
  have e2 : Ex (hide (hid c ρ) H) (hide (hid c ρ) (upd H p (.frz o (.tup vs)))) := hide_mono fun a o n h => ⟨n, Ex.new hp a o h⟩
  exact W2.push (.tup (pt_of (hide_of (W.fresh hp) upd_same) z) (dpam e2 a))
theorem ed_tup {ts : TA} {ds : List PyData} (h : Ea c ρ ts (ds.map .dat) ρ1) (hl : Nat.ble ds.length 100000 = true := by rfl) : Ed c ρ (tTupF ts) (.tuple ds) ρ1 := fun T σ H W Q q => h T σ H W _ fun vs H1 a W1 => ⟨dpa_sz (aa_dats a) (Nat.le_of_ble_eq_true hl), fun p o z hp =>
  q _ _ (tup_new W1 (aa_dats a) z hp)⟩
theorem el_new {ds : List PyData} {vs : List V} {p : Addr} (W : Wd c T H σ ρ) (a : DzAll c.K (hide (hid c ρ) H) vs ds) (hp : H p = none) :
    c.B p = none ∧ p ∉ hid c ρ ∧ MoOk c.K (p :: hid c ρ) (upd H p (.lst vs)) p (.lst ds) ∧ Wd (c.hidden p) T (upd H p (.lst vs)) σ ρ := by
  have e2 : Ex (hide (hid c ρ) H) (hide (p :: hid c ρ) (upd H p (.lst vs))) := hide_mono fun b u m e => ⟨fun q => by
    rcases List.mem_cons.mp q with q | q
    · rw [q, hp] at e; cases e
    · exact m q, Ex.new hp b u e⟩
  exact ⟨W.freshB hp, W.fresh hp, ⟨vs, upd_same, dpam e2 a⟩, W.hideNew hp⟩
theorem el_lst {ts : TA} {ds : List PyData} (h : Ea c ρ ts (ds.map .dat) ρ1) (hl : Nat.ble ds.length 100000 = true := by rfl) : EdL c ρ (tLst ts) ds ρ1 := fun T σ H W Q q => h T σ H W _ fun vs H1 a W1 => ⟨dpa_sz (aa_dats a) (Nat.le_of_ble_eq_true hl), fun p hp => by
  obtain ⟨x1, x2, x3, x4⟩ := el_new W1 (aa_dats a) hp
  exact q p _ x1 x2 x3 x4⟩
/-! #### subscripts, slices -/
theorem atI_dp {K : PySem.W.Frag} {ds : List PyData} {xs : List V} {i : Int} (h : DzAll K H xs ds) (e : atI ds i = some d) : ∃ v, atI xs i = some v ∧ Dz K H v d := by
  unfold atI at e ⊢
  rw [dpa_length h]
  cases q : ixN ds.length i with
  | none => rw [q] at e; cases e
  | some j =>
    rw [q] at e
    exact dpa_get h e
theorem ed_ixT {i : Int} {ds : List PyData} (ha : Ed c ρ ta (.tuple ds) ρ1) (hb : Ed c ρ1 tb (.int i) ρ2) (e : atI ds i = some d) : Ed c ρ (tOp (rIxT c.K) ta tb) d ρ2 :=
  ed_op ha hb fun T σ H x y W hx hy Q q => by
    obtain ⟨a, xs, rfl, hs, h2⟩ := dp_tup hx
    obtain ⟨v, h3, h4⟩ := atI_dp h2 e
    exact ⟨a, xs, i, v, rfl, dp_int hy, (ex_p (hide_ex _ _) hs).sq, h3, q _ H (W.push h4)⟩
theorem ed_ixL {i : Int} {ds : List PyData} (ha : Ed c ρ ta (.list ds) ρ1) (hb : Ed c ρ1 tb (.int i) ρ2) (e : atI ds i = some d) : Ed c ρ (tOp (rIxL c.K) ta tb) d ρ2 :=
  ed_op ha hb fun T σ H x y W hx hy Q q => by
    obtain ⟨a, xs, rfl, hs, h2⟩ := dp_lst hx
    obtain ⟨v, h3, h4⟩ := atI_dp h2 e
    exact ⟨a, xs, i, v, rfl, dp_int hy, ex_l (hide_ex _ _) hs, h3, q _ H (W.push h4)⟩
/-- of a list that may change -/
theorem ed_ixM {i : Int} {ds : List PyData} {j : Nat} {l : Bool} {a : Addr} (hb : Ed c ρ tb (.int i) ρ1) (ha : ρ1[j]? = some (.mu l a (.lst ds))) (ha0 : ∃ l o, ρ[j]? = some (.mu l a o)) (e : atI ds i = some d) : Ed c ρ (tOp (rIxL c.K) (tVar j) tb) d ρ1 := fun T σ H W Q q => by
  obtain ⟨l0, o0, h0⟩ := ha0
  refine ⟨.ref a, (W.ok j _ h0).1, hb T σ H W _ fun v H1 W1 => ?_⟩
  obtain ⟨_, _, xs, h1, h2⟩ := W1.ok j _ ha
  obtain ⟨w, h3, h4⟩ := atI_dp h2 e
  exact ⟨a, xs, i, w, rfl, dp_int W1.dp, sq_of h1, h3, q _ H1 (W1.pop.push h4)⟩
theorem eo_no : Eo c ρ tNoPart none ρ := fun T σ H W Q q => q H W
theorem eo_some {i : Int} (h : Ed c ρ te (.int i) ρ1) : Eo c ρ (tPart te) (some i) ρ1 := fun T σ H W Q q => h T σ H W _ fun v H1 W1 => ⟨i, dp_int W1.dp, q H1 W1.pop⟩
def cutD (ds : List PyData) (lo hi : Option Int) : List PyData := (ds.drop (HT.sIx ds.length 0 lo)).take (HT.sIx ds.length ds.length hi - HT.sIx ds.length 0 lo)
theorem cut_dp {K : PySem.W.Frag} {ds : List PyData} {xs : List V} (h : DzAll K H xs ds) (lo hi : Option Int) : DzAll K H (cutV xs lo hi) (cutD ds lo hi) := by
  unfold cutV cutD
  rw [dpa_length h]
  exact dpa_take _ (dpa_drop _ h)
theorem el_slice {ds : List PyData} {tl th : TO} {lo hi : Option Int} (ha : Ed c ρ ta (.list ds) ρ1) (hl : Eo c ρ1 tl lo ρ2) (hh : Eo c ρ2 th hi ρ3) : EdL c ρ (tSl (rSlL c.K) ta tl th) (cutD ds lo hi) ρ3 := fun T σ H W Q q =>
  ha T σ H W _ fun v H1 W1 => hl _ σ H1 W1 _ fun H2 W2 => hh _ σ H2 W2 _ fun H3 W3 => by
    obtain ⟨a, xs, rfl, hs, h2⟩ := dp_lst W3.dp
    refine ⟨a, xs, rfl, ex_l (hide_ex _ _) hs, fun p hp => ?_⟩
    obtain ⟨x1, x2, x3, x4⟩ := el_new W3.pop (cut_dp h2 lo hi) hp
    exact q p _ x1 x2 x3 x4
/-! #### tests -/
theorem et_test {b : Bool} (h : Ed c ρ te (.bool b) ρ1) : Et c ρ (tTest te) b ρ1 := fun T σ H W Q q => h T σ H W _ fun v H1 W1 => ⟨b, dp_bl W1.dp, q H1 W1.pop⟩
theorem et_B {b : Bool} (h : Ed c ρ te (.bool b) ρ1) : Et c ρ (tB te) b ρ1 := fun T σ H W Q q => h T σ H W _ fun v H1 W1 => ⟨b, dp_bl W1.dp, q H1 W1.pop⟩
def truD : PyData → Bool
  | .none => false
  | .bool b => b
  | .int i => i != 0
  | .list ds => !ds.isEmpty
  | .tuple ds => !ds.isEmpty
  | _ => false
def truOk : PyData → Bool
  | .str _ => false
  | .dict _ => false
  | _ => true
theorem isEmpty_dp {K : PySem.W.Frag} {ds : List PyData} {xs : List V} (h : DzAll K H xs ds) : xs.isEmpty = ds.isEmpty := by cases h <;> rfl
theorem tru_dp {K : PySem.W.Frag} {v : V} (h : Dz K H v d) (ok : truOk d = true) : TruV K v H (truD d) := by
  cases h with
  | non => rfl
  | bl b => rfl
  | int i => rfl
  | str x => cases ok
  | lst hs ha => exact .inl ⟨_, hs, by rw [isEmpty_dp ha]; rfl⟩
  | tup hs ha => exact .inr (.inl ⟨_, hs.sq, by rw [isEmpty_dp ha]; rfl⟩)
theorem et_tru (h : Ed c ρ te d ρ1) (ok : truOk d = true := by rfl) : Et c ρ (fun σ H Q => te σ H fun x H' => ∃ k, TruV c.K x H' k ∧ Q k H') (truD d) ρ1 := fun T σ H W Q q => h T σ H W _ fun v H1 W1 => ⟨_, tru_dp (dpm (hide_ex _ _) W1.dp) ok, q H1 W1.pop⟩
theorem et_and {a b : Bool} (h1 : Et c ρ t a ρ1) (h2 : a = true → Et c ρ1 u b ρ1) : Et c ρ (tAnd t u) (a && b) ρ1 := fun T σ H W Q q => h1 T σ H W _ fun H1 W1 => by
  cases a with
  | true => exact h2 rfl T σ H1 W1 Q q
  | false => exact q H1 W1
theorem et_or {a b : Bool} (h1 : Et c ρ t a ρ1) (h2 : a = false → Et c ρ1 u b ρ1) : Et c ρ (tOr t u) (a || b) ρ1 := fun T σ H W Q q => h1 T σ H W _ fun H1 W1 => by
  cases a with
  | true => exact q H1 W1
  | false => exact h2 rfl T σ H1 W1 Q q
theorem et_not {a : Bool} (h1 : Et c ρ t a ρ1) : Et c ρ (tNot t) (!a) ρ1 := fun T σ H W Q q => h1 T σ H W _ fun H1 W1 => q H1 W1
theorem ed_and {a b : Bool} (h1 : Ed c ρ ta (.bool a) ρ1) (h2 : a = true → Ed c ρ1 tb (.bool b) ρ1) : Ed c ρ (tAndV ta tb) (.bool (a && b)) ρ1 := fun T σ H W Q q => h1 T σ H W _ fun v H1 W1 => ⟨a, dp_bl W1.dp, by
  cases a with
  | true => exact h2 rfl T σ H1 W1.pop Q q
  | false => exact q _ H1 (W1.pop.push (.bl _))⟩
theorem ed_or {a b : Bool} (h1 : Ed c ρ ta (.bool a) ρ1) (h2 : a = false → Ed c ρ1 tb (.bool b) ρ1) : Ed c ρ (tOrV ta tb) (.bool (a || b)) ρ1 := fun T σ H W Q q => h1 T σ H W _ fun v H1 W1 => ⟨a, dp_bl W1.dp, by
  cases a with
  | true => exact q _ H1 (W1.pop.push (.bl _))
  | false => exact h2 rfl T σ H1 W1.pop Q q⟩
theorem ed_not {a : Bool} (h1 : Ed c ρ ta (.bool a) ρ1) : Ed c ρ (tNotV ta) (.bool (!a)) ρ1 := fun T σ H W Q q => h1 T σ H W _ fun v H1 W1 => ⟨a, dp_bl W1.dp, q _ H1 (W1.pop.push (.bl _))⟩
theorem ed_if {b : Bool} (h : Et c ρ t b ρ1) (h1 : b = true → Ed c ρ1 ta d ρ2) (h2 : b = false → Ed c ρ1 tb d ρ2) : Ed c ρ (tIf t ta tb) d ρ2 := fun T σ H W Q q => h T σ H W _ fun H1 W1 => by
  cases b with
  | true => exact h1 rfl T σ H1 W1 Q q
  | false => exact h2 rfl T σ H1 W1 Q q
/-- a op b op c of ints -/
theorem ed_chain {f g : Int → Int → Bool} {i j k : Int} {tc : TE} (ha : Ed c ρ ta (.int i) ρ1) (hb : Ed c ρ1 tb (.int j) ρ2) (hc : f i j = true → Ed c ρ2 tc (.int k) ρ2) :
    Ed c ρ (tChain (rI0 fun i j => .bl (f i j)) (rI0 fun i j => .bl (g i j)) ta tb tc) (.bool (f i j && g j k)) ρ2 := fun T σ H W Q q => ha T σ H W _ fun v H1 W1 => hb _ σ H1 W1 _ fun w H2 W2 =>
  ⟨i, j, dp_int W2.pop.dp, dp_int W2.dp, f i j, rfl, by
    cases e : f i j with
    | true =>
      refine hc e _ σ H2 W2 _ fun z H3 W3 => ⟨j, k, dp_int W3.pop.dp, dp_int W3.dp, ?_⟩
      rw [e, Bool.true_and] at q
      exact q _ H3 (W3.pop.pop.pop.push (.bl _))
    | false =>
      rw [e, Bool.false_and] at q
      exact q _ H2 (W2.pop.pop.push (.bl _))⟩
/-! #### calls -/
/-- a pure def's promise: from data to data, by R -/
def SpP (K : PySem.W.Frag) (R : List PyData → PyData → Prop) : Sp := fun vs H Q _ => ∃ (S : List Addr) (ds : List PyData) (d : PyData), (∀ a ∈ S, ∃ o, H a = some o) ∧ DzAll K (hide S H) vs ds ∧ R ds d ∧
  ∀ v H', Ex H H' → Dz K (hide S H') v d → Q v H'
theorem ed_call {R : List PyData → PyData → Prop} {ts : TA} {ds : List PyData} {E : XK} (h : Ea c ρ ts (ds.map .dat) ρ1) (hR : R ds d) : Ed c ρ (tCall (SpP c.K R) [] E ts) d ρ1 := fun T σ H W Q q => h T σ H W _ fun vs H1 a W1 => by
  rw [List.append_nil]
  exact ⟨hid c ρ1, ds, d, fun a h => W1.there h, aa_dats a, hR, fun v H' e dp => q v H' ((W1.grow e).push dp)⟩
/-- a def's promise that changes its first argument -/
def SpS (K : PySem.W.Frag) (R : MO → List PyData → MO → PyData → Prop) : Sp := fun vs H Q _ => ∃ (S : List Addr) (a : Addr) (st st' : MO) (vs' : List V) (ds : List PyData) (d : PyData), vs = .ref a :: vs' ∧ a ∈ S ∧ (∀ b ∈ S, ∃ o, H b = some o) ∧
  MoOk K S H a st ∧ DzAll K (hide S H) vs' ds ∧ R st ds st' d ∧ ∀ v H', (∀ b o, b ≠ a → H b = some o → H' b = some o) → MoOk K S H' a st' → Dz K (hide S H') v d → Q v H'
theorem ed_callS {R : MO → List PyData → MO → PyData → Prop} {ts : TA} {ds : List PyData} {E : XK} {i : Nat} {l : Bool} {a : Addr} {st st' : MO} (h : Ea c ρ ts (.raw (.ref a) :: ds.map .dat) ρ1) (hi : ρ1[i]? = some (.mu l a st)) (hR : R st ds st' d) :
    Ed c ρ (tCall (SpS c.K R) [] E ts) d (ρ1.set i (.mu l a st')) := fun T σ H W Q q => h T σ H W _ fun vs H1 aa W1 => by
  rw [List.append_nil]
  cases aa with
  | raw aa =>
    have hm : a ∈ hid c ρ1 := List.mem_append_right _ (mem_muts.mpr ⟨i, l, st, hi⟩)
    refine ⟨hid c ρ1, a, st, st', _, ds, d, rfl, hm, fun a h => W1.there h, (W1.ok i _ hi).2.2, aa_dats aa, hR, fun v H' hk mo dp => q v H' ((W1.chg hi hk mo).push ?_)⟩
    refine dpm (hide_mono fun b o n e => ⟨fun m => n ?_, e⟩) dp
    rcases List.mem_append.mp m with m | m
    · exact List.mem_append_left _ m
    · obtain ⟨j, m', u, e⟩ := mem_muts.mp m
      rcases get_set e with ⟨_, _, e⟩ | ⟨_, e⟩
      · cases e; exact hm
      · exact List.mem_append_right _ (mem_muts.mpr ⟨j, m', u, e⟩)
/-! #### built-ins -/
theorem ed_cb {r : List V → Hp → VK → Prop} {ts : TA} {as : List Ar} (h : Ea c ρ ts as ρ1)
    (hr : ∀ (T : Tm) (σ : L2.St) (H : Hp) (vs : List V), Wd c T H σ ρ1 → AA c.K (hide (hid c ρ1) H) vs as → ∀ Q : VK, (∀ v H', Wd c ((v, d) :: T) H' σ ρ1 → Q v H') → r vs H Q) : Ed c ρ (tCB r ts) d ρ1 :=
  fun T σ H W Q q => h T σ H W _ fun vs H1 a W1 => hr T σ H1 vs W1 a Q q
theorem aa1 {K : PySem.W.Frag} {vs : List V} (a : AA K H vs [.dat d]) : ∃ v, vs = [v] ∧ Dz K H v d := by
  cases a with
  | dat h t => cases t; exact ⟨_, rfl, h⟩
theorem aa2 {K : PySem.W.Frag} {vs : List V} (a : AA K H vs [.dat d, .dat d1]) : ∃ v w, vs = [v, w] ∧ Dz K H v d ∧ Dz K H w d1 := by
  cases a with
  | dat h t =>
    obtain ⟨w, rfl, h2⟩ := aa1 t
    exact ⟨_, w, rfl, h, h2⟩
def rLenS (K : PySem.W.Frag) : List V → Hp → VK → Prop := fun xs H Q => ∃ p ys, xs = [.ref p] ∧ (SqL K H p ys ∨ SqT K H p ys) ∧ Q (.int ys.length) H
theorem ed_lenT {ds : List PyData} (h : Ed c ρ te (.tuple ds) ρ1) : Ed c ρ (tCB (rLenS c.K) (tCons te tNil)) (.int (ds.length : Int)) ρ1 := fun T σ H W Q q => h T σ H W _ fun v H1 W1 => by
  obtain ⟨a, xs, rfl, hs, h2⟩ := dp_tup W1.dp
  refine ⟨a, xs, rfl, .inr (ex_p (hide_ex _ _) hs).sq, ?_⟩
  rw [dpa_length h2]
  exact q _ H1 (W1.pop.push (.int _))
theorem ed_lenL {ds : List PyData} (h : Ed c ρ te (.list ds) ρ1) : Ed c ρ (tCB (rLenS c.K) (tCons te tNil)) (.int (ds.length : Int)) ρ1 := fun T σ H W Q q => h T σ H W _ fun v H1 W1 => by
  obtain ⟨a, xs, rfl, hs, h2⟩ := dp_lst W1.dp
  refine ⟨a, xs, rfl, .inl (ex_l (hide_ex _ _) hs), ?_⟩
  rw [dpa_length h2]
  exact q _ H1 (W1.pop.push (.int _))
theorem ed_lenM {ds : List PyData} {j : Nat} {l : Bool} {a : Addr} (ha : ρ[j]? = some (.mu l a (.lst ds))) : Ed c ρ (tCB (rLenS c.K) (tCons (tVar j) tNil)) (.int (ds.length : Int)) ρ := fun T σ H W Q q => by
  obtain ⟨h0, _, xs, h1, h2⟩ := W.ok j _ ha
  refine ⟨.ref a, h0, a, xs, rfl, .inl (sq_of h1), ?_⟩
  rw [dpa_length h2]
  exact q _ H (W.push (.int _))
theorem ed_abs {i : Int} (h : Ed c ρ te (.int i) ρ1) : Ed c ρ (tCB (fun xs H Q => ∃ i, xs = [.int i] ∧ Q (.int (if i < 0 then -i else i)) H) (tCons te tNil)) (.int (i.natAbs : Int)) ρ1 := fun T σ H W Q q => h T σ H W _ fun v H1 W1 => by
  refine ⟨i, by rw [dp_int W1.dp], ?_⟩
  have e : (if i < 0 then -i else i) = (i.natAbs : Int) := by split <;> omega
  rw [e]
  exact q _ H1 (W1.pop.push (.int _))
theorem ed_intI {i : Int} (h : Ed c ρ te (.int i) ρ1) : Ed c ρ (tCB (fun xs H Q => (∃ i, xs = [.int i] ∧ Q (.int i) H) ∨ ∃ k, xs = [.bl k] ∧ Q (.int (if k then 1 else 0)) H) (tCons te tNil)) (.int i) ρ1 := fun T σ H W Q q => h T σ H W _ fun v H1 W1 =>
  .inl ⟨i, by rw [dp_int W1.dp], q _ H1 (W1.pop.push (.int _))⟩
theorem ed_intB {b : Bool} (h : Ed c ρ te (.bool b) ρ1) : Ed c ρ (tCB (fun xs H Q => (∃ i, xs = [.int i] ∧ Q (.int i) H) ∨ ∃ k, xs = [.bl k] ∧ Q (.int (if k then 1 else 0)) H) (tCons te tNil)) (.int (if b then 1 else 0)) ρ1 := fun T σ H W Q q => h T σ H W _ fun v H1 W1 =>
  .inr ⟨b, by rw [dp_bl W1.dp], q _ H1 (W1.pop.push (.int _))⟩
theorem el_listOf {te : TE} {ds : List PyData} (h : Ed c ρ te (.list ds) ρ1 ∨ Ed c ρ te (.tuple ds) ρ1) :
    EdL c ρ (tCB (fun xs H Q => ∃ p ys, xs = [.ref p] ∧ (SqL c.K H p ys ∨ SqT c.K H p ys) ∧ ∀ l, H l = none → Q (.ref l) (upd H l (.lst ys))) (tCons te tNil)) ds ρ1 := fun T σ H W Q q => by
  rcases h with h | h
  · refine h T σ H W _ fun v H1 W1 => ?_
    obtain ⟨a, xs, rfl, hs, h2⟩ := dp_lst W1.dp
    refine ⟨a, xs, rfl, .inl (ex_l (hide_ex _ _) hs), fun p hp => ?_⟩
    obtain ⟨x1, x2, x3, x4⟩ := el_new W1.pop h2 hp
    exact q p _ x1 x2 x3 x4
  · refine h T σ H W _ fun v H1 W1 => ?_
    obtain ⟨a, xs, rfl, hs, h2⟩ := dp_tup W1.dp
    refine ⟨a, xs, rfl, .inr (ex_p (hide_ex _ _) hs).sq, fun p hp => ?_⟩
    obtain ⟨x1, x2, x3, x4⟩ := el_new W1.pop h2 hp
    exact q p _ x1 x2 x3 x4
/-- tuple(..) of a list: a new one; of a tuple: itself -/
def rTupOf (K : PySem.W.Frag) : List V → Hp → VK → Prop := fun xs H Q => ∃ p ys, xs = [.ref p] ∧ ((SqL K H p ys ∧ ∀ l o, o.dict = none → H l = none → Q (.ref l) (upd H l (.frz o (.tup ys)))) ∨ (SqT K H p ys ∧ Q (.ref p) H))
theorem ed_tupleL {ds : List PyData} (h : Ed c ρ te (.list ds) ρ1) : Ed c ρ (tCB (rTupOf c.K) (tCons te tNil)) (.tuple ds) ρ1 := fun T σ H W Q q =>
  h T σ H W _ fun v H1 W1 => by
    obtain ⟨a, xs, rfl, hs, h2⟩ := dp_lst W1.dp
    exact ⟨a, xs, rfl, .inl ⟨ex_l (hide_ex _ _) hs, fun p o z hp => q _ _ (tup_new W1.pop h2 z hp)⟩⟩
theorem ed_tupleT {ds : List PyData} (h : Ed c ρ te (.tuple ds) ρ1) : Ed c ρ (tCB (rTupOf c.K) (tCons te tNil)) (.tuple ds) ρ1 := fun T σ H W Q q =>
  h T σ H W _ fun v H1 W1 => by
    obtain ⟨a, xs, rfl, hs, h2⟩ := dp_tup W1.dp
    exact ⟨a, xs, rfl, .inr ⟨(ex_p (hide_ex _ _) hs).sq, q _ _ W1⟩⟩
end
end Nz

namespace Nz
open PySem PySem.Spec PyProof.Rows L2 RZ

/-! ### what is walked -/
/-- an item that comes: data; a pair that was just made, of data (to be unpacked at once) -/
inductive Itm where
  | hard (d : PyData)
  | soft (ds : List PyData)
def YOk (c : Cz) (T : Tm) (H : Hp) (σ : L2.St) (ρ : List Sl) (x : V) : Itm → Prop
  | .hard d => Wd c ((x, d) :: T) H σ ρ
  | .soft ds => ∃ a xs, x = .ref a ∧ SqT c.K H a xs ∧ xs.length = ds.length ∧ Wd c (xs.zip ds ++ T) H σ ρ
def Walks (K : PySem.W.Frag) (J : It) (T1 : Tm) (ds : List Itm) : Prop := ∀ (c : Cz) (T : Tm) (σ : L2.St) (H : Hp) (ρ : List Sl), c.K = K → Wd c (T1 ++ T) H σ ρ →
  (∀ i, i < ds.length → J.go i H ∧ ∀ x H', J.yld i H x H' → ∃ d, ds[i]? = some d ∧ YOk c (T1 ++ T) H' σ ρ x d) ∧ ∀ i, ds.length ≤ i → J.stop i H
def Ei (c : Cz) (ρ : List Sl) (wi : TI) (ds : List Itm) (ρ' : List Sl) : Prop := ∀ (T : Tm) (σ : L2.St) (H : Hp), Wd c T H σ ρ → ∀ R : It → Hp → Prop, (∀ J H' T1, Wd c (T1 ++ T) H' σ ρ' → Walks c.K J T1 ds → R J H') → wi σ H R
/-- a target takes an item; ws: the slots that it may store -/
def Eg (c : Cz) (g : TG) (d : Itm) (ρ ρ' : List Sl) (ws : List Nat) : Prop := ∀ (T : Tm) (σ : L2.St) (H : Hp) (v : V), YOk c T H σ ρ v d → ∀ Q : L2.St → Hp → Prop, (∀ σ' H', Wd c T H' σ' ρ' → L2.wipe σ' ws = L2.wipe σ ws → Q σ' H') → g v σ H Q

section
variable {c : Cz} {ρ ρ1 ρ2 ρ3 : List Sl} {ta tb te tx : TE} {t u : TT} {d d1 d2 d3 : PyData} {T : Tm} {H H' : Hp} {σ : L2.St}
abbrev hards (ds : List PyData) : List Itm := ds.map .hard
theorem hards_get {ds : List PyData} {i : Nat} (h : i < ds.length) : (hards ds)[i]? = some (.hard ds[i]) := by rw [List.getElem?_map, List.getElem?_eq_getElem h]; rfl
theorem ei_list {ds : List PyData} (h : Ed c ρ te (.list ds) ρ1) : Ei c ρ (iList c.K te) (hards ds) ρ1 := fun T σ H W R q => h T σ H W _ fun v H1 W1 => by
  obtain ⟨a, xs, rfl, hs, h2⟩ := dp_lst W1.dp
  refine ⟨a, rfl, ⟨xs, ex_l (hide_ex _ _) hs⟩, q _ H1 [(.ref a, .list ds)] W1 ?_⟩
  rintro c' T' σ' H' ρ' hK W'
  obtain ⟨b, ys, e, hs', h2'⟩ := dp_lst W'.dp
  cases e
  have hs2 : SqL c.K H' a ys := hK ▸ ex_l (hide_ex _ _) hs'
  have hl := dpa_length h2'
  rw [List.length_map]
  refine ⟨fun i hi => ?_, fun i hi => ⟨ys, hs2, by omega⟩⟩
  obtain ⟨x, hx, dx⟩ := dpa_get h2' (List.getElem?_eq_getElem hi)
  refine ⟨⟨ys, x, hs2, hx⟩, fun y H2 hy => ?_⟩
  obtain ⟨rfl, hy⟩ := hy
  have := (hy ys hs2).symm.trans hx
  cases this
  exact ⟨_, hards_get hi, W'.push dx⟩
theorem ei_tup {ds : List PyData} (h : Ed c ρ te (.tuple ds) ρ1) : Ei c ρ (iTup c.K te) (hards ds) ρ1 := fun T σ H W R q => h T σ H W _ fun v H1 W1 => by
  obtain ⟨a, xs, rfl, hs, h2⟩ := dp_tup W1.dp
  refine ⟨a, rfl, ⟨xs, (ex_p (hide_ex _ _) hs).sq⟩, q _ H1 [(.ref a, .tuple ds)] W1 ?_⟩
  rintro c' T' σ' H' ρ' hK W'
  obtain ⟨b, ys, e, hs', h2'⟩ := dp_tup W'.dp
  cases e
  have hs2 : SqT c.K H' a ys := hK ▸ (ex_p (hide_ex _ _) hs').sq
  have hl := dpa_length h2'
  rw [List.length_map]
  refine ⟨fun i hi => ?_, fun i hi => ⟨ys, hs2, by omega⟩⟩
  obtain ⟨x, hx, dx⟩ := dpa_get h2' (List.getElem?_eq_getElem hi)
  refine ⟨⟨ys, x, hs2, hx⟩, fun y H2 hy => ?_⟩
  obtain ⟨rfl, hy⟩ := hy
  have := (hy ys hs2).symm.trans hx
  cases this
  exact ⟨_, hards_get hi, W'.push dx⟩
/-- lo, lo + 1, .. -/
def rngD (lo : Int) (n : Nat) : List PyData := (List.range n).map fun (i : Nat) => PyData.int (lo + (i : Int))
theorem rngD_len (lo : Int) (n : Nat) : (rngD lo n).length = n := by unfold rngD; rw [List.length_map, List.length_range]
theorem rngD_get {lo : Int} {n i : Nat} (h : i < n) : (rngD lo n)[i]? = some (.int (lo + (i : Int))) := by
  unfold rngD; rw [List.getElem?_map, List.getElem?_range h]; rfl
theorem walks_rng (K : PySem.W.Frag) (lo : Int) (n : Nat) : Walks K (Itr lo n) [] (hards (rngD lo n)) := fun c T σ H ρ hK W => by
  rw [List.length_map, rngD_len]
  refine ⟨fun i hi => ⟨hi, fun x H' hy => ?_⟩, fun i hi => hi⟩
  obtain ⟨rfl, rfl⟩ := hy
  exact ⟨.hard (.int (lo + (i : Int))), by rw [List.getElem?_map, rngD_get hi]; rfl, W.push (.int _)⟩
theorem ei_rng1 {n : Int} (h : Ed c ρ te (.int n) ρ1) (hn : -4000000000 ≤ n ∧ n ≤ 4000000000) : Ei c ρ (iRng1 (tCons te tNil)) (hards (rngD 0 n.toNat)) ρ1 := fun T σ H W R q => h T σ H W _ fun v H1 W1 =>
  ⟨n, by rw [dp_int W1.dp], by omega, by omega, q _ H1 [] W1.pop (walks_rng _ _ _)⟩
theorem ei_rng2 {lo n : Int} (h : Ed c ρ te (.int lo) ρ1) (h2 : Ed c ρ1 tb (.int n) ρ2) (hn : (-4000000000 ≤ lo ∧ lo ≤ 4000000000) ∧ -4000000000 ≤ n ∧ n ≤ 4000000000) : Ei c ρ (iRng2 (tCons te (tCons tb tNil))) (hards (rngD lo (n - lo).toNat)) ρ2 := fun T σ H W R q => h T σ H W _ fun v H1 W1 => h2 _ σ H1 W1 _ fun w H2 W2 =>
  ⟨lo, n, by rw [dp_int W2.pop.dp, dp_int W2.dp], ⟨by omega, by omega, by omega, by omega⟩, q _ H2 [] W2.pop.pop (walks_rng _ _ _)⟩
/-- pairs of place and item -/
def enumD (ds : List PyData) : List Itm := (ds.zipIdx).map fun p => .soft [.int (p.2 : Int), p.1]
theorem enumD_len (ds : List PyData) : (enumD ds).length = ds.length := by unfold enumD; rw [List.length_map, List.length_zipIdx]
theorem enumD_get {ds : List PyData} {i : Nat} {d : PyData} (h : ds[i]? = some d) : (enumD ds)[i]? = some (.soft [.int (i : Int), d]) := by
  unfold enumD; rw [List.getElem?_map, List.getElem?_zipIdx, h]; simp
theorem ei_enum {ds : List PyData} (h : Ed c ρ te (.list ds) ρ1) : Ei c ρ (iEnum c.K (tCons te tNil)) (enumD ds) ρ1 := fun T σ H W R q => h T σ H W _ fun v H1 W1 => by
  obtain ⟨a, xs, rfl, hs, h2⟩ := dp_lst W1.dp
  refine ⟨a, xs, rfl, ex_l (hide_ex _ _) hs, q _ H1 [(.ref a, .list ds)] W1 ?_⟩
  rintro c' T' σ' H' ρ' hK W'
  obtain ⟨b, ys, e, hs', h2'⟩ := dp_lst W'.dp
  cases e
  have hs2 : SqL c.K H' a ys := hK ▸ ex_l (hide_ex _ _) hs'
  have hl := dpa_length h2'
  rw [enumD_len]
  refine ⟨fun i hi => ?_, fun i hi => ⟨ys, hs2, by omega⟩⟩
  obtain ⟨x, hx, dx⟩ := dpa_get h2' (List.getElem?_eq_getElem hi)
  refine ⟨⟨ys, x, hs2, hx⟩, fun y H2 hy => ?_⟩
  obtain ⟨p, z, rfl, hp, rfl, hy⟩ := hy
  have ez := (hy ys hs2).symm.trans hx
  rw [Option.some.inj ez]
  have W2 := W'.grow (Ex.new (o := .tup [.int (i : Nat), x]) hp)
  have e2 : Ex (hide (hid c' ρ') H') (hide (hid c' ρ') (upd H' p (.tup [.int (i : Nat), x]))) := hide_mono fun a o n h => ⟨n, Ex.new hp a o h⟩
  exact ⟨_, enumD_get (List.getElem?_eq_getElem hi), p, [.int (i : Nat), x], rfl, .inl (.inl upd_same), rfl, (W2.push (dpm e2 dx)).push (.int _)⟩
def zipD (ds es : List PyData) : List Itm := List.zipWith (fun d e => .soft [d, e]) ds es
theorem zipD_len (ds es : List PyData) : (zipD ds es).length = min ds.length es.length := by unfold zipD; rw [List.length_zipWith]
theorem zipD_get {ds es : List PyData} {i : Nat} {d e : PyData} (h : ds[i]? = some d) (h2 : es[i]? = some e) : (zipD ds es)[i]? = some (.soft [d, e]) := by
  unfold zipD; rw [List.getElem?_zipWith, h, h2]
theorem walks_zip {K : PySem.W.Frag} {a b : Addr} {ds es : List PyData} : Walks K (Itz K a b) [(.ref b, .list es), (.ref a, .list ds)] (zipD ds es) := fun c' T' σ' H' ρ' hK W' => by
  obtain ⟨b', zs, e, hz, h3⟩ := dp_lst W'.dp
  cases e
  obtain ⟨a', ys, e, hs', h2'⟩ := dp_lst W'.pop.dp
  cases e
  have hs2 : SqL K H' a ys := hK ▸ ex_l (hide_ex _ _) hs'
  have hz2 : SqL K H' b zs := hK ▸ ex_l (hide_ex _ _) hz
  have hl := dpa_length h2'
  have hl3 := dpa_length h3
  rw [zipD_len]
  refine ⟨fun i hi => ?_, fun i hi => ⟨ys, zs, hs2, hz2, by omega⟩⟩
  obtain ⟨x, hx, dx⟩ := dpa_get h2' (List.getElem?_eq_getElem (show i < ds.length by omega))
  obtain ⟨y, hy, dy⟩ := dpa_get h3 (List.getElem?_eq_getElem (show i < es.length by omega))
  refine ⟨⟨ys, zs, x, y, hs2, hz2, hx, hy⟩, fun v H2 hv => ?_⟩
  obtain ⟨p, x', y', rfl, hp, rfl, q1, q2⟩ := hv
  have e1 := (q1 ys hs2).symm.trans hx
  have e2' := (q2 zs hz2).symm.trans hy
  rw [Option.some.inj e1, Option.some.inj e2']
  have W2 := W'.grow (Ex.new (o := .tup [x, y]) hp)
  have e2 : Ex (hide (hid c' ρ') H') (hide (hid c' ρ') (upd H' p (.tup [x, y]))) := hide_mono fun a o n h => ⟨n, Ex.new hp a o h⟩
  exact ⟨_, zipD_get (List.getElem?_eq_getElem (show i < ds.length by omega)) (List.getElem?_eq_getElem (show i < es.length by omega)), p, [x, y], rfl, .inl (.inl upd_same), rfl, (W2.push (dpm e2 dy)).push (dpm e2 dx)⟩
theorem walks_zipT {K : PySem.W.Frag} {a b : Addr} {ds es : List PyData} : Walks K (ItzT K a b) [(.ref b, .tuple es), (.ref a, .tuple ds)] (zipD ds es) := fun c' T' σ' H' ρ' hK W' => by
  obtain ⟨b', zs, e, hz, h3⟩ := dp_tup W'.dp
  cases e
  obtain ⟨a', ys, e, hs', h2'⟩ := dp_tup W'.pop.dp
  cases e
  have hs2 : SqT K H' a ys := hK ▸ (ex_p (hide_ex _ _) hs').sq
  have hz2 : SqT K H' b zs := hK ▸ (ex_p (hide_ex _ _) hz).sq
  have hl := dpa_length h2'
  have hl3 := dpa_length h3
  rw [zipD_len]
  refine ⟨fun i hi => ?_, fun i hi => ⟨ys, zs, hs2, hz2, by omega⟩⟩
  obtain ⟨x, hx, dx⟩ := dpa_get h2' (List.getElem?_eq_getElem (show i < ds.length by omega))
  obtain ⟨y, hy, dy⟩ := dpa_get h3 (List.getElem?_eq_getElem (show i < es.length by omega))
  refine ⟨⟨ys, zs, x, y, hs2, hz2, hx, hy⟩, fun v H2 hv => ?_⟩
  obtain ⟨p, x', y', rfl, hp, rfl, q1, q2⟩ := hv
  have e1 := (q1 ys hs2).symm.trans hx
  have e2' := (q2 zs hz2).symm.trans hy
  rw [Option.some.inj e1, Option.some.inj e2']
  have W2 := W'.grow (Ex.new (o := .tup [x, y]) hp)
  have e2 : Ex (hide (hid c' ρ') H') (hide (hid c' ρ') (upd H' p (.tup [x, y]))) := hide_mono fun a o n h => ⟨n, Ex.new hp a o h⟩
  exact ⟨_, zipD_get (List.getElem?_eq_getElem (show i < ds.length by omega)) (List.getElem?_eq_getElem (show i < es.length by omega)), p, [x, y], rfl, .inl (.inl upd_same), rfl, (W2.push (dpm e2 dy)).push (dpm e2 dx)⟩
theorem ei_zip {ds es : List PyData} (h : Ed c ρ te (.list ds) ρ1) (h2 : Ed c ρ1 tb (.list es) ρ2) : Ei c ρ (iZipA c.K (tCons te (tCons tb tNil))) (zipD ds es) ρ2 := fun T σ H W R q => h T σ H W _ fun v H1 W1 => h2 _ σ H1 W1 _ fun w H2 W2 => by
  obtain ⟨a, xs, rfl, hs, ha⟩ := dp_lst W2.pop.dp
  obtain ⟨b, ys, rfl, hs2, hb⟩ := dp_lst W2.dp
  exact ⟨a, b, xs, ys, rfl, .inl ⟨ex_l (hide_ex _ _) hs, ex_l (hide_ex _ _) hs2, q _ H2 [(.ref b, .list es), (.ref a, .list ds)] W2 walks_zip⟩⟩
theorem ei_zipT {ds es : List PyData} (h : Ed c ρ te (.tuple ds) ρ1) (h2 : Ed c ρ1 tb (.tuple es) ρ2) : Ei c ρ (iZipA c.K (tCons te (tCons tb tNil))) (zipD ds es) ρ2 := fun T σ H W R q => h T σ H W _ fun v H1 W1 => h2 _ σ H1 W1 _ fun w H2 W2 => by
  obtain ⟨a, xs, rfl, hs, ha⟩ := dp_tup W2.pop.dp
  obtain ⟨b, ys, rfl, hs2, hb⟩ := dp_tup W2.dp
  exact ⟨a, b, xs, ys, rfl,   .inr ⟨(ex_p (hide_ex _ _) hs).sq, (ex_p (hide_ex _ _) hs2).sq, q _ H2 [(.ref b, .tuple es), (.ref a, .tuple ds)] W2 walks_zipT⟩⟩
/-! ### targets -/
theorem wipe_set {σ : L2.St} {x : Option V} {j : Nat} : ∀ {ws : List Nat}, j ∈ ws → L2.wipe (σ.set j x) ws = L2.wipe σ ws
  | w :: ws, h => by
    show (L2.wipe (σ.set j x) ws).set w none = (L2.wipe σ ws).set w none
    by_cases m : j ∈ ws
    · rw [wipe_set m]
    · have e : j = w := by
        rcases List.mem_cons.mp h with h | h
        · exact h
        · exact absurd h m
      subst e
      apply List.ext_getElem?
      intro k
      by_cases q : j = k
      · subst q
        rw [List.getElem?_set, List.getElem?_set, L2.wipe_length, L2.wipe_length, List.length_set, if_pos rfl, if_pos rfl]
      · rw [List.getElem?_set_ne q, List.getElem?_set_ne q]
        by_cases m2 : k ∈ ws
        · have w0 : ∀ {τ : L2.St} {ws : List Nat}, k ∈ ws → (L2.wipe τ ws)[k]? = (τ.map fun _ => (none : Option V))[k]? := fun {τ ws} hm => by
            induction ws with
            | nil => cases hm
            | cons y ys ih =>
              show ((L2.wipe τ ys).set y none)[k]? = _
              by_cases qq : y = k
              · subst qq
                rw [List.getElem?_set, L2.wipe_length, List.getElem?_map]
                simp
                by_cases hk : y < τ.length
                · simp [hk]
                · simp [hk]
              · rw [List.getElem?_set_ne qq]
                exact ih (by
                  rcases List.mem_cons.mp hm with hm | hm
                  · exact absurd hm.symm qq
                  · exact hm)
          rw [w0 m2, w0 m2, List.getElem?_map, List.getElem?_map, List.getElem?_set_ne q]
        · rw [wipe_get m2, wipe_get m2, List.getElem?_set_ne q]
theorem eg_name {j : Nat} {ws : List Nat} (h : j ∈ ws) : Eg c (gName j) (.hard d) ρ (ρ.set j (.da d)) ws := fun T σ H v W Q q => q _ H (Wd.setD (Wd.pop W) j (Wd.dp W)) (wipe_set h)
/-- several targets -/
def Egs (c : Cz) (g : TGs) (ds : List PyData) (ρ ρ' : List Sl) (ws : List Nat) : Prop := ∀ (T : Tm) (σ : L2.St) (H : Hp) (vs : List V), Wd c T H σ ρ → DzAll c.K (hide (hid c ρ) H) vs ds → ∀ Q : L2.St → Hp → Prop, (∀ σ' H', Wd c T H' σ' ρ' → L2.wipe σ' ws = L2.wipe σ ws → Q σ' H') → g vs σ H Q
theorem egs_nil {ws : List Nat} : Egs c gNil [] ρ ρ ws := fun T σ H vs W a Q q => by
  cases a
  exact ⟨rfl, q σ H W rfl⟩
/-- the values of the rest are kept as temporary data -/
theorem Wd.pushAll {vs : List V} {ds : List PyData} (W : Wd c T H σ ρ) (h : DzAll c.K (hide (hid c ρ) H) vs ds) : Wd c (vs.zip ds ++ T) H σ ρ := by
  induction ds generalizing vs with
  | nil => cases h; exact W
  | cons d ds ih =>
    cases h with
    | cons a b =>
      show Wd c ((_, d) :: (_ ++ T)) H σ ρ
      exact (ih b).push a
theorem Wd.allOf {ds : List PyData} : ∀ {vs : List V}, vs.length = ds.length → Wd c (vs.zip ds ++ T) H σ ρ → DzAll c.K (hide (hid c ρ) H) vs ds := by
  induction ds with
  | nil => intro vs h W; cases vs with
    | nil => exact .nil
    | cons _ _ => simp at h
  | cons d ds ih =>
    intro vs h W
    cases vs with
    | nil => simp at h
    | cons v vs =>
      exact .cons (W.tmp (v, d) (by simp)) (ih (by simpa using h) W.pop)
theorem egs_cons {g : TG} {gs : TGs} {ds : List PyData} {ws : List Nat} (h1 : Eg c g (.hard d) ρ ρ1 ws) (h2 : Egs c gs ds ρ1 ρ2 ws) : Egs c (gCons g gs) (d :: ds) ρ ρ2 ws := fun T σ H vs W a Q q => by
  cases a with
  | cons a1 a2 =>
    refine ⟨_, _, rfl, h1 _ σ H _ ((W.pushAll a2).push a1) _ fun σ1 H1 W1 e1 => ?_⟩
    have a3 := Wd.allOf (dpa_length a2) W1
    exact h2 T σ1 H1 _ (W1.tmps fun p hp => List.mem_append_right _ hp) a3 Q fun σ2 H2 W2 e2 => q σ2 H2 W2 (e2.trans e1)
theorem eg_tup {gs : TGs} {ds : List PyData} {n : Nat} {ws : List Nat} (h : Egs c gs ds ρ ρ1 ws) (hn : ds.length = n := by rfl) : Eg c (gTup c.K n gs) (.hard (.tuple ds)) ρ ρ1 ws := fun T σ H v W Q q => by
  obtain ⟨a, xs, rfl, hs, h2⟩ := dp_tup (Wd.dp W)
  exact ⟨a, xs, rfl, (ex_p (hide_ex _ _) hs).sq, by rw [dpa_length h2, hn], h T σ H xs (Wd.pop W) h2 Q q⟩
theorem eg_soft {gs : TGs} {ds : List PyData} {n : Nat} {ws : List Nat} (h : Egs c gs ds ρ ρ1 ws) (hn : ds.length = n := by rfl) : Eg c (gTup c.K n gs) (.soft ds) ρ ρ1 ws := fun T σ H v W Q q => by
  obtain ⟨a, xs, rfl, hs, hl, W⟩ := W
  exact ⟨a, xs, rfl, hs, by rw [hl, hn], h T σ H xs (W.tmps fun p hp => List.mem_append_right _ hp) (Wd.allOf hl W) Q q⟩
/-! ### list comprehensions -/
abbrev Cz.at (c : Cz) (S : List Addr) (B : Hp) : Cz := { c with S0 := S, B := B }
theorem Wd.pin {p : Addr} {u : HO} (W : Wd (c.hidden p) T H σ ρ) (h : H p = some u) (hB : c.B p = none) (hs : ∀ a ∈ c.M, a ∈ c.S0) (h0 : p ∉ c.S0) : Wd (c.at (p :: c.S0) (upd c.B p u)) T H σ ρ := by
  have hn := W.notin h0 hs
  refine ⟨W.len, fun a o n e => ?_, W.sub, W.dom, W.tmp, W.inj, W.ap, fun i s e => ?_⟩
  · by_cases q : a = p
    · rw [q] at e ⊢
      have e : upd c.B p u p = some o := e
      rw [upd_same] at e
      rw [h, e]
    · have e : upd c.B p u a = some o := e
      rw [upd_ne q] at e
      exact W.keep a o n e
  · have ok := W.ok i s e
    cases s with
    | mu l a o =>
      obtain ⟨x, y, z⟩ := ok
      refine ⟨x, ?_, z⟩
      cases l with
      | true =>
        rw [if_pos rfl] at y ⊢
        have na : a ≠ p := fun q => W.ap i a o e (by rw [q]; exact List.mem_cons_self ..)
        show upd c.B p u a = none
        rw [upd_ne na]; exact y
      | false => rw [if_neg (by decide)] at y ⊢; exact y
    | _ => exact ok
theorem Wd.unpin {p : Addr} {u : HO} (W : Wd (c.at (p :: c.S0) (upd c.B p u)) T H σ ρ) (hB : c.B p = none) (hM : p ∉ c.M) : H p = some u ∧ Wd (c.hidden p) T H σ ρ := by
  refine ⟨W.keep p u hM upd_same, W.len, fun a o n e => W.keep a o n ?_, W.sub, W.dom, W.tmp, W.inj, W.ap, fun i s e => ?_⟩
  · show upd c.B p u a = some o
    rw [upd_ne (fun q => by
      have e : c.B a = some o := e
      rw [q, hB] at e; cases e)]
    exact e
  · have ok := W.ok i s e
    cases s with
    | mu l a o =>
      obtain ⟨x, y, z⟩ := ok
      refine ⟨x, ?_, z⟩
      cases l with
      | true =>
        rw [if_pos rfl] at y ⊢
        have na : a ≠ p := fun q => W.ap i a o e (by rw [q]; exact List.mem_cons_self ..)
        have y : upd c.B p u a = none := y
        rw [upd_ne na] at y; exact y
      | false => rw [if_neg (by decide)] at y ⊢; exact y
    | _ => exact ok
/-- what is hidden changes -/
theorem Wd.updHid {p : Addr} {u : HO} (W : Wd (c.hidden p) T H σ ρ) (hB : c.B p = none) (hn : p ∉ hid c ρ) : Wd (c.hidden p) T (upd H p u) σ ρ := by
  have e2 : Ex (hide (hid (c.hidden p) ρ) H) (hide (hid (c.hidden p) ρ) (upd H p u)) := hide_mono fun b o n e => ⟨n, by
    rw [upd_ne (fun q => n (by rw [q]; exact List.mem_cons_self ..))]; exact e⟩
  refine ⟨W.len, fun a o n e => ?_, W.sub, fun a m => ?_, fun q hq => dpm e2 (W.tmp q hq), W.inj, W.ap, fun i s e => ?_⟩
  · rw [upd_ne (fun q => by
      have e : c.B a = some o := e
      rw [q, hB] at e; cases e)]
    exact W.keep a o n e
  · by_cases q : a = p
    · rw [q]; exact ⟨u, upd_same⟩
    · rw [upd_ne q]; exact W.dom a m
  · refine slOk_mono e2 (fun a ea => upd_ne fun q => hn ?_) (W.ok i s e)
    cases s with
    | mu l b o => cases ea; exact List.mem_append_right _ (mem_muts.mpr ⟨i, l, o, q ▸ e⟩)
    | _ => cases ea
theorem wipe_wipe {σ : L2.St} : ∀ {vs : List Nat}, L2.wipe (L2.wipe σ vs) vs = L2.wipe σ vs := fun {vs} => by
  apply List.ext_getElem?
  intro k
  by_cases m : k ∈ vs
  · have w0 : ∀ {τ : L2.St} {ws : List Nat}, k ∈ ws → (L2.wipe τ ws)[k]? = (τ.map fun _ => (none : Option V))[k]? := fun {τ ws} hm => by
      induction ws with
      | nil => cases hm
      | cons y ys ih =>
        show ((L2.wipe τ ys).set y none)[k]? = _
        by_cases qq : y = k
        · subst qq
          rw [List.getElem?_set, L2.wipe_length, List.getElem?_map]
          simp
          by_cases hk : y < τ.length
          · simp [hk]
          · simp [hk]
        · rw [List.getElem?_set_ne qq]
          exact ih (by
            rcases List.mem_cons.mp hm with hm | hm
            · exact absurd hm.symm qq
            · exact hm)
    rw [w0 m, w0 m, List.getElem?_map, List.getElem?_map]
    by_cases hk : k < σ.length
    · rw [List.getElem?_eq_getElem hk, List.getElem?_eq_getElem (by rw [L2.wipe_length]; exact hk)]
      rfl
    · have h1 : (L2.wipe σ vs)[k]? = none := List.getElem?_eq_none_iff.mpr (by rw [L2.wipe_length]; omega)
      have h2 : σ[k]? = none := List.getElem?_eq_none_iff.mpr (by omega)
      rw [h1, h2]
  · rw [wipe_get m]
/-- by the turn: what the frame holds, what the new list holds -/
theorem el_lc {wi : TI} {g : TG} {tt : TT} {vs : List Nat} {ds : List Itm} (h : Ei c ρ wi ds ρ1) (I : Nat → List Sl) (acc : Nat → List PyData) (hI : I 0 = ρ1) (hacc : acc 0 = []) (hsz : ds.length ≤ 100000)
    (hvs : ∀ i, i ≤ ds.length → ∀ j ∈ vs, (I i)[j]? = some .no)
    (turn : ∀ (S : List Addr) (B : Hp) (i : Nat) (d : Itm), ds[i]? = some d → ∃ (b : Bool) (ρa ρb : List Sl), Eg (c.at S B) g d (I i) ρa vs ∧ Et (c.at S B) ρa tt b ρb ∧
      (b = true → ∃ d' ρc, Ed (c.at S B) ρb te d' ρc ∧ acc (i + 1) = acc i ++ [d'] ∧ ∀ T H σ, Wd (c.at S B) T H σ ρc → Wd (c.at S B) T H (L2.wipe σ vs) (I (i + 1))) ∧
      (b = false → acc (i + 1) = acc i ∧ ∀ T H σ, Wd (c.at S B) T H σ ρb → Wd (c.at S B) T H (L2.wipe σ vs) (I (i + 1)))) : EdL c ρ (tLc wi g tt te vs) (acc ds.length) (I ds.length) := fun T σ H W Q q =>
  h T σ H W _ fun J H1 T1 W1 hw D hD => by
    have hB := W1.freshB hD
    have hsub := W1.sub
    have nS : D ∉ c.S0 := fun m => W1.fresh hD (List.mem_append_left _ m)
    have nM : D ∉ c.M := fun m => nS (hsub D m)
    obtain ⟨_, hDn, mo0, Wh⟩ := el_new W1 (.nil) hD
    have hvs0 := hvs 0 (Nat.zero_le _)
    rw [hI] at hvs0
    have eP : ∀ {i : Nat} {H2 : Hp}, Wd (c.hidden D) (T1 ++ T) H2 (L2.wipe σ vs) (I i) → D ∉ hid c (I i) := fun W2 => W2.notin nS hsub
    have accl : ∀ i, i ≤ ds.length → (acc i).length ≤ i := fun i => by
      induction i with
      | zero => intro _; rw [hacc]; exact Nat.le_refl _
      | succ i ih =>
        intro hi
        obtain ⟨b, _, _, _, _, g3, g4⟩ := turn [] (fun _ => none) i _ (List.getElem?_eq_getElem (show i < ds.length by omega))
        have := ih (by omega)
        cases b with
        | true =>
          obtain ⟨d', _, _, e, _⟩ := g3 rfl
          rw [e, List.length_append]; show _ + 1 ≤ _; omega
        | false => rw [(g4 rfl).1]; omega
    refine ⟨fun i m H2 => i + m = ds.length ∧ Wd (c.hidden D) (T1 ++ T) H2 (L2.wipe σ vs) (I i) ∧ MoOk c.K (D :: hid c (I i)) H2 D (.lst (acc i)), ⟨ds.length, by omega, by rw [hI]; exact Wh.wipe hvs0, by rw [hI, hacc]; exact mo0⟩, fun i m H2 ⟨hm, W2, mo⟩ => ?_⟩
    by_cases hi : i < ds.length
    · obtain ⟨xs, hxs, dxs⟩ := mo
      have lx := dpa_length dxs
      have la := accl i (by omega)
      have W2a : Wd (c.at (D :: c.S0) (upd c.B D (.lst xs))) (T1 ++ T) H2 (L2.wipe σ vs) (I i) := W2.pin hxs hB hsub nS
      have W2b : Wd (c.at (D :: c.S0) (upd c.B D (.lst xs))) (xs.zip (acc i) ++ (T1 ++ T)) H2 (L2.wipe σ vs) (I i) := W2a.pushAll dxs
      have W2c : Wd (c.at (D :: c.S0) (upd c.B D (.lst xs))) (T1 ++ (xs.zip (acc i) ++ T)) H2 (L2.wipe σ vs) (I i) := W2b.tmps fun p hp => by
        simp only [List.mem_append] at hp ⊢
        rcases hp with hp | hp | hp
        · exact .inr (.inl hp)
        · exact .inl hp
        · exact .inr (.inr hp)
      have hwk := hw (c.at (D :: c.S0) (upd c.B D (.lst xs))) _ _ _ _ rfl W2c
      refine .inr ⟨(hwk.1 i hi).1, fun H3 => Wd (c.hidden D) (T1 ++ T) H3 (L2.wipe σ vs) (I (i + 1)) ∧ MoOk c.K (D :: hid c (I (i + 1))) H3 D (.lst (acc (i + 1))), fun H3 h3 => ⟨m - 1, by omega, by omega, h3.1, h3.2⟩, fun x H3 hy => ?_⟩
      obtain ⟨d, hd, W3⟩ := (hwk.1 i hi).2 x H3 hy
      obtain ⟨b, ρa, ρb, g1, g2, g3, g4⟩ := turn (D :: c.S0) (upd c.B D (.lst xs)) i d hd
      refine g1 _ _ _ _ W3 _ fun σ2 H4 W4 ew => ⟨by rw [ew, wipe_wipe], g2 _ σ2 H4 W4 _ fun H5 W5 => ?_⟩
      rw [wipe_wipe] at ew
      cases b with
      | true =>
        rw [if_pos rfl]
        obtain ⟨d', ρc, g5, ea, wk⟩ := g3 rfl
        refine g5 _ σ2 H5 W5 _ fun y H6 W6 => ?_
        have W7 := wk _ _ _ W6
        rw [ew] at W7
        obtain ⟨hx6, W8⟩ := W7.unpin hB nM
        have hn8 := W8.notin nS hsub
        refine ⟨xs, hx6, Nat.lt_of_lt_of_le (show xs.length < 100000 by omega) (by decide), ?_, ?_⟩
        · refine (W8.updHid hB hn8).tmps fun p hp => List.mem_cons_of_mem _ ?_
          simp only [List.mem_append] at hp ⊢
          rcases hp with hp | hp
          · exact .inl hp
          · exact .inr (.inr hp)
        · refine ⟨xs ++ [y], upd_same, ?_⟩
          rw [ea]
          have W9 := W8.updHid (u := .lst (xs ++ [y])) hB hn8
          have a1 : DzAll c.K (hide (hid (c.hidden D) (I (i + 1))) (upd H6 D (.lst (xs ++ [y])))) xs (acc i) := Wd.allOf (T := (y, d') :: (T1 ++ T)) lx (W9.tmps fun p hp => by
            simp only [List.mem_append, List.mem_cons] at hp ⊢
            rcases hp with hp | hp | hp | hp
            · exact .inr (.inr (.inl hp))
            · exact .inl hp
            · exact .inr (.inl hp)
            · exact .inr (.inr (.inr hp)))
          exact dpa_append a1 (.cons (W9.tmp (y, d') (List.mem_cons_self ..)) .nil)
      | false =>
        rw [if_neg (by decide)]
        obtain ⟨ea, wk⟩ := g4 rfl
        have W7 := wk _ _ _ W5
        rw [ew] at W7
        obtain ⟨hx6, W8⟩ := W7.unpin hB nM
        refine ⟨W8.tmps fun p hp => ?_, xs, hx6, ?_⟩
        · simp only [List.mem_append] at hp ⊢
          rcases hp with hp | hp
          · exact .inl hp
          · exact .inr (.inr hp)
        · rw [ea]
          exact Wd.allOf (T := T1 ++ T) lx (W8.tmps fun p hp => by
            simp only [List.mem_append, List.mem_cons] at hp ⊢
            rcases hp with hp | hp | hp
            · exact .inr (.inl hp)
            · exact .inl hp
            · exact .inr (.inr hp))
    · have ei : i = ds.length := by omega
      subst ei
      refine .inl ⟨(hw (c.hidden D) T (L2.wipe σ vs) H2 (I ds.length) rfl W2).2 _ (Nat.le_refl _), ?_⟩
      have W4 : Wd (c.hidden D) T H2 (L2.wipe σ vs) (I ds.length) := W2.tmps fun p hp => List.mem_append_right _ hp
      exact q D H2 hB (eP W2) mo (W4.unwipe (hvs _ (Nat.le_refl _)))
end
end Nz

namespace Nz
open PySem PySem.Spec PyProof.Rows L2 RZ

def wipeS (ρ : List Sl) : List Nat → List Sl
  | [] => ρ
  | v :: vs => (wipeS ρ vs).set v .no
theorem Wd.wipeS {c : Cz} {T : Tm} {H : Hp} {σ : L2.St} {ρ : List Sl} (W : Wd c T H σ ρ) : ∀ (vs : List Nat), Wd c T H (L2.wipe σ vs) (Nz.wipeS ρ vs)
  | [] => W
  | v :: vs => (Wd.wipeS W vs).setN v none .no rfl trivial
section
variable {c : Cz} {ρ ρ1 ρ2 ρ3 : List Sl} {ta tb te tx : TE} {t u : TT} {d d1 d2 d3 : PyData} {T : Tm} {H H' : Hp} {σ : L2.St}
/-- items xs, those with p, made into eb -/
theorem el_lcP {α : Type} {wi : TI} {g : TG} {tt : TT} {vs : List Nat} (xs : List α) (ea : α → Itm) (p : α → Bool) (eb : α → PyData) (h : Ei c ρ wi (xs.map ea) ρ1) (hsz : xs.length ≤ 100000) (hvs : ∀ j ∈ vs, ρ1[j]? = some .no)
    (turn : ∀ (S : List Addr) (B : Hp) (x : α), x ∈ xs → ∃ ρa, Nz.wipeS ρa vs = ρ1 ∧ Eg (c.at S B) g (ea x) ρ1 ρa vs ∧ Et (c.at S B) ρa tt (p x) ρa ∧ (p x = true → Ed (c.at S B) ρa te (eb x) ρa)) :
    EdL c ρ (tLc wi g tt te vs) ((xs.filter p).map eb) ρ1 := by
  have key := el_lc (c := c) (tt := tt) (te := te) (vs := vs) h (fun _ => ρ1) (fun i => ((xs.take i).filter p).map eb) rfl (by simp) (by rw [List.length_map]; exact hsz) (fun _ _ => hvs) (fun S B i d hd => by
    rw [List.getElem?_map] at hd
    cases hx : xs[i]? with
    | none => rw [hx] at hd; cases hd
    | some x =>
      rw [hx] at hd
      have hd : ea x = d := Option.some.inj hd
      subst hd
      obtain ⟨ρa, hw, g1, g2, g3⟩ := turn S B x (List.mem_of_getElem? hx)
      refine ⟨p x, ρa, ρa, g1, g2, fun hp => ⟨eb x, ρa, g3 hp, ?_, fun T H σ W => hw ▸ W.wipeS vs⟩, fun hp => ⟨?_, fun T H σ W => hw ▸ W.wipeS vs⟩⟩
      · rw [List.take_add_one, hx]
        simp [hp]
      · rw [List.take_add_one, hx]
        simp [hp])
  have e : (List.map eb (List.filter p (List.take (List.map ea xs).length xs))) = (xs.filter p).map eb := by
    rw [List.length_map, List.take_length]
  rw [e] at key
  exact key
/-- all items -/
theorem el_lcA {α : Type} {wi : TI} {g : TG} {vs : List Nat} (xs : List α) (ea : α → Itm) (eb : α → PyData) (h : Ei c ρ wi (xs.map ea) ρ1) (hsz : xs.length ≤ 100000) (hvs : ∀ j ∈ vs, ρ1[j]? = some .no)
    (turn : ∀ (S : List Addr) (B : Hp) (x : α), x ∈ xs → ∃ ρa, Nz.wipeS ρa vs = ρ1 ∧ Eg (c.at S B) g (ea x) ρ1 ρa vs ∧ Ed (c.at S B) ρa te (eb x) ρa) :
    EdL c ρ (tLc wi g tYes te vs) (xs.map eb) ρ1 := by
  have key := el_lcP (c := c) (tt := tYes) (te := te) (vs := vs) xs ea (fun _ => true) eb h hsz hvs (fun S B x hx => by
    obtain ⟨ρa, hw, g1, g2⟩ := turn S B x hx
    exact ⟨ρa, hw, g1, fun T σ H W Q q => q H W, fun _ => g2⟩)
  rw [List.filter_eq_self.mpr (fun _ _ => rfl)] at key
  exact key
theorem ei_rng {n : Int} (h : Ed c ρ te (.int n) ρ1) (hn : -4000000000 ≤ n ∧ n ≤ 4000000000) : Ei c ρ (iRng1 (tCons te tNil)) ((List.range n.toNat).map fun (i : Nat) => Itm.hard (PyData.int (i : Int))) ρ1 := by
  have := ei_rng1 h hn
  unfold hards rngD at this
  simp only [Int.zero_add, List.map_map] at this
  exact this

/-! ### statements -/
def Sk (c : Cz) (T : Tm) (ρ : List Sl) (nx : L2.St → Hp → Prop) : Prop := ∀ σ H, Wd c T H σ ρ → nx σ H
abbrev Ss (c : Cz) (T : Tm) (ρ : List Sl) (ts : TS) (D : Ends) : Prop := Sk c T ρ (ts D)
theorem Sk.more {T' : Tm} {nx : L2.St → Hp → Prop} (h : Sk c T ρ nx) (hT : ∀ p ∈ T, p ∈ T') : Sk c T' ρ nx := fun σ H W => h σ H (W.tmps hT)
def Le (ρ ρ' : List Sl) : Prop := ρ.length = ρ'.length ∧ ∀ (i : Nat) (s s' : Sl), ρ[i]? = some s → ρ'[i]? = some s' → slLe s s'
theorem slLe_refl (s : Sl) : slLe s s := by cases s <;> simp [slLe, MoLe]
theorem Le.refl (ρ : List Sl) : Le ρ ρ := ⟨rfl, fun i s s' h h' => by rw [h] at h'; cases h'; exact slLe_refl s⟩
theorem le_nil : Le [] [] := Le.refl _
theorem le_cons {s s' : Sl} {ρ ρ' : List Sl} (h : slLe s s') (t : Le ρ ρ') : Le (s :: ρ) (s' :: ρ') := ⟨by rw [List.length_cons, List.length_cons, t.1], fun i a b h1 h2 => by
  cases i with
  | zero => cases h1; cases h2; exact h
  | succ i => exact t.2 i a b (by simpa using h1) (by simpa using h2)⟩
theorem le_same {s : Sl} {ρ ρ' : List Sl} (t : Le ρ ρ') : Le (s :: ρ) (s :: ρ') := le_cons (slLe_refl s) t
theorem le_no {s : Sl} {ρ ρ' : List Sl} (t : Le ρ ρ') : Le (s :: ρ) (.no :: ρ') := le_cons (by cases s <;> exact trivial) t
theorem le_da {ρ ρ' : List Sl} (e : d = d1) (t : Le ρ ρ') : Le (.da d :: ρ) (.da d1 :: ρ') := le_cons e t
theorem le_frz {ρ ρ' : List Sl} {a : Addr} {ds : List PyData} (t : Le ρ ρ') : Le (.mu true a (.lst ds) :: ρ) (.da (.list ds) :: ρ') := le_cons ⟨rfl, rfl⟩ t
theorem le_mu {ρ ρ' : List Sl} {l : Bool} {a : Addr} {o o' : MO} (e : o = o') (t : Le ρ ρ') : Le (.mu l a o :: ρ) (.mu l a o' :: ρ') := le_cons ⟨rfl, rfl, .inl e⟩ t
theorem le_any {ρ ρ' : List Sl} {l : Bool} {a : Addr} {ds : List PyData} {P : List PyData → Prop} (p : P ds) (t : Le ρ ρ') : Le (.mu l a (.lst ds) :: ρ) (.mu l a (.any P) :: ρ') := le_cons ⟨rfl, rfl, .inr ⟨ds, P, rfl, rfl, p⟩⟩ t
theorem Wd.le (W : Wd c T H σ ρ) (h : Le ρ ρ') : Wd c T H σ ρ' := W.weak h.1 h.2
theorem s_le {nx : L2.St → Hp → Prop} (h : Le ρ ρ1) (k : Sk c T ρ1 nx) : Sk c T ρ nx := fun σ H W => k σ H (W.le h)
theorem s_end (h : Le ρ ρ1) : Sk c T ρ (fun σ H => Wd c T H σ ρ1) := fun σ H W => W.le h
variable {D : Ends} {ts tu : TS} {g : TG} {nx bk ct : L2.St → Hp → Prop} {rt : VK}
theorem s_seq (h : Ss c T ρ ts { D with nx := tu D }) : Ss c T ρ (tSeq ts tu) D := h
theorem s_next (k : Sk c T ρ nx) : Ss c T ρ tNext ⟨nx, rt, bk, ct⟩ := k
theorem s_asgG {ws : List Nat} (h : Ed c ρ te d ρ1) (hg : Eg c g (.hard d) ρ1 ρ2 ws) (k : Sk c T ρ2 nx) : Ss c T ρ (tAsg te g) ⟨nx, rt, bk, ct⟩ := fun σ H W => h T σ H W _ fun v H1 W1 => hg T σ H1 v W1 _ fun σ2 H2 W2 _ => k σ2 H2 W2
theorem s_asg {i : Nat} (h : Ed c ρ te d ρ1) (k : Sk c T (ρ1.set i (.da d)) nx) : Ss c T ρ (tAsg te (gName i)) ⟨nx, rt, bk, ct⟩ := s_asgG (ws := [i]) h (eg_name (List.mem_cons_self ..)) k
/-- a new list that will change -/
theorem s_asgM {i : Nat} {ds : List PyData} (h : EdL c ρ te ds ρ1) (k : ∀ p, Sk c T (ρ1.set i (.mu true p (.lst ds))) nx) : Ss c T ρ (tAsg te (gName i)) ⟨nx, rt, bk, ct⟩ := fun σ H W =>
  h T σ H W _ fun p H1 hB hn mo W1 => k p _ _ (W1.setM W.sub i (by rw [if_pos rfl]; exact hB) hn mo)
/-- a, b = x, y -/
theorem s_par {i j : Nat} {x y : PyData} {tp : TA} (h : Ea c ρ tp [.dat x, .dat y] ρ1) (k : Sk c T ((ρ1.set i (.da x)).set j (.da y)) nx) : Ss c T ρ (tPar i j tp) ⟨nx, rt, bk, ct⟩ := fun σ H W => h T σ H W _ fun vs H1 a W1 => by
  obtain ⟨v, w, rfl, h1, h2⟩ := aa2 a
  refine ⟨v, w, rfl, ?_⟩
  have W2 := ((W1.push h2).push h1)
  have W3 := (W2.pop.push h1).setD i h1
  have W4 := W3.pop.setD j (W3.tmp (w, y) (by simp))
  exact k _ _ W4.pop
theorem s_aug {i : Nat} {f : Int → Int → Int} {a b : Int} (hx : ρ[i]? = some (.da (.int a))) (h : Ed c ρ te (.int b) ρ) (k : Sk c T (ρ.set i (.da (.int (f a b)))) nx) : Ss c T ρ (tAug i te (ipI f)) ⟨nx, rt, bk, ct⟩ := fun σ H W => by
  obtain ⟨v, e, dp⟩ := W.ok i _ hx
  refine ⟨v, e, h T σ H W _ fun w H1 W1 => ⟨a, b, dp_int dp, dp_int W1.dp, ?_⟩⟩
  exact k _ _ (W1.pop.setD i (.int _))
theorem s_drop (h : Ed c ρ te d ρ1) (k : Sk c T ρ1 nx) : Ss c T ρ (tDrop te) ⟨nx, rt, bk, ct⟩ := fun σ H W => h T σ H W _ fun v H1 W1 => k σ H1 W1.pop
theorem s_append {i : Nat} {l : Bool} {a : Addr} {ds : List PyData} (h : Ed c ρ te d ρ1) (h0 : ∃ l ds, ρ[i]? = some (.mu l a (.lst ds))) (ha : ρ1[i]? = some (.mu l a (.lst ds))) (hz : ds.length < 100000) (k : Sk c T (ρ1.set i (.mu l a (.lst (ds ++ [d])))) nx) :
    Ss c T ρ (tDrop (tBM c.K "list" rAppend (tVar i) (tCons te tNil))) ⟨nx, rt, bk, ct⟩ := fun σ H W => by
  obtain ⟨l0, o0, h0⟩ := h0
  obtain ⟨e0, e2, e3⟩ := W.ok i _ h0
  obtain ⟨ys, e7, _⟩ := e3
  have ty : tyV c.K "list" (.ref a) H := .inl ⟨rfl, ys, sq_of e7⟩
  refine ⟨.ref a, e0, ty, h T σ H W _ fun v H1 W1 => ?_⟩
  obtain ⟨_, _, xs, e4, e5⟩ := W1.ok i _ ha
  refine ⟨a, xs, v, rfl, rfl, e4, by rw [dpa_length e5]; exact Nat.lt_of_lt_of_le hz (by decide), ?_⟩
  refine k _ _ (W1.pop.updM ha ⟨xs ++ [v], upd_same, ?_⟩)
  have hm : a ∈ hid c ρ1 := List.mem_append_right _ (mem_muts.mpr ⟨i, l, _, ha⟩)
  have e6 : Ex (hide (hid c ρ1) H1) (hide (hid c ρ1) (upd H1 a (.lst (xs ++ [v])))) := hide_mono fun b o nb e => ⟨nb, by rw [upd_ne (fun q => nb (by rw [q]; exact hm))]; exact e⟩
  exact dpam e6 (dpa_append e5 (.cons W1.dp .nil))
theorem s_setL {i : Nat} {l : Bool} {a : Addr} {ds : List PyData} {j : Int} {n : Nat} (h : Ed c ρ te d ρ1) (hj : Ed c ρ1 tb (.int j) ρ2) (h0 : ∃ l o, ρ1[i]? = some (.mu l a o)) (ha : ρ2[i]? = some (.mu l a (.lst ds))) (hn : ixN ds.length j = some n) (k : Sk c T (ρ2.set i (.mu l a (.lst (ds.set n d)))) nx) :
    Ss c T ρ (tAsg te (gSub (tVar i) tb rSetL)) ⟨nx, rt, bk, ct⟩ := fun σ H W => h T σ H W _ fun v H1 W1 => by
  obtain ⟨l0, o0, h0⟩ := h0
  obtain ⟨e0, _, _⟩ := W1.ok i _ h0
  refine ⟨.ref a, e0, hj _ σ H1 W1 _ fun w H2 W2 => ?_⟩
  obtain ⟨e1, e2, xs, e3, e4⟩ := W2.ok i _ ha
  refine ⟨a, xs, j, n, rfl, dp_int W2.dp, e3, by rw [dpa_length e4]; exact hn, ?_⟩
  have W3 := W2.pop
  refine k _ _ (W3.pop.updM ha ⟨xs.set n v, upd_same, ?_⟩)
  have hm : a ∈ hid c ρ2 := List.mem_append_right _ (mem_muts.mpr ⟨i, l, _, ha⟩)
  have e5 : Ex (hide (hid c ρ2) H2) (hide (hid c ρ2) (upd H2 a (.lst (xs.set n v)))) := hide_mono fun b o nb e => ⟨nb, by rw [upd_ne (fun q => nb (by rw [q]; exact hm))]; exact e⟩
  exact dpam e5 (dpa_set n e4 W3.dp)
theorem s_if {b : Bool} (h : Et c ρ t b ρ1) (h1 : b = true → Ss c T ρ1 ts D) (h2 : b = false → Ss c T ρ1 tu D) : Ss c T ρ (tIfS t ts tu) D := fun σ H W => h T σ H W _ fun H1 W1 => by
  cases b with
  | true => exact h1 rfl σ H1 W1
  | false => exact h2 rfl σ H1 W1
/-- an if that is not entered (what is in it is never reached) -/
theorem s_skip {b : Bool} (h : Et c ρ t b ρ1) (hb : b = false) (k : Sk c T ρ1 nx) : Ss c T ρ (tIfS t ts tNext) ⟨nx, rt, bk, ct⟩ := s_if h (fun e => by rw [hb] at e; cases e) (fun _ => k)
/-- a for over anything -/
theorem s_for {wi : TI} {tbd : TS} {ds : List Itm} (h : Ei c ρ wi ds ρ1) (I : Nat → List Sl) (h0 : Le ρ1 (I 0))
    (hs : ∀ (T' : Tm), (∀ p ∈ T, p ∈ T') → ∀ (i : Nat) (d : Itm), ds[i]? = some d → ∃ ρa ws, Eg c g d (I i) ρa ws ∧ Ss c T' ρa tbd ⟨fun σ H => Wd c T' H σ (I (i + 1)), rt, nx, fun σ H => Wd c T' H σ (I (i + 1))⟩)
    (hd : Sk c T (I ds.length) nx) : Ss c T ρ (tFor wi g tbd) ⟨nx, rt, bk, ct⟩ := fun σ H W => h T σ H W _ fun J H1 T1 W1 hw => by
  refine ⟨fun i m σ' H' => i + m = ds.length ∧ Wd c (T1 ++ T) H' σ' (I i), ⟨ds.length, by omega, W1.le h0⟩, fun i m σ' H' ⟨hm, W2⟩ => ?_⟩
  have hwk := hw c T σ' H' (I i) rfl W2
  by_cases hi : i < ds.length
  · refine .inr ⟨(hwk.1 i hi).1, fun σ3 H3 => Wd c (T1 ++ T) H3 σ3 (I (i + 1)), fun σ3 H3 h3 => ⟨m - 1, by omega, by omega, h3⟩, fun x H3 hy => ?_⟩
    obtain ⟨d, hd', W3⟩ := (hwk.1 i hi).2 x H3 hy
    obtain ⟨ρa, ws, g1, g2⟩ := hs (T1 ++ T) (fun p hp => List.mem_append_right _ hp) i d hd'
    exact g1 _ σ' H3 x W3 _ fun σ4 H4 W4 _ => g2 σ4 H4 W4
  · have ei : i = ds.length := by omega
    subst ei
    exact .inl ⟨hwk.2 _ (Nat.le_refl _), hd σ' H' (W2.tmps fun p hp => List.mem_append_right _ hp)⟩
/-- a for over typed items -/
theorem s_forX {α : Type} {wi : TI} {tbd : TS} (xs : List α) (ea : α → Itm) (h : Ei c ρ wi (xs.map ea) ρ1) (I : Nat → List Sl) (h0 : Le ρ1 (I 0))
    (hs : ∀ (T' : Tm), (∀ p ∈ T, p ∈ T') → ∀ (i : Nat) (x : α), xs[i]? = some x → ∃ ρa ws, Eg c g (ea x) (I i) ρa ws ∧ Ss c T' ρa tbd ⟨fun σ H => Wd c T' H σ (I (i + 1)), rt, nx, fun σ H => Wd c T' H σ (I (i + 1))⟩)
    (hd : Sk c T (I xs.length) nx) : Ss c T ρ (tFor wi g tbd) ⟨nx, rt, bk, ct⟩ := by
  refine s_for h I h0 (fun T' hT i d hd => ?_) (by rw [List.length_map]; exact hd)
  rw [List.getElem?_map] at hd
  cases hx : xs[i]? with
  | none => rw [hx] at hd; cases hd
  | some x =>
    rw [hx] at hd
    have hd : ea x = d := Option.some.inj hd
    subst hd
    exact hs T' hT i x hx
/-- a while, by a state α -/
theorem s_while {α : Type} {tbd : TS} (I : α → List Sl) (P : α → Prop) (μ : α → Nat) (a0 : α) (hP : P a0) (h0 : Le ρ (I a0))
    (hs : ∀ a, P a → ∃ (b : Bool) (ρa : List Sl), Et c (I a) t b ρa ∧ (b = true → Ss c T ρa tbd ⟨fun σ H => ∃ a', P a' ∧ μ a' < μ a ∧ Wd c T H σ (I a'), rt, nx, fun σ H => ∃ a', P a' ∧ μ a' < μ a ∧ Wd c T H σ (I a')⟩) ∧ (b = false → Sk c T ρa nx)) :
    Ss c T ρ (tWhile t tbd) ⟨nx, rt, bk, ct⟩ := fun σ H W => by
  refine ⟨fun m σ' H' => ∃ a, P a ∧ μ a = m ∧ Wd c T H' σ' (I a), ⟨μ a0, a0, hP, rfl, W.le h0⟩, fun m σ' H' ⟨a, ha, hm, W1⟩ => ?_⟩
  obtain ⟨b, ρa, g1, g2, g3⟩ := hs a ha
  refine g1 T σ' H' W1 _ fun H2 W2 => ?_
  cases b with
  | true =>
    rw [if_pos rfl]
    refine ⟨fun σ3 H3 => ∃ a', P a' ∧ μ a' < μ a ∧ Wd c T H3 σ3 (I a'), fun σ3 H3 ⟨a', q1, q2, q3⟩ => ⟨μ a', by omega, a', q1, rfl, q3⟩, g2 rfl σ' H2 W2⟩
  | false =>
    rw [if_neg (by decide)]
    exact g3 rfl σ' H2 W2
theorem s_endW {α : Type} {I : α → List Sl} {P : α → Prop} {μ : α → Nat} {n : Nat} (a' : α) (hP : P a') (hμ : μ a' < n) (h : Le ρ (I a')) : Sk c T ρ (fun σ H => ∃ a', P a' ∧ μ a' < n ∧ Wd c T H σ (I a')) := fun σ H W => ⟨a', hP, hμ, W.le h⟩
/-- what is wanted of what is returned -/
def Rt (c : Cz) (d : PyData) (ms : List (Addr × MO)) (rt : VK) : Prop := ∀ v H', (∀ a o, a ∉ c.M → c.B a = some o → H' a = some o) → (∀ p ∈ ms, MoOk c.K c.S0 H' p.1 p.2) → Dz c.K (hide c.S0 H') v d → rt v H'
theorem hide_S0 : Ex (hide (hid c ρ) H) (hide c.S0 H) := hide_mono fun a o n h => ⟨fun m => n (List.mem_append_left _ m), h⟩
theorem s_ret (h : Ed c ρ te d ρ1) (hr : Rt c d [] D.rt) : Ss c T ρ (tRet te) D := fun σ H W => h T σ H W _ fun v H1 W1 => hr v H1 W1.keep (fun _ hp => by cases hp) (dpm hide_S0 W1.dp)
theorem s_retS {i : Nat} {l : Bool} {a : Addr} {st : MO} (h : Ed c ρ te d ρ1) (hi : ρ1[i]? = some (.mu l a st)) (hr : Rt c d [(a, st)] D.rt) : Ss c T ρ (tRet te) D := fun σ H W => h T σ H W _ fun v H1 W1 => hr v H1 W1.keep (fun p hp => by
  simp only [List.mem_singleton] at hp
  subst hp
  exact (W1.ok i _ hi).2.2.mono hide_S0 rfl) (dpm hide_S0 W1.dp)
/-! ### a def's entry -/
theorem start_wd {K : PySem.W.Frag} {N : List Str} {vs : List V} {ds : List PyData} {S M : List Addr} {H : Hp} (hd : ∀ a ∈ S, ∃ o, H a = some o) (a : DzAll K (hide S H) vs ds) (hl : ds.length ≤ N.length) :
    Wd ⟨K, H, [], S⟩ [] H (L2.start N vs) (ds.map .da ++ List.replicate (N.length - ds.length) .no) := by
  have lv := dpa_length a
  have nm : ∀ (i : Nat) (l : Bool) (b : Addr) (o : MO), (ds.map Sl.da ++ List.replicate (N.length - ds.length) Sl.no)[i]? ≠ some (.mu l b o) := fun i l b o e => by
    have := List.mem_of_getElem? e
    simp at this
  have hid0 : muts (ds.map Sl.da ++ List.replicate (N.length - ds.length) Sl.no) = [] := by
    apply List.eq_nil_iff_forall_not_mem.mpr
    intro b m
    obtain ⟨i, l, o, e⟩ := mem_muts.mp m
    exact nm i l b o e
  have hh : hid ⟨K, H, [], S⟩ (ds.map Sl.da ++ List.replicate (N.length - ds.length) Sl.no) = S := by
    show S ++ muts _ = S
    rw [hid0, List.append_nil]
  refine ⟨?_, fun a o _ h => h, fun a m => (nomatch m), hd, fun p hp => (nomatch hp), fun i j l m a o u h _ => absurd h (nm i l a o), fun i a o h => absurd h (nm i true a o), fun i s e => ?_⟩
  · unfold L2.start
    simp [lv]
  · rw [hh]
    unfold L2.start
    by_cases hi : i < ds.length
    · rw [List.getElem?_append_left (by simpa using hi), List.getElem?_map, List.getElem?_eq_getElem hi] at e
      cases e
      obtain ⟨v, e1, e2⟩ := dpa_get a (List.getElem?_eq_getElem hi)
      refine ⟨v, ?_, e2⟩
      rw [List.getElem?_append_left (by simp; omega), List.getElem?_map, e1]
      rfl
    · rw [List.getElem?_append_right (by simp; omega)] at e
      have := List.mem_of_getElem? e
      simp at this
      rw [this.2]
      exact trivial
/-- a pure def -/
theorem fn_pure {K : PySem.W.Frag} {R : List PyData → PyData → Prop} {N : List Str} {ts : TS} (hN : ∀ ds d, R ds d → ds.length ≤ N.length)
    (h : ∀ (B : Hp) (S : List Addr) (ds : List PyData) (d : PyData), R ds d → ∀ D : Ends, Rt ⟨K, B, [], S⟩ d [] D.rt → (d = .none → ∀ T ρ, Sk ⟨K, B, [], S⟩ T ρ D.nx) → Ss ⟨K, B, [], S⟩ [] (ds.map .da ++ List.replicate (N.length - ds.length) .no) ts D)
    (vs : List V) (H : Hp) (Q : VK) (E : XK) (hs : SpP K R vs H Q E) : ts { nx := fun _ H' => Q .non H', rt := Q } (L2.start N vs) H := by
  obtain ⟨S, ds, d, hd, a, hR, q⟩ := hs
  refine h H S ds d hR { nx := fun _ H' => Q .non H', rt := Q } (fun v H' k _ dp => q v H' (fun a o e => k a o (fun m => nomatch m) e) dp) (fun e T ρ σ H' W => ?_) _ _ (start_wd (M := []) hd a (hN _ _ hR))
  subst e
  exact q .non H' (fun a o e => W.keep a o (fun m => nomatch m) e) .non
end
end Nz

/-! rules of the machine that the layer lacks: plain tuples, reversed tuples, sums of tuples, tuple.count, repr of data, products and quotients of great ints -/
namespace Nz
open PySem PySem.Spec PyProof.Rows L2 RZ HT

theorem isTup_dict {h : Heap} {a : Addr} {o : Obj} {its : Array Value} (e : h.get? a = some o) (p : IsTup h a its) : o.cls = .type "tuple" ∧ ∃ n, o.data = .seq its n := by
  obtain ⟨o', e', hc, hd⟩ := p
  rw [e] at e'
  cases e'
  exact ⟨hc, hd⟩
section
variable {X : Cx} {pins : List (Addr × Obj)} {σ : L2.St} {H : Hp} {s : Shared}
/-- a new tuple is laid, plain -/
theorem newTup (I : Inv X pins σ H s) {xs : List V} {its : List Value} {Q : VK} (z : xs.length ≤ sizeLine) (r : Vals xs its) (q : ∀ p o, o.dict = none → H p = none → Q (.ref p) (upd H p (.frz o (.tup xs)))) :
    EP X pins σ Q (.ref s.heap.objs.size) { s with heap := s.heap.push { cls := .type "tuple", data := .seq its.toArray } } := by
  refine ⟨.ref s.heap.objs.size, _, I.laid (t' := s.toks) (o := .frz { cls := .type "tuple", data := .seq its.toArray } (.tup xs)) (fun b ob q => Heap.get?_push_of_some _ q) (Nat.le_refl _) ?_, rfl, q _ _ rfl (I.hok.fresh (Nat.le_refl _))⟩
  exact ⟨Heap.get?_push_size _ rfl, z, its, r, IsTup.new _ _⟩
theorem pe_tupF {es : List Expr} {t : TA} {x1} {pos : Pos} (h : PA X es t) : PE X (.Tuple es x1 pos) (tTupF t) := by
  refine ⟨fun pins s σ H Q I hq => ?_⟩
  refine wpAny_Tuple_spliced (thn (h.run pos pins s σ H _ I hq) fun us s1 ⟨xs, H1, I1, r, z, q⟩ => ⟨by rw [← r.length]; exact z, ?_⟩)
  exact newTup I1 z r q
theorem call_tupleF : CallR X (.type "tuple") (rTupOf X.K) := by
  intro pins s σ H xs us Q I r h
  obtain ⟨p, ys, rfl, h⟩ := h
  obtain ⟨u, rfl, rx⟩ := vals1 r
  cases rx
  rcases h with ⟨hq, q⟩ | ⟨hq, q⟩
  · obtain ⟨its, r', pl, hz⟩ := I.list hq
    have hlen := r'.length
    refine call_tuple_list pl.isList (fun h' kp => ?_) (by simp only [List.size_toArray] <;> omega)
    exact newTup (s := { s with heap := h' }) (I.kept (t' := s.toks) kp) hz r' q
  · obtain ⟨its, r', pl, hz⟩ := I.tuple hq
    exact call_tuple_same pl ⟨.ref p, H, I, rfl, q⟩
/-- t + u -/
def rCatF (K : PySem.W.Frag) : R2 := fun x y H Q => ∃ a b xs ys, x = .ref a ∧ y = .ref b ∧ SqT K H a xs ∧ SqT K H b ys ∧ xs.length + ys.length ≤ sizeLine ∧
  (xs = [] → Q (.ref b) H) ∧ (xs ≠ [] → ys = [] → Q (.ref a) H) ∧ (xs ≠ [] → ys ≠ [] → ∀ p o, o.dict = none → H p = none → Q (.ref p) (upd H p (.frz o (.tup (xs ++ ys)))))
theorem op_catF : OpR X (binaryOp .Add) (rCatF X.K) := by
  intro pins s σ H x y v u Q I rx ry h
  obtain ⟨a, b, xs, ys, rfl, rfl, ha, hb, hz, q0, q1, q2⟩ := h
  cases rx
  cases ry
  obtain ⟨its, r1, p1, _⟩ := I.tuple ha
  obtain ⟨its2, r2, p2, _⟩ := I.tuple hb
  by_cases hx : xs = []
  · subst hx
    cases r1
    exact cat_tup0 p1 p2 ⟨.ref b, H, I, rfl, q0 rfl⟩
  · refine cat_tup p1 p2 (fun z => hx (r1.nil_iff.mp z)) (fun z => ⟨.ref a, H, I, rfl, q1 hx (r2.nil_iff.mp z)⟩) (fun z => ?_) (by rw [← r1.length, ← r2.length]; exact hz)
    exact newTup I (by rw [List.length_append]; exact hz) (r1.append r2) (q2 hx (fun w => z (r2.nil_iff.mpr w)))
/-- t[lo:hi]: the whole of it is t itself -/
def rSlF (K : PySem.W.Frag) : V → Option Int → Option Int → Hp → VK → Prop := fun x lo hi H Q => ∃ a xs, x = .ref a ∧ SqT K H a xs ∧
  (sIx xs.length 0 lo = 0 ∧ sIx xs.length xs.length hi = xs.length → Q (.ref a) H) ∧ (¬ (sIx xs.length 0 lo = 0 ∧ sIx xs.length xs.length hi = xs.length) → ∀ p o, o.dict = none → H p = none → Q (.ref p) (upd H p (.frz o (.tup (cutV xs lo hi)))))
theorem sl_tupF : SlR X (rSlF X.K) := by
  intro pins s σ H x v vl vu lo hi sl Q I rx hs pl pu h
  obtain ⟨a, xs, rfl, hx, q1, q2⟩ := h
  cases rx
  obtain ⟨its, r, ht, hz⟩ := I.tuple hx
  have hlen : its.toArray.size = xs.length := by rw [List.size_toArray]; exact r.length.symm
  by_cases hw : sIx xs.length 0 lo = 0 ∧ sIx xs.length xs.length hi = xs.length
  · refine ⟨"tuple", _, PyProof.Rows.slot_tuple_getitem.lookup, ht.typeIs, ?_⟩
    exact getItem_tuple_whole ht hs pl pu (by rw [hlen]; exact hw) ⟨.ref a, H, I, rfl, q1 hw⟩
  · refine ⟨"tuple", _, PyProof.Rows.slot_tuple_getitem.lookup, ht.typeIs, ?_⟩
    refine getItem_tuple_cut ht hs pl pu (by rw [hlen]; exact hw) ?_ (by rw [hlen]; exact hz)
    rw [hlen]
    exact newTup I (Nat.le_trans (cutV_length xs lo hi) hz) ((r.drop _).take _) (q2 hw)
end
/-! ### t[::-1] -/
section
variable {prog : Program} {w : World} {A : Around} {E : Value → Shared → Prop} {s : Shared}
theorem sliceApplied_rev {sl : Addr} {vl vu vs : Value} {n : Nat} {Q : Int × Int × Nat → Shared → Prop} (hs : s.heap.IsSliceOf sl vl vu vs) (pl : IsPart vl none) (pu : IsPart vu none) (ps : IsPart vs (some (-1)))
    (h : Q ((n : Int) - 1, -1, n) s) : wpAny (model prog w) A (Builtin.Slice.sliceApplied (.ref sl) (pure (n : Int))) Q E s := by
  obtain ⟨os, hos, hcs, hds⟩ := id hs
  unfold Builtin.Slice.sliceApplied Builtin.Slice.sliceFields
  refine wpAny_bind (wpAny_bind (wpAny_field hos hds (x := vl) rfl (wpAny_bind (wpAny_field hos hds (x := vu) rfl (wpAny_bind (wpAny_field hos hds (x := vs) rfl (wpAny_pure ?_)))))))
  refine wpAny_bind (slicePart_ ps ?_)
  show wpAny _ _ (if ((-1 : Int) == 0) = true then _ else _) _ _ s
  rw [if_neg (by decide)]
  refine wpAny_bind (slicePart_ pl (wpAny_bind (slicePart_ pu (wpAny_bind (wpAny_pure ?_)))))
  show wpAny _ _ (match Builtin.Slice.sliceAdjust none none (-1) (n : Int) with | (lo, hi) => pure (lo, (-1 : Int), Builtin.Slice.slicePlaces lo hi (-1))) _ _ s
  have e1 : Builtin.Slice.sliceAdjust none none (-1) (n : Int) = ((n : Int) - 1, -1) := rfl
  have e2 : Builtin.Slice.slicePlaces ((n : Int) - 1) (-1) (-1) = n := by
    unfold Builtin.Slice.slicePlaces
    rw [if_neg (by decide), show (-(-1 : Int)) = 1 from rfl, Int.ediv_one]
    split <;> omega
  rw [e1]
  show wpAny _ _ (pure ((n : Int) - 1, (-1 : Int), Builtin.Slice.slicePlaces ((n : Int) - 1) (-1) (-1))) _ _ s
  rw [e2]
  exact wpAny_pure h
theorem pick_rev (xs : Array Value) : ((List.range xs.size).filterMap fun (m : Nat) => xs[(((xs.size : Int) - 1) + (m : Int) * (-1)).toNat]?) = xs.toList.reverse := by
  apply List.ext_getElem?
  intro i
  have e : ((List.range xs.size).filterMap fun (m : Nat) => xs[(((xs.size : Int) - 1) + (m : Int) * (-1)).toNat]?) = (List.range xs.size).map fun (m : Nat) => xs.toList.getD (xs.size - 1 - m) .none := by
    have : ∀ l : List Nat, (∀ m ∈ l, m < xs.size) → (l.filterMap fun (m : Nat) => xs[(((xs.size : Int) - 1) + (m : Int) * (-1)).toNat]?) = l.map fun (m : Nat) => xs.toList.getD (xs.size - 1 - m) .none := fun l => by
      induction l with
      | nil => intro _; rfl
      | cons m l ih =>
        intro h
        have hm := h m (List.mem_cons_self ..)
        have ei : (((xs.size : Int) - 1) + (m : Int) * (-1)).toNat = xs.size - 1 - m := by omega
        have hlt : xs.size - 1 - m < xs.size := by omega
        rw [List.filterMap_cons, List.map_cons, ei, Array.getElem?_eq_getElem hlt, ih fun k hk => h k (List.mem_cons_of_mem _ hk)]
        simp [List.getD, hlt]
    exact this _ fun m hm => List.mem_range.mp hm
  rw [e, List.getElem?_map]
  by_cases hi : i < xs.size
  · rw [List.getElem?_range hi, List.getElem?_reverse (by simpa using hi)]
    simp [List.getD, show xs.size - 1 - i < xs.size by omega]
  · rw [List.getElem?_eq_none_iff.mpr (by simp; omega), List.getElem?_eq_none_iff.mpr (by simp; omega)]
    rfl
theorem getItem_tuple_rev {t sl : Addr} {items : Array Value} {vl vu vs : Value} {Q : Value → Shared → Prop} (ht : IsTup s.heap t items) (hs : s.heap.IsSliceOf sl vl vu vs) (pl : IsPart vl none) (pu : IsPart vu none) (ps : IsPart vs (some (-1)))
    (h : Q (.ref s.heap.objs.size) { s with heap := s.heap.push { cls := .type "tuple", data := .seq items.toList.reverse.toArray } })
    (hsz : items.size ≤ sizeLine) : wpAny (model prog w) A (getItem (.ref t) (.ref sl)) Q E s := by
  have htake : sizeOk (.seq items.toList.reverse.toArray) := by
    show items.toList.reverse.toArray.size ≤ sizeLine
    rw [List.size_toArray, List.length_reverse, Array.length_toList]
    exact hsz
  obtain ⟨os, hos, hcs, hds⟩ := id hs
  have hTs : s.TypeIs (.ref sl) "slice" := ⟨os, hos, hcs⟩
  unfold getItem
  try with_reducible refine wpAny_holding ?_
  first | refine wpAny_bind (wpAny_pure ?_) | skip
  refine wpAny_bind (wpAny_sequenceKey ht.typeIs (by decide) ?_)
  refine wpAny_bind (wpAny_callSpecial?_slot (name := Str.ofString "__getitem__") ht.typeIs PyProof.Rows.slot_tuple_getitem
    (wpAny_call_entry PyProof.Rows.slot_tuple_getitem ht.typeIs entry_tuple_getitem ?_ (args_tuple_getitem _ _)))
  show wpAny _ _ (Builtin.Tuple.tupleItemsOf (.ref t) >>= _) _ _ s
  refine wpAny_bind (tupleItemsOf_ ht ?_)
  refine wpAny_bind (wpAny_typeOf hTs ?_)
  rw [if_pos (by decide)]
  refine wpAny_bind (sliceApplied_rev hs pl pu ps ?_)
  have hno : ¬ ((((items.size : Int) - 1) == 0 && (-1 : Int) == 1 && items.size == items.size) = true) := by
    intro q
    rw [Bool.and_eq_true, Bool.and_eq_true] at q
    exact absurd (eq_of_beq q.1.2) (by decide)
  show wpAny _ _ (if (((items.size : Int) - 1) == 0 && (-1 : Int) == 1 && items.size == items.size) = true then _ else _) _ _ s
  rw [if_neg hno, pick_rev]
  first
    | exact wpAny_bind (m := Builtin.Tuple.tupleExact _) (wpAny_newObj_type (wpAny_pure ⟨_, rfl, wpAny_pure h⟩) htake)
    | exact wpAny_bind (m := Builtin.Tuple.tupleExact _) (wpAny_newObj_type (wpAny_bind (wpAny_pure (wpAny_pure ⟨_, rfl, wpAny_pure h⟩))) htake)
    | exact wpAny_bind (wpAny_bind (m := Builtin.Tuple.tupleExact _) (wpAny_newObj_type (wpAny_pure (wpAny_pure ⟨_, rfl, wpAny_pure h⟩)) htake))
    | exact wpAny_bind (wpAny_bind (m := Builtin.Tuple.tupleExact _) (wpAny_newObj_type (wpAny_pure ⟨_, rfl, wpAny_pure h⟩) htake))
end
section
variable {X : Cx}
def tRevT (K : PySem.W.Frag) (te : TE) : TE := fun σ H Q => te σ H fun x H1 => ∃ a xs, x = .ref a ∧ SqT K H1 a xs ∧ ∀ p o, o.dict = none → H1 p = none → Q (.ref p) (upd H1 p (.frz o (.tup xs.reverse)))
theorem pe_revT {e : Expr} {te : TE} {k : Nat} {p1 p2 p3 pos : Pos} (he : PE X e te) : PE X (.Subscript e (.Slice none none (some (.UnaryOp .USub (.Constant (.int 1) k p1) p2)) p3) pos) (tRevT X.K te) := by
  refine ⟨fun pins s σ H Q I h => ?_⟩
  refine Subscript_ (thn (he.run pins s σ H _ I h) fun v s1 ⟨x, H1, I1, r1, q1⟩ => ?_)
  obtain ⟨a, xs, ex, hx, q⟩ := q1
  subst ex
  cases r1
  have hst : PO X (some (.UnaryOp .USub (.Constant (.int 1) k p1) p2)) (tPart (tUn (rU fun i => .int (-i)) (tC (.int 1)))) := po_some (pe_un un_neg pe_int)
  refine wpAny_Slice (thn (po_none.run pins s1 σ H1 (fun o H2 => o = none ∧ H2 = H1) I1 ⟨rfl, rfl⟩) fun vl s2 ⟨l, H2, I2, pl, el, e2⟩ => ?_)
  subst el e2
  refine thn (po_none.run pins s2 σ H2 (fun o H3 => o = none ∧ H3 = H2) I2 ⟨rfl, rfl⟩) fun vu s3 ⟨u, H3, I3, pu, eu, e3⟩ => ?_
  subst eu e3
  refine thn (hst.run pins s3 σ H3 (fun o H4 => o = some (-1) ∧ H4 = H3) I3 ⟨1, rfl, -1, rfl, rfl, rfl⟩) fun vs s4 ⟨o, H4, I4, ps, eo, e4⟩ => ?_
  subst eo e4
  have I5 : Inv X pins σ H4 { s4 with heap := s4.heap.push { cls := .type "slice", data := .fields #[vl, vu, vs] } } := I4.kept (t' := s4.toks) fun b ob q => Heap.get?_push_of_some _ q
  obtain ⟨its, r, ht, hz⟩ := I5.tuple hx
  have hlen := r.length
  show wpAny (model X.prog X.w) X.A (subscriptTail e (.Slice none none (some (.UnaryOp .USub (.Constant (.int 1) k p1) p2)) p3) (.ref a) (.ref s4.heap.objs.size)) (EP X pins σ Q) X.xe { s4 with heap := s4.heap.push { cls := .type "slice", data := .fields #[vl, vu, vs] } }
  refine tail_any (ops := [.ref a, .ref s4.heap.objs.size]) ht.typeIs (PyProof.Rows.slot_tuple_getitem.lookup) ?_ (by with_unfolding_all rfl)
  refine getItem_tuple_rev ht (Heap.IsSliceOf.new _ vl vu vs) pl pu ps ?_ (by rw [List.size_toArray]; omega)
  exact newTup I5 (by rw [List.length_reverse]; exact hz) r.reverse q
end
/-! ### list + list, whatever they are -/
section
variable {X : Cx}
def rCatG (K : PySem.W.Frag) : R2 := fun x y H Q => ∃ a b xs ys, x = .ref a ∧ y = .ref b ∧ SqL K H a xs ∧ SqL K H b ys ∧ xs.length + ys.length ≤ sizeLine ∧ ∀ p, H p = none → Q (.ref p) (upd H p (.lst (xs ++ ys)))
theorem op_catG : OpR X (binaryOp .Add) (rCatG X.K) := by
  intro pins s σ H x y v u Q I rx ry h
  obtain ⟨a, b, xs, ys, rfl, rfl, ha, hb, hz, q⟩ := h
  cases rx
  cases ry
  obtain ⟨its, r, ⟨⟨cls, dd, data, sl⟩, n, ho, hc, hdd, hd⟩, hl⟩ := I.list ha
  obtain ⟨its2, r2, ⟨⟨cls2, dd2, data2, sl2⟩, n2, ho2, hc2, hdd2, hd2⟩, hl2⟩ := I.list hb
  simp only at hc hd hc2 hd2
  subst hc hd hc2 hd2
  have e1 := r.length
  have e2 := r2.length
  refine concat_meets ⟨_, ho, rfl⟩ ⟨_, ho2, rfl⟩ noFill_list_add seq_list_add PySem.F.slot_list_add PySem.F.entry_list_add (PySem.F.args_list_add_2 _ _)
    (list_addW a b its.toArray its2.toArray n n2 dd dd2 sl sl2 (by rw [List.size_toArray, List.size_toArray]; omega)) ⟨ho, ho2, ?_⟩
  have ea : its.toArray ++ its2.toArray = (its ++ its2).toArray := by simp
  rw [ea]
  exact ⟨.ref _, _, I.lnew (t' := s.toks) (r.append r2) (by rw [List.length_append]; exact hz), rfl, q _ I.fresh⟩
/-- xs[i], by values -/
def rGetG (K : PySem.W.Frag) : V → V → Hp → VK → Prop := fun x y H Q => ∃ p xs i v, x = .ref p ∧ y = .int i ∧ SqL K H p xs ∧ atI xs i = some v ∧ Q v H
end
/-! ### ints of any size -/
section
variable {X : Cx}
theorem op_mulG : OpR X (binaryOp .Mult) (rI IntMulOk fun i j => .int (i * j)) := opI fun _ _ _ _ _ _ _ hc q => mul_int q hc
theorem iop_mulG : OpR X (inplaceOp .Mult) (rI IntMulOk fun i j => .int (i * j)) := opI fun _ _ _ _ _ _ _ hc q => imul_int q hc
def CDivG (i j : Int) : Prop := 0 < j ∧ Builtin.divisionGoesByPylong i j = false
theorem op_fdivG : OpR X (binaryOp .FloorDiv) (rI CDivG fun i j => .int (i / j)) := opI fun i j _ _ _ _ _ hc q => by
  have h1 : (0 : Int) < j := hc.1
  exact floordiv_int (by omega) (by rw [Int.fdiv_eq_ediv_of_nonneg i (by omega)]; exact q) (.inl hc.2)
end
/-! ### sums, greatest and least items of tuples -/
section
variable {prog : Program} {w : World} {A : Around} {E : Value → Shared → Prop} {s : Shared} {l : Addr} {xs : Array (Int × Tok)}
theorem iter_intTup {Q : Value → Shared → Prop} (hl : s.heap.IsTuple l (intItems xs))
    (h : ∀ s₂ : Shared, s₂ = { s with heap := s.heap.push { cls := .type "tuple_iterator", data := .fields #[.ref l, .int 0 0] } } →
      (s₂.heap.IsTupleIter s.heap.objs.size l 0 ∧ s₂.heap.IsTuple l (intItems xs)) → (∀ b ∈ [s.heap.objs.size, l], b < s₂.heap.objs.size) → l ≠ s.heap.objs.size → Q (.ref s.heap.objs.size) s₂) :
    wpAny (model prog w) A (pyIter (.ref l)) Q E s := by
  have hlt : l < s.heap.objs.size := by obtain ⟨_, e, _⟩ := hl; exact Heap.lt_size e
  refine wpAny_pyIter_tuple hl (h _ rfl ⟨⟨_, Heap.get?_push_size _ rfl, rfl, rfl⟩, hl.at fun o e => Heap.get?_push_of_some _ e⟩ (fun b hb => ?_) (Nat.ne_of_lt hlt))
  show b < (s.heap.push _).objs.size
  rw [Heap.size_push]
  rcases List.mem_cons.mp hb with rfl | hb
  · exact Nat.lt_succ_self _
  · rcases List.mem_cons.mp hb with rfl | hb
    · exact Nat.lt_succ_of_lt hlt
    · cases hb
theorem old_keptT {h' : Heap} (hk : ∀ b o, b ∉ [s.heap.objs.size] → (s.heap.push { cls := .type "tuple_iterator", data := .fields #[.ref l, .int 0 0] }).get? b = some o → h'.get? b = some o) :
    ∀ b o, s.heap.get? b = some o → h'.get? b = some o := fun b o e => hk b o (by simpa using Nat.ne_of_lt (Heap.lt_size e)) (Heap.get?_push_of_some _ e)
theorem sum_intTupG {Q : Value → Shared → Prop} (hh : A.handled = none) (hl : s.heap.IsTuple l (intItems xs))
    (h : ∀ h' tk t', (∀ b o, s.heap.get? b = some o → h'.get? b = some o) → Q (.int (preSum (numAt xs) xs.size) t') { s with heap := h', toks := tk }) :
    wpAny (model prog w) A (call (.builtin "sum") [.ref l]) Q E s := by
  refine call_sum_walkG (iter_intTup hl fun s₂ e st hfp hlI => ?_)
  subst e
  refine ⟨_, _, _, _, _, _, numAt xs, rfl, Walks.tuple (A := A.in1) hh _ l hlI (intItems xs), st, hfp, (fun _ _ => intItems_at), fun h' tk t' hk => ?_⟩
  have := h h' tk t' (old_keptT hk)
  simpa [intItems] using this
theorem max_intTup {Q : Value → Shared → Prop} (hh : A.handled = none) (hl : s.heap.IsTuple l (intItems xs)) (hne : 0 < xs.size)
    (h : ∀ v h' tk, (intItems xs)[argBest (fun i j => decide (numAt xs i > numAt xs j)) (xs.size - 1)]? = some v → (∀ b o, s.heap.get? b = some o → h'.get? b = some o) → Q v { s with heap := h', toks := tk }) :
    wpAny (model prog w) A (call (.builtin "max") [.ref l]) Q E s := by
  refine call_max_walk (iter_intTup hl fun s₂ e st hfp hlI => ?_)
  subst e
  refine ⟨_, _, _, _, _, _, _, rfl, Walks.tuple (A := A.in1) hh _ l hlI (intItems xs), st, hfp, by simpa [intItems] using hne, CmpOf.ints_gt (numAt xs) (fun _ _ => intItems_at), fun v h' tk hP hk => ?_⟩
  exact h v h' tk (by simpa [intItems] using hP) (old_keptT hk)
theorem min_intTup {Q : Value → Shared → Prop} (hh : A.handled = none) (hl : s.heap.IsTuple l (intItems xs)) (hne : 0 < xs.size)
    (h : ∀ v h' tk, (intItems xs)[argBest (fun i j => decide (numAt xs i < numAt xs j)) (xs.size - 1)]? = some v → (∀ b o, s.heap.get? b = some o → h'.get? b = some o) → Q v { s with heap := h', toks := tk }) :
    wpAny (model prog w) A (call (.builtin "min") [.ref l]) Q E s := by
  refine call_min_walk (iter_intTup hl fun s₂ e st hfp hlI => ?_)
  subst e
  refine ⟨_, _, _, _, _, _, _, rfl, Walks.tuple (A := A.in1) hh _ l hlI (intItems xs), st, hfp, by simpa [intItems] using hne, CmpOf.ints_lt (numAt xs) (fun _ _ => intItems_at), fun v h' tk hP hk => ?_⟩
  exact h v h' tk (by simpa [intItems] using hP) (old_keptT hk)
end
section
variable {X : Cx}
def rSumT (K : PySem.W.Frag) : List V → Hp → VK → Prop := fun vs H Q => ∃ (a : Addr) (ns : List Int), vs = [V.ref a] ∧ (SqT K H a (ns.map V.int) ∨ SqL K H a (ns.map V.int)) ∧ Q (.int ns.sum) H
theorem cr_sumT (hc : X.calm = true) : CallR X (.builtin "sum") (rSumT X.K) := by
  intro pins s σ H vs us Q I r h
  obtain ⟨a, ns, rfl, hs, q⟩ := h
  rcases hs with hs | hs
  · obtain ⟨its, rv, ht, _⟩ := I.tuple hs
    rw [Vals.ref1 r]
    have hi := rv.ints
    obtain ⟨xs, e⟩ := hi.allInts.items
    have hn : numsOf (intItems xs).toList = ns := by rw [← e]; exact hi.numsOf
    rw [nums_intItems] at hn
    rw [e] at ht
    refine sum_intTupG (I.ok.hd hc) ht fun h' tk t' hk => ?_
    refine ⟨.int _, H, I.kept hk, ⟨t', ?_⟩, q⟩
    rw [preSum_eq, List.take_of_length_le (by simp), hn]
  · exact cr_sum hc pins s σ H _ us Q I r ⟨a, ns, rfl, hs, q⟩
def rMaxT (K : PySem.W.Frag) : List V → Hp → VK → Prop := fun vs H Q => ∃ (a : Addr) (ns : List Int), vs = [V.ref a] ∧ (SqT K H a (ns.map V.int) ∨ SqL K H a (ns.map V.int)) ∧ 0 < ns.length ∧ ∀ m, m ∈ ns → (∀ y, y ∈ ns → y ≤ m) → Q (.int m) H
def rMinT (K : PySem.W.Frag) : List V → Hp → VK → Prop := fun vs H Q => ∃ (a : Addr) (ns : List Int), vs = [V.ref a] ∧ (SqT K H a (ns.map V.int) ∨ SqL K H a (ns.map V.int)) ∧ 0 < ns.length ∧ ∀ m, m ∈ ns → (∀ y, y ∈ ns → m ≤ y) → Q (.int m) H
theorem cr_maxT (hc : X.calm = true) : CallR X (.builtin "max") (rMaxT X.K) := by
  intro pins s σ H vs us Q I r h
  obtain ⟨a, ns, rfl, hs, hne, q⟩ := h
  rcases hs with hs | hs
  · obtain ⟨its, rv, ht, _⟩ := I.tuple hs
    rw [Vals.ref1 r]
    have hi := rv.ints
    obtain ⟨xs, e⟩ := hi.allInts.items
    have hn : numsOf (intItems xs).toList = ns := by rw [← e]; exact hi.numsOf
    rw [nums_intItems] at hn
    subst hn
    rw [e] at ht
    have hsz : 0 < xs.size := by simpa using hne
    refine max_intTup (I.ok.hd hc) ht hsz fun v h' tk hv hk => ?_
    obtain ⟨t, rfl⟩ := intItems_at hv
    obtain ⟨h1, h2⟩ := argBest_gt (numAt xs) (xs.size - 1)
    refine ⟨.int _, H, I.kept hk, ⟨t, rfl⟩, q _ ?_ fun a ha => ?_⟩
    · rw [numAt_eq]; exact PySem.getD_mem (by rw [List.length_map, Array.length_toList]; omega)
    · obtain ⟨j, hj, rfl⟩ := mem_getD ha
      rw [List.length_map, Array.length_toList] at hj
      have := h2 j (by omega)
      rw [numAt_eq, numAt_eq] at this
      rw [numAt_eq]
      exact this
  · exact cr_max hc pins s σ H _ us Q I r ⟨a, ns, rfl, hs, hne, q⟩
theorem cr_minT (hc : X.calm = true) : CallR X (.builtin "min") (rMinT X.K) := by
  intro pins s σ H vs us Q I r h
  obtain ⟨a, ns, rfl, hs, hne, q⟩ := h
  rcases hs with hs | hs
  · obtain ⟨its, rv, ht, _⟩ := I.tuple hs
    rw [Vals.ref1 r]
    have hi := rv.ints
    obtain ⟨xs, e⟩ := hi.allInts.items
    have hn : numsOf (intItems xs).toList = ns := by rw [← e]; exact hi.numsOf
    rw [nums_intItems] at hn
    subst hn
    rw [e] at ht
    have hsz : 0 < xs.size := by simpa using hne
    refine min_intTup (I.ok.hd hc) ht hsz fun v h' tk hv hk => ?_
    obtain ⟨t, rfl⟩ := intItems_at hv
    obtain ⟨h1, h2⟩ := argBest_lt (numAt xs) (xs.size - 1)
    refine ⟨.int _, H, I.kept hk, ⟨t, rfl⟩, q _ ?_ fun a ha => ?_⟩
    · rw [numAt_eq]; exact PySem.getD_mem (by rw [List.length_map, Array.length_toList]; omega)
    · obtain ⟨j, hj, rfl⟩ := mem_getD ha
      rw [List.length_map, Array.length_toList] at hj
      have := h2 j (by omega)
      rw [numAt_eq, numAt_eq] at this
      rw [numAt_eq]
      exact this
  · exact cr_min hc pins s σ H _ us Q I r ⟨a, ns, rfl, hs, hne, q⟩
end
/-! ### repr of data -/
section
variable {X : Cx}
def showOk (d : PyData) : Prop := d.showable = true ∧ d.hasDict = false ∧ d.depth ≤ 60 ∧ d.shown.length ≤ sizeLine
def rRepr (K : PySem.W.Frag) : List V → Hp → VK → Prop := fun xs H Q => ∃ v d, xs = [v] ∧ Dp K H v d ∧ showOk d ∧ Q (.str d.shown) H
theorem call_repr (hg : X.A.guards = some []) (hu : X.A.units + 61 < cLine) : CallR X (.builtin "repr") (rRepr X.K) := by
  intro pins s σ H xs us Q I r h
  obtain ⟨v, d, rfl, hd, ⟨h1, h2, h3, h4⟩, q⟩ := h
  obtain ⟨u, rfl, ru⟩ := vals1 r
  obtain ⟨as, rd⟩ := Dp.reads I d v u hd ru
  cases rd with
  | none => exact PySem.P.repr_of_none ⟨.str _, H, I.tok _, ⟨_, rfl⟩, q⟩
  | bool b => exact PySem.P.repr_of_bool ⟨.str _, H, I.tok _, ⟨_, rfl⟩, q⟩
  | int i t => exact PySem.P.repr_of_int (by simpa [PyData.showable] using h1) ⟨.str _, H, I.tok _, ⟨_, rfl⟩, q⟩
  | str x t => exact PySem.P.repr_of_str ⟨.str _, H, I.tok _, ⟨_, rfl⟩, q⟩ h4
  | list a1 a2 a3 a4 =>
    exact repr_of_reads' (.list a1 a2 a3 a4) h1 (fun e => by rw [h2] at e; cases e) hg (by omega) (fun _ _ e => e) (fun h' u tk hk => ⟨.str _, H, I.kept (t' := tk) hk, ⟨u, rfl⟩, q⟩) h4
  | tuple a1 a2 a3 a4 =>
    exact repr_of_reads' (.tuple a1 a2 a3 a4) h1 (fun e => by rw [h2] at e; cases e) hg (by omega) (fun _ _ e => e) (fun h' u tk hk => ⟨.str _, H, I.kept (t' := tk) hk, ⟨u, rfl⟩, q⟩) h4
  | dict a1 a2 a3 a4 a5 => simp [PyData.hasDict] at h2
end
end Nz

/-! defs and their calls, where no repr is on the way (so that repr may be called) -/
namespace Nz
open PySem PySem.Spec PyProof.Rows L2
section
variable {P : Program} {w : World} {K : PySem.W.Frag} {mg : Str → Option Value} {base : Heap}
/-- a def keeps its promise, wherever it is called from a place at which no repr runs -/
structure FnG (P : Program) (w : World) (K : PySem.W.Frag) (mg : Str → Option Value) (base : Heap) (k : Nat) (f : Addr) (fd : FuncData) (ps : List Str) (sp : Sp) : Prop where
  len : ∀ vs H Q, sp vs H Q E0 → vs.length = ps.length
  run : ∀ (A : Around) (outer : List Env) (s : Shared) (H : Hp) (args : Args) (us : List Value) (vs : List V) (Q : VK), Room k A → A.guards = some [] → Env0 P w K mg base A outer s H →
    BindsTo s fd args (ps.zip us) → Vals vs us → sp vs H Q E0 → codeAny (model P w) A (.call (.ref f) args) (CR CX0 outer P w H s Q E0) s
theorem FnG.mono {j k : Nat} {f : Addr} {fd : FuncData} {ps : List Str} {sp : Sp} (F : FnG P w K mg base j f fd ps sp) (h : j ≤ k) : FnG P w K mg base k f fd ps sp :=
  ⟨F.len, fun A outer s H args us vs Q hr => F.run A outer s H args us vs Q (hr.mono h)⟩
theorem guards_deeper {A : Around} {env : Env} (h : A.guards = some []) : (A.deeper env).guards = some [] := h
/-- a def of the text, by its body -/
theorem fnG_of {x qual : Str} {st : Stmt} {f : Addr} {fd : FuncData} {N ps : List Str} {k : Nat} {sp : Sp} (F : Fun K x qual st f fd) (S : FnScope N ps (defScope st)) (len : ∀ vs H Q, sp vs H Q E0 → vs.length = ps.length)
    (hbody : ∀ (cdv : Value) (A : Around) (outer : List Env) (s : Shared) (H : Hp), Room k (A.deeper (envOfC qual (defScope st) s.heap.objs.size f cdv)) → A.guards = some [] →
      ∃ t, PSs (cxOf CX0 P w K mg base N qual (defScope st) f cdv A outer s H E0).nox (defBody st) t ∧ ∀ (vs : List V) (Q : VK), sp vs H Q E0 → t { nx := fun _ H' => Q .non H', rt := Q } (L2.start N vs) H) :
    FnG P w K mg base (k + 1) f fd ps sp := by
  obtain ⟨oc, od, kV, doc, pm, an, cdv, ct, osl, rfl, lk, hcd⟩ := F.ex
  refine ⟨len, fun A outer s H args us vs Q hr hgd e0 hb r hsp => ?_⟩
  have hl := len _ _ _ hsp
  have kept : ∀ b o, base.get? b = some o → s.heap.get? b = some o := fun b o e => (e0.bs b o e).1
  have KX : K.In s.heap := e0.mod.kin.keeps kept
  have pk : ∀ y ∈ ps.zip us, (defScope st).names.lookup y.1 = some .local ∨ ((defScope st).names.lookup y.1 = some .cell ∧ ((cellsFrom (s.heap.objs.size + 1) (defScope st).names []).lookup y.1).isSome = true) := by
    intro y hy
    obtain ⟨n, v⟩ := y
    cases S.par n (List.of_mem_zip hy).1 with
    | inl q => exact .inl q
    | inr q => exact .inr ⟨q, PySem.W.cellsFrom_some _ _ _ (.inl q)⟩
  apply codeAny_call_function hr.depth (KX _ _ lk) rfl S.co S.gen rfl (PySem.W.codeRec_of KX hcd)
  apply hb
  refine wpAny_newFunctionEnv_cells S.kind pk fun env he s1 x => ?_
  subst he
  refine ⟨(e0.mod.nolimit.keeps kept).keeps x.toInCall.keep, codeAny_func ?_⟩
  obtain ⟨t, ht, hq⟩ := hbody cdv A outer s H (hr.deeper _) hgd
  have I := inv_start (CX := CX0) (E := E0) (cd := cdv) (qual := qual) S hr.hd e0 hl r x
  refine wpAny_mono (ht.nox.run [] s1 _ H _ I (hq vs Q hsp)) (fun fl s' hs => ?_) fun e s' hs => hs
  match fl, hs with
  | .ret u, ⟨v, σ', H', J, rv, q⟩ => exact ⟨v, H', J.os, J.bare, J.base, J.hok, rv, q⟩
  | .next, ⟨σ', H', J, q⟩ => exact ⟨V.non, H', J.os, J.bare, J.base, J.hok, rfl, q⟩
  | .brk, ⟨_, _, _, q⟩ => exact q.elim
  | .cont, ⟨_, _, _, q⟩ => exact q.elim
/-- a def that is called by its name -/
structure Cl (P : Program) (w : World) (K : PySem.W.Frag) (mg : Str → Option Value) (base : Heap) (k : Nat) (x : Str) (ps : List Str) (sp : Sp) : Prop where
  ex : ∃ f fd, FnG P w K mg base k f fd ps sp ∧ mg x = some (.ref f) ∧ PySem.W.keepIn K (.ref f) = true ∧ Binds K fd ps []
/-- where a def of the text stands behind the top -/
structure Fd (K : PySem.W.Frag) (mg : Str → Option Value) (x : Str) (st : Stmt) : Prop where
  ex : ∃ f fd, Fun K x x st f fd ∧ mg x = some (.ref f)
theorem Cl.mono {j k : Nat} {x : Str} {ps : List Str} {sp : Sp} (C : Cl P w K mg base j x ps sp) (h : j ≤ k) : Cl P w K mg base k x ps sp := by
  obtain ⟨f, fd, F, r⟩ := C.ex
  exact ⟨f, fd, F.mono h, r⟩
end
section
variable {X : Cx} {k : Nat} {x : Str} {ps : List Str} {sp : Sp} {e : Expr} {es : List Expr} {t : TA} {p pos : Pos}
theorem run_fnG {f : Addr} {fd : FuncData} {pins : List (Addr × Obj)} {σ : L2.St} {H : Hp} {s : Shared} {Q : VK} {us : List Value} {vs : List V} (F : FnG X.prog X.w X.K X.mg X.base k f fd ps sp) (hr : Room k X.A) (hgd : X.A.guards = some []) (hb : Binds X.K fd ps [])
    (I : L2.Inv X pins σ H s) (r : Vals vs us) (h : sp vs H Q E0) : wpAny (model X.prog X.w) X.A (call (.ref f) us) (EP X pins σ Q) X.xe s := by
  have hl : (us ++ []).length = ps.length := by rw [List.append_nil, ← r.length]; exact F.len _ _ _ h
  have hb2 := hb s us I.kIn hl
  rw [List.append_nil] at hb2
  apply wpAny_call
  refine codeAny_mono (F.run X.A X.stack s H ⟨us, []⟩ us vs Q hr hgd I.env0 hb2 r h) fun q s' hq => ?_
  match q, hq with
  | .error _, hq => exact hq.elim
  | .ok (.ret u), hq => exact I.after hq
  | .ok .next, hq => exact hq.elim
  | .ok .brk, hq => exact hq.elim
  | .ok .cont, hq => exact hq.elim
theorem pe_cl (C : Cl X.prog X.w X.K X.mg X.base k x ps sp) (hr : Room k X.A) (hgd : X.A.guards = some []) (hg : Gl X x) (ha : PA X (e :: es) t)
    (hdb : (x == ("__debug__" : Str)) = false := by decide) (he : starEach (e :: es) X.env = (false, eval e X.env) :: starEach es X.env := by rfl) (hpl : (backTo pos (starEach es X.env)).any (·.1) = false := by rfl) :
    PE X (.Call (.Name x p) (e :: es) [] pos) (tCall sp [] E0 t) := by
  obtain ⟨f, fd, F, hm, hk, hb⟩ := C.ex
  refine ⟨fun pins s σ H Q I h => ?_⟩
  apply wpAny_Call_Name_kw
  apply ld_glob I hg hm ?_ hdb
  refine PySem.W.callWith_K (h₀ := X.base) I.ok.mod.kin hk (thn (ha.run pos pins s σ H _ I h) fun us s1 h1 => ?_) he hpl
  obtain ⟨vs, H1, I1, r, q⟩ := h1
  rw [List.append_nil] at q
  exact ⟨I1.kIn, run_fnG F hr hgd hb I1 r q⟩
end
end Nz

/-! typed data, and the rules for it that gen.py names -/
namespace Nz
open PySem PySem.Spec PyProof.Rows L2 RZ

/-! ### encodings -/
abbrev eQ (r : Rat) : PyData := .tuple [.int r.num, .int (r.den : Int)]
abbrev eT {α : Type} (f : α → PyData) (l : List α) : PyData := .tuple (l.map f)
abbrev eL {α : Type} (f : α → PyData) (l : List α) : PyData := .list (l.map f)
abbrev eP {α β : Type} (f : α → PyData) (g : β → PyData) (p : α × β) : PyData := .tuple [f p.1, g p.2]
abbrev eP3 {α β γ : Type} (f : α → PyData) (g : β → PyData) (h : γ → PyData) (p : α × β × γ) : PyData := .tuple [f p.1, g p.2.1, h p.2.2]
abbrev eP4 {α β γ δ : Type} (f : α → PyData) (g : β → PyData) (h : γ → PyData) (k : δ → PyData) (p : α × β × γ × δ) : PyData := .tuple [f p.1, g p.2.1, h p.2.2.1, k p.2.2.2]
def eO {α : Type} (f : α → PyData) : Option α → PyData
  | none => .none
  | some a => f a
/-- an item at a place of any sign -/
def ixG {α : Type} [Inhabited α] (xs : List α) (i : Int) : α := (atI xs i).getD default
def InB (n : Nat) (i : Int) : Prop := -(n : Int) ≤ i ∧ i < n
theorem atI_ixG {α : Type} [Inhabited α] {xs : List α} {i : Int} (h : InB xs.length i) : atI xs i = some (ixG xs i) := by
  unfold ixG
  cases e : atI xs i with
  | some a => rfl
  | none =>
    exfalso
    unfold atI ixN at e
    obtain ⟨h1, h2⟩ := h
    by_cases h0 : 0 ≤ i
    · rw [if_pos h0, if_pos h2] at e
      rw [Option.bind_some, List.getElem?_eq_none_iff] at e
      omega
    · rw [if_neg h0, if_pos h1, Option.bind_some, List.getElem?_eq_none_iff] at e
      omega
theorem atI_map {α β : Type} (f : α → β) (xs : List α) (i : Int) : atI (xs.map f) i = (atI xs i).map f := by
  unfold atI
  rw [List.length_map]
  cases ixN xs.length i with
  | none => rfl
  | some j => rw [Option.bind_some, Option.bind_some, List.getElem?_map]
theorem ixG_nat {α : Type} [Inhabited α] {xs : List α} {j : Nat} {v : α} (h : xs[j]? = some v) : ixG xs (j : Int) = v := by
  unfold ixG; rw [atI_nat h]; rfl
theorem ixG_last {α : Type} [Inhabited α] (xs : List α) (v : α) : ixG (xs ++ [v]) (-1) = v := by
  unfold ixG; rw [atI_last]; rfl
def cutX {α : Type} (xs : List α) (lo hi : Option Int) : List α := (xs.drop (HT.sIx xs.length 0 lo)).take (HT.sIx xs.length xs.length hi - HT.sIx xs.length 0 lo)
theorem cutD_map {α : Type} (f : α → PyData) (xs : List α) (lo hi : Option Int) : cutD (xs.map f) lo hi = (cutX xs lo hi).map f := by
  unfold cutD cutX
  rw [List.length_map, List.map_take, List.map_drop]
def maxOf (xs : List Int) : Int := xs.foldl max (xs.headD 0)
def minOf (xs : List Int) : Int := xs.foldl min (xs.headD 0)
theorem foldl_max_ge (l : List Int) : ∀ a, a ≤ l.foldl max a ∧ ∀ y ∈ l, y ≤ l.foldl max a := by
  induction l with
  | nil => intro a; exact ⟨Int.le_refl _, fun y h => nomatch h⟩
  | cons x l ih =>
    intro a
    obtain ⟨h1, h2⟩ := ih (max a x)
    refine ⟨by show a ≤ l.foldl max (max a x); omega, fun y hy => ?_⟩
    show y ≤ l.foldl max (max a x)
    rcases List.mem_cons.mp hy with e | e
    · rw [e]; omega
    · exact h2 y e
theorem foldl_max_mem (l : List Int) : ∀ a, l.foldl max a = a ∨ l.foldl max a ∈ l := by
  induction l with
  | nil => intro a; exact .inl rfl
  | cons x l ih =>
    intro a
    show l.foldl max (max a x) = a ∨ l.foldl max (max a x) ∈ x :: l
    rcases ih (max a x) with h | h
    · rcases Int.le_total a x with q | q
      · exact .inr (by rw [h, Int.max_eq_right q]; exact List.mem_cons_self ..)
      · exact .inl (by rw [h, Int.max_eq_left q])
    · exact .inr (List.mem_cons_of_mem _ h)
theorem maxOf_mem {l : List Int} (h : 0 < l.length) : maxOf l ∈ l := by
  cases l with
  | nil => simp at h
  | cons x l =>
    unfold maxOf
    rcases foldl_max_mem (x :: l) x with e | e
    · show (x :: l).foldl max x ∈ _
      rw [e]; exact List.mem_cons_self ..
    · exact e
theorem maxOf_ge {l : List Int} {y : Int} (h : y ∈ l) : y ≤ maxOf l := (foldl_max_ge l _).2 y h
theorem foldl_min_le (l : List Int) : ∀ a, l.foldl min a ≤ a ∧ ∀ y ∈ l, l.foldl min a ≤ y := by
  induction l with
  | nil => intro a; exact ⟨Int.le_refl _, fun y h => nomatch h⟩
  | cons x l ih =>
    intro a
    obtain ⟨h1, h2⟩ := ih (min a x)
    refine ⟨by show l.foldl min (min a x) ≤ a; omega, fun y hy => ?_⟩
    show l.foldl min (min a x) ≤ y
    rcases List.mem_cons.mp hy with e | e
    · rw [e]; omega
    · exact h2 y e
theorem foldl_min_mem (l : List Int) : ∀ a, l.foldl min a = a ∨ l.foldl min a ∈ l := by
  induction l with
  | nil => intro a; exact .inl rfl
  | cons x l ih =>
    intro a
    show l.foldl min (min a x) = a ∨ l.foldl min (min a x) ∈ x :: l
    rcases ih (min a x) with h | h
    · rcases Int.le_total a x with q | q
      · exact .inl (by rw [h, Int.min_eq_left q])
      · exact .inr (by rw [h, Int.min_eq_right q]; exact List.mem_cons_self ..)
    · exact .inr (List.mem_cons_of_mem _ h)
theorem minOf_mem {l : List Int} (h : 0 < l.length) : minOf l ∈ l := by
  cases l with
  | nil => simp at h
  | cons x l =>
    unfold minOf
    rcases foldl_min_mem (x :: l) x with e | e
    · show (x :: l).foldl min x ∈ _
      rw [e]; exact List.mem_cons_self ..
    · exact e
theorem minOf_le {l : List Int} {y : Int} (h : y ∈ l) : minOf l ≤ y := (foldl_min_le l _).2 y h
/-! ### a product's and a quotient's sizes -/
theorem mul_l {i j : Int} (h : -(2 ^ 64) < i) (h2 : i < 2 ^ 64) : IntMulOk i j := IntMulOk.of_left (intBits_le_64 h h2)
theorem mul_r {i j : Int} (h : -(2 ^ 64) < j) (h2 : j < 2 ^ 64) : IntMulOk i j := IntMulOk.of_right (intBits_le_64 h h2)
theorem mul_b {i j : Int} {a b : Nat} (ha : i.natAbs < 2 ^ a) (hb : j.natAbs < 2 ^ b) (h : a + b ≤ 900000 := by decide) : IntMulOk i j := by
  have x : i.natAbs.log2 < a + 1 := by
    by_cases z : i.natAbs = 0
    · rw [z]; simp
    · have := (Nat.log2_lt z).mpr ha; omega
  have y : j.natAbs.log2 < b + 1 := by
    by_cases z : j.natAbs = 0
    · rw [z]; simp
    · have := (Nat.log2_lt z).mpr hb; omega
  exact L2.CMulW.ok (by unfold L2.CMulW; omega)
theorem div_small {i j : Int} (h : 0 < j) (h2 : j < 1073741824) : CDivG i j := ⟨h, PyProof.noPylong_small (by omega)⟩
theorem div_b {i j : Int} (h : 0 < j) (h2 : j.natAbs < 2 ^ 8999) : CDivG i j := ⟨h, PyProof.noPylong_of_log2 (by
  have := (Nat.log2_lt (show j.natAbs ≠ 0 by omega)).mpr h2
  omega)⟩

section
variable {c : Cz} {ρ ρ1 ρ2 ρ3 : List Sl} {ta tb te tx : TE} {t u : TT} {d d1 d2 d3 : PyData} {T : Tm} {H H' : Hp} {σ : L2.St}
theorem spP_len {K : PySem.W.Frag} {Rl : List PyData → PyData → Prop} {ps : List Str} (h : ∀ ds d, Rl ds d → ds.length = ps.length) : ∀ vs H Q, SpP K Rl vs H Q E0 → vs.length = ps.length := fun vs H Q ⟨S, ds, d, _, a, r, _⟩ => (dpa_length a).trans (h ds d r)
theorem ed_ite {α : Type} {e : α → PyData} {x y : α} {b : Bool} (h : Et c ρ t b ρ1) (h1 : b = true → Ed c ρ1 ta (e x) ρ2) (h2 : b = false → Ed c ρ1 tb (e y) ρ2) : Ed c ρ (tIf t ta tb) (e (if b = true then x else y)) ρ2 :=
  ed_if h (fun q => by rw [if_pos q]; exact h1 q) (fun q => by rw [if_neg (by rw [q]; decide)]; exact h2 q)
/-! #### == of typed data -/
theorem eqv_int (i j : Int) : PyData.eqv (.int i) (.int j) = decide (i = j) := by
  unfold PyData.eqv; by_cases h : i = j <;> simp [h]
theorem rat_ext {r q : Rat} (h : r.num = q.num) (h2 : (r.den : Int) = (q.den : Int)) : r = q := Rat.ext h (by omega)
theorem eqv_Q (r q : Rat) : PyData.eqv (eQ r) (eQ q) = decide (r = q) := by
  by_cases h : r = q
  · subst h; simp [PyData.eqv, PyData.eqvAll]
  · have : ¬ (r.num = q.num ∧ (r.den : Int) = (q.den : Int)) := fun z => h (rat_ext z.1 z.2)
    simp only [PyData.eqv, PyData.eqvAll, h, decide_false, Bool.and_true]
    by_cases e : r.num = q.num
    · have e2 : ¬ (r.den : Int) = (q.den : Int) := fun z => this ⟨e, z⟩
      simp only [e, beq_self_eq_true, Bool.true_and]
      exact beq_eq_false_iff_ne.mpr e2
    · rw [show (r.num == q.num) = false from beq_eq_false_iff_ne.mpr e, Bool.false_and]
theorem shaped_int (i : Int) : SeqAt.shaped (.int i) = true := rfl
theorem shaped_bool (b : Bool) : SeqAt.shaped (.bool b) = true := rfl
theorem shaped_Q (r : Rat) : SeqAt.shaped (eQ r) = true := rfl
theorem ed_eqI {i j : Int} (ha : Ed c ρ ta (.int i) ρ1) (hb : Ed c ρ1 tb (.int j) ρ2) : Ed c ρ (tOp (rEqD c.K) ta tb) (.bool (decide (i = j))) ρ2 := ed_is (ed_eq ha hb rfl rfl) (congrArg PyData.bool (eqv_int i j))
theorem ed_neI {i j : Int} (ha : Ed c ρ ta (.int i) ρ1) (hb : Ed c ρ1 tb (.int j) ρ2) : Ed c ρ (tOp (rNeD c.K) ta tb) (.bool (!decide (i = j))) ρ2 := ed_is (ed_ne ha hb rfl rfl) (congrArg (fun b => PyData.bool (!b)) (eqv_int i j))
theorem ed_eqQ {i j : Rat} (ha : Ed c ρ ta (eQ i) ρ1) (hb : Ed c ρ1 tb (eQ j) ρ2) : Ed c ρ (tOp (rEqD c.K) ta tb) (.bool (decide (i = j))) ρ2 := ed_is (ed_eq ha hb rfl rfl) (congrArg PyData.bool (eqv_Q i j))
theorem ed_neQ {i j : Rat} (ha : Ed c ρ ta (eQ i) ρ1) (hb : Ed c ρ1 tb (eQ j) ρ2) : Ed c ρ (tOp (rNeD c.K) ta tb) (.bool (!decide (i = j))) ρ2 := ed_is (ed_ne ha hb rfl rfl) (congrArg (fun b => PyData.bool (!b)) (eqv_Q i j))
theorem eqv_bool (i j : Bool) : PyData.eqv (.bool i) (.bool j) = decide (i = j) := by cases i <;> cases j <;> rfl
theorem ed_eqB {i j : Bool} (ha : Ed c ρ ta (.bool i) ρ1) (hb : Ed c ρ1 tb (.bool j) ρ2) : Ed c ρ (tOp (rEqD c.K) ta tb) (.bool (decide (i = j))) ρ2 := ed_is (ed_eq ha hb rfl rfl) (congrArg PyData.bool (eqv_bool i j))
theorem ed_neB {i j : Bool} (ha : Ed c ρ ta (.bool i) ρ1) (hb : Ed c ρ1 tb (.bool j) ρ2) : Ed c ρ (tOp (rNeD c.K) ta tb) (.bool (!decide (i = j))) ρ2 := ed_is (ed_ne ha hb rfl rfl) (congrArg (fun b => PyData.bool (!b)) (eqv_bool i j))
/-! #### lists and tuples of typed data -/
theorem ed_lenTX {α : Type} {f : α → PyData} {l : List α} (h : Ed c ρ te (.tuple (l.map f)) ρ1) : Ed c ρ (tCB (rLenS c.K) (tCons te tNil)) (.int (l.length : Int)) ρ1 := ed_is (ed_lenT h) (by rw [List.length_map])
theorem ed_lenLX {α : Type} {f : α → PyData} {l : List α} (h : Ed c ρ te (.list (l.map f)) ρ1) : Ed c ρ (tCB (rLenS c.K) (tCons te tNil)) (.int (l.length : Int)) ρ1 := ed_is (ed_lenL h) (by rw [List.length_map])
theorem ix_some {α : Type} [Inhabited α] {f : α → PyData} {l : List α} {i : Int} (h : InB l.length i) : atI (l.map f) i = some (f (ixG l i)) := by rw [atI_map, atI_ixG h]; rfl
theorem ed_ixTX {α : Type} [Inhabited α] {f : α → PyData} {l : List α} {i : Int} (ha : Ed c ρ ta (.tuple (l.map f)) ρ1) (hb : Ed c ρ1 tb (.int i) ρ2) (h : InB l.length i) : Ed c ρ (tOp (rIxT c.K) ta tb) (f (ixG l i)) ρ2 := ed_ixT ha hb (ix_some h)
theorem ed_ixLX {α : Type} [Inhabited α] {f : α → PyData} {l : List α} {i : Int} (ha : Ed c ρ ta (.list (l.map f)) ρ1) (hb : Ed c ρ1 tb (.int i) ρ2) (h : InB l.length i) : Ed c ρ (tOp (rIxL c.K) ta tb) (f (ixG l i)) ρ2 := ed_ixL ha hb (ix_some h)
theorem ed_ixMX {α : Type} [Inhabited α] {f : α → PyData} {xs : List α} {i : Int} {j : Nat} {l : Bool} {a : Addr} (hb : Ed c ρ tb (.int i) ρ1) (ha : ρ1[j]? = some (.mu l a (.lst (xs.map f)))) (ha0 : ∃ l o, ρ[j]? = some (.mu l a o)) (h : InB xs.length i) :
    Ed c ρ (tOp (rIxL c.K) (tVar j) tb) (f (ixG xs i)) ρ1 := ed_ixM hb ha ha0 (ix_some h)
theorem ed_sliceT {α : Type} {f : α → PyData} {l : List α} {tl th : TO} {lo hi : Option Int} (ha : Ed c ρ ta (.tuple (l.map f)) ρ1) (hl : Eo c ρ1 tl lo ρ2) (hh : Eo c ρ2 th hi ρ3) : Ed c ρ (tSl (rSlF c.K) ta tl th) (.tuple ((cutX l lo hi).map f)) ρ3 := fun T σ H W Q q =>
  ha T σ H W _ fun v H1 W1 => hl _ σ H1 W1 _ fun H2 W2 => hh _ σ H2 W2 _ fun H3 W3 => by
    obtain ⟨a, xs, rfl, hs, h2⟩ := dp_tup W3.dp
    have hx := dpa_length h2
    have hc := cut_dp h2 lo hi
    rw [cutD_map] at hc
    refine ⟨a, xs, rfl, (ex_p (hide_ex _ _) hs).sq, fun hw => ?_, fun _ p o z hp => q _ _ (tup_new W3.pop hc z hp)⟩
    have e : cutX l lo hi = l := by
      rw [List.length_map] at hx
      rw [hx] at hw
      unfold cutX
      rw [hw.1, hw.2, List.drop_zero, Nat.sub_zero, List.take_length]
    rw [e] at q
    exact q _ H3 W3
theorem el_sliceX {α : Type} {f : α → PyData} {l : List α} {tl th : TO} {lo hi : Option Int} (ha : Ed c ρ ta (.list (l.map f)) ρ1) (hl : Eo c ρ1 tl lo ρ2) (hh : Eo c ρ2 th hi ρ3) : EdL c ρ (tSl (rSlL c.K) ta tl th) ((cutX l lo hi).map f) ρ3 :=
  el_is (el_slice ha hl hh) (cutD_map f l lo hi)
theorem ed_revT {α : Type} {f : α → PyData} {l : List α} (h : Ed c ρ te (.tuple (l.map f)) ρ1) : Ed c ρ (tRevT c.K te) (.tuple (l.reverse.map f)) ρ1 := fun T σ H W Q q => h T σ H W _ fun v H1 W1 => by
  obtain ⟨a, xs, rfl, hs, h2⟩ := dp_tup W1.dp
  refine ⟨a, xs, rfl, (ex_p (hide_ex _ _) hs).sq, fun p o z hp => q _ _ (tup_new W1.pop ?_ z hp)⟩
  rw [List.map_reverse]
  exact dpa_rev h2
theorem el_revL {α : Type} {f : α → PyData} {l : List α} (h : Ed c ρ te (.list (l.map f)) ρ1) : EdL c ρ (tRevL c.K te) (l.reverse.map f) ρ1 := fun T σ H W Q q => h T σ H W _ fun v H1 W1 => by
  obtain ⟨a, xs, rfl, hs, h2⟩ := dp_lst W1.dp
  refine ⟨a, xs, rfl, ex_l (hide_ex _ _) hs, fun p hp => ?_⟩
  have h3 := dpa_rev h2
  rw [← List.map_reverse] at h3
  obtain ⟨x1, x2, x3, x4⟩ := el_new W1.pop h3 hp
  exact q p _ x1 x2 x3 x4
theorem ed_catT {α : Type} {f : α → PyData} {l m : List α} (ha : Ed c ρ ta (.tuple (l.map f)) ρ1) (hb : Ed c ρ1 tb (.tuple (m.map f)) ρ2) (hz : l.length + m.length ≤ 100000) : Ed c ρ (tOp (rCatF c.K) ta tb) (.tuple ((l ++ m).map f)) ρ2 :=
  ed_op ha hb fun T σ H x y W hx hy Q q => by
    obtain ⟨a, xs, rfl, hs, h2⟩ := dp_tup hx
    obtain ⟨b, ys, rfl, hs', h3⟩ := dp_tup hy
    have lx := dpa_length h2
    have ly := dpa_length h3
    rw [List.length_map] at lx ly
    refine ⟨a, b, xs, ys, rfl, rfl, (ex_p (hide_ex _ _) hs).sq, (ex_p (hide_ex _ _) hs').sq, ?_, fun e => ?_, fun _ e => ?_, fun _ _ p o z hp => q _ _ (tup_new W ?_ z hp)⟩
    · rw [lx, ly]; exact Nat.le_trans hz (by decide)
    · have : l = [] := by rw [e] at lx; exact List.length_eq_zero_iff.mp lx.symm
      subst this
      exact q _ H (W.push hy)
    · have : m = [] := by rw [e] at ly; exact List.length_eq_zero_iff.mp ly.symm
      subst this
      rw [List.append_nil] at q
      exact q _ H (W.push hx)
    · rw [List.map_append]; exact dpa_append h2 h3
theorem el_cat {α : Type} {f : α → PyData} {l m : List α} (ha : Ed c ρ ta (.list (l.map f)) ρ1) (hb : Ed c ρ1 tb (.list (m.map f)) ρ2) (hz : l.length + m.length ≤ 100000) : EdL c ρ (tOp (rCatG c.K) ta tb) ((l ++ m).map f) ρ2 := fun T σ H W Q q =>
  ha T σ H W _ fun v H1 W1 => hb _ σ H1 W1 _ fun w H2 W2 => by
    obtain ⟨a, xs, rfl, hs, h2⟩ := dp_lst W2.pop.dp
    obtain ⟨b, ys, rfl, hs', h3⟩ := dp_lst W2.dp
    have lx := dpa_length h2
    have ly := dpa_length h3
    rw [List.length_map] at lx ly
    refine ⟨a, b, xs, ys, rfl, rfl, ex_l (hide_ex _ _) hs, ex_l (hide_ex _ _) hs', by rw [lx, ly]; exact Nat.le_trans hz (by decide), fun p hp => ?_⟩
    have h4 := dpa_append h2 h3
    rw [← List.map_append] at h4
    obtain ⟨x1, x2, x3, x4⟩ := el_new W2.pop.pop h4 hp
    exact q p _ x1 x2 x3 x4
/-- [..] * n -/
theorem el_rep {α : Type} {f : α → PyData} {l : List α} {k : Int} (ha : EdL c ρ ta (l.map f) ρ1) (hb : ∀ S B, Ed (c.at S B) ρ1 tb (.int k) ρ1) (hk : -1000000 ≤ k ∧ k ≤ 100000 ∧ l.length * k.toNat ≤ 100000) : EdL c ρ (tOp rRep ta tb) ((List.replicate k.toNat l).flatten.map f) ρ1 := fun T σ H W Q q =>
  ha T σ H W _ fun p H1 hB hn mo W1 => by
    obtain ⟨xs, hx, dx⟩ := mo
    have hs := W.sub
    have nS : p ∉ c.S0 := fun m => hn (List.mem_append_left _ m)
    have W2 : Wd (c.at (p :: c.S0) (upd c.B p (.lst xs))) (xs.zip (l.map f) ++ T) H1 σ ρ1 := (W1.pin hx hB hs nS).pushAll dx
    refine hb _ _ _ σ H1 W2 _ fun v H2 W3 => ?_
    have lx := dpa_length dx
    obtain ⟨h2, W4⟩ := W3.unpin hB (fun m => nS (hs p m))
    have dx2 := Wd.allOf (T := T) lx W4.pop
    have ez : xs.length * k.toNat ≤ 100000 := by rw [lx, List.length_map]; exact hk.2.2
    refine ⟨p, k, xs, rfl, dp_int W4.dp, h2, by omega, by omega, Nat.le_trans ez (by decide), fun r hr => ?_⟩
    have W5 : Wd c T H2 σ ρ1 := (W4.pop.tmps fun q hq => List.mem_append_right _ hq).unhide hs
    have e3 : Ex (hide (hid (c.hidden p) ρ1) H2) (hide (hid c ρ1) H2) := hide_mono fun a o n h => ⟨fun m => n (List.mem_cons_of_mem _ m), h⟩
    have d3 := dpa_rep (dpam e3 dx2) k.toNat
    have em : (List.replicate k.toNat (l.map f)).flatten = (List.replicate k.toNat l).flatten.map f := by rw [List.map_flatten, List.map_replicate]
    rw [em] at d3
    obtain ⟨x1, x2, x3, x4⟩ := el_new W5 d3 hr
    exact q r _ x1 x2 x3 x4
theorem ed_sumT {l : List Int} (h : Ed c ρ te (.tuple (l.map .int)) ρ1) : Ed c ρ (tCB (rSumT c.K) (tCons te tNil)) (.int l.sum) ρ1 := fun T σ H W Q q => h T σ H W _ fun v H1 W1 => by
  obtain ⟨a, xs, rfl, hs, h2⟩ := dp_tup W1.dp
  have := dpaInts h2
  subst this
  exact ⟨a, l, rfl, .inl (ex_p (hide_ex _ _) hs).sq, q _ H1 (W1.pop.push (.int _))⟩
theorem ed_sumL {l : List Int} (h : Ed c ρ te (.list (l.map .int)) ρ1) : Ed c ρ (tCB (rSumT c.K) (tCons te tNil)) (.int l.sum) ρ1 := fun T σ H W Q q => h T σ H W _ fun v H1 W1 => by
  obtain ⟨a, xs, rfl, hs, h2⟩ := dp_lst W1.dp
  have := dpaInts h2
  subst this
  exact ⟨a, l, rfl, .inr (ex_l (hide_ex _ _) hs), q _ H1 (W1.pop.push (.int _))⟩
theorem max_un {l : List Int} {m : Int} (h1 : m ∈ l) (h2 : ∀ y, y ∈ l → y ≤ m) : m = maxOf l := by
  have := maxOf_ge h1
  have := h2 _ (maxOf_mem (List.length_pos_of_mem h1))
  omega
theorem min_un {l : List Int} {m : Int} (h1 : m ∈ l) (h2 : ∀ y, y ∈ l → m ≤ y) : m = minOf l := by
  have := minOf_le h1
  have := h2 _ (minOf_mem (List.length_pos_of_mem h1))
  omega
theorem ed_maxT {l : List Int} (h : Ed c ρ te (.tuple (l.map .int)) ρ1) (hl : 0 < l.length) : Ed c ρ (tCB (rMaxT c.K) (tCons te tNil)) (.int (maxOf l)) ρ1 := fun T σ H W Q q => h T σ H W _ fun v H1 W1 => by
  obtain ⟨a, xs, rfl, hs, h2⟩ := dp_tup W1.dp
  have := dpaInts h2
  subst this
  exact ⟨a, l, rfl, .inl (ex_p (hide_ex _ _) hs).sq, hl, fun m h3 h4 => by rw [max_un h3 h4]; exact q _ H1 (W1.pop.push (.int _))⟩
theorem ed_maxL {l : List Int} (h : Ed c ρ te (.list (l.map .int)) ρ1) (hl : 0 < l.length) : Ed c ρ (tCB (rMaxT c.K) (tCons te tNil)) (.int (maxOf l)) ρ1 := fun T σ H W Q q => h T σ H W _ fun v H1 W1 => by
  obtain ⟨a, xs, rfl, hs, h2⟩ := dp_lst W1.dp
  have := dpaInts h2
  subst this
  exact ⟨a, l, rfl, .inr (ex_l (hide_ex _ _) hs), hl, fun m h3 h4 => by rw [max_un h3 h4]; exact q _ H1 (W1.pop.push (.int _))⟩
theorem ed_minT {l : List Int} (h : Ed c ρ te (.tuple (l.map .int)) ρ1) (hl : 0 < l.length) : Ed c ρ (tCB (rMinT c.K) (tCons te tNil)) (.int (minOf l)) ρ1 := fun T σ H W Q q => h T σ H W _ fun v H1 W1 => by
  obtain ⟨a, xs, rfl, hs, h2⟩ := dp_tup W1.dp
  have := dpaInts h2
  subst this
  exact ⟨a, l, rfl, .inl (ex_p (hide_ex _ _) hs).sq, hl, fun m h3 h4 => by rw [min_un h3 h4]; exact q _ H1 (W1.pop.push (.int _))⟩
theorem ed_minL {l : List Int} (h : Ed c ρ te (.list (l.map .int)) ρ1) (hl : 0 < l.length) : Ed c ρ (tCB (rMinT c.K) (tCons te tNil)) (.int (minOf l)) ρ1 := fun T σ H W Q q => h T σ H W _ fun v H1 W1 => by
  obtain ⟨a, xs, rfl, hs, h2⟩ := dp_lst W1.dp
  have := dpaInts h2
  subst this
  exact ⟨a, l, rfl, .inr (ex_l (hide_ex _ _) hs), hl, fun m h3 h4 => by rw [min_un h3 h4]; exact q _ H1 (W1.pop.push (.int _))⟩
theorem ed_max2 {i j : Int} (ha : Ed c ρ ta (.int i) ρ1) (hb : Ed c ρ1 tb (.int j) ρ2) : Ed c ρ (tCB (fun xs H Q => ∃ i j, xs = [.int i, .int j] ∧ Q (.int (if j > i then j else i)) H) (tCons ta (tCons tb tNil))) (.int (if j > i then j else i)) ρ2 := fun T σ H W Q q =>
  ha T σ H W _ fun v H1 W1 => hb _ σ H1 W1 _ fun w H2 W2 => ⟨i, j, by rw [dp_int W2.pop.dp, dp_int W2.dp], q _ H2 (W2.pop.pop.push (.int _))⟩
theorem ed_min2 {i j : Int} (ha : Ed c ρ ta (.int i) ρ1) (hb : Ed c ρ1 tb (.int j) ρ2) : Ed c ρ (tCB (fun xs H Q => ∃ i j, xs = [.int i, .int j] ∧ Q (.int (if j < i then j else i)) H) (tCons ta (tCons tb tNil))) (.int (if j < i then j else i)) ρ2 := fun T σ H W Q q =>
  ha T σ H W _ fun v H1 W1 => hb _ σ H1 W1 _ fun w H2 W2 => ⟨i, j, by rw [dp_int W2.pop.dp, dp_int W2.dp], q _ H2 (W2.pop.pop.push (.int _))⟩
theorem ed_all {l : List Bool} (h : Ed c ρ te (.list (l.map .bool)) ρ1) : Ed c ρ (tCB (rAll c.K) (tCons te tNil)) (.bool (l.all id)) ρ1 := fun T σ H W Q q => h T σ H W _ fun v H1 W1 => by
  obtain ⟨a, xs, rfl, hs, h2⟩ := dp_lst W1.dp
  have := dpaBools h2
  subst this
  exact ⟨a, l, rfl, ex_l (hide_ex _ _) hs, q _ H1 (W1.pop.push (.bl _))⟩
theorem ed_any {l : List Bool} (h : Ed c ρ te (.list (l.map .bool)) ρ1) : Ed c ρ (tCB (rAny c.K) (tCons te tNil)) (.bool (l.any id)) ρ1 := fun T σ H W Q q => h T σ H W _ fun v H1 W1 => by
  obtain ⟨a, xs, rfl, hs, h2⟩ := dp_lst W1.dp
  have := dpaBools h2
  subst this
  exact ⟨a, l, rfl, ex_l (hide_ex _ _) hs, q _ H1 (W1.pop.push (.bl _))⟩
/-! #### isinstance, repr -/
def tyD : PyData → String
  | .none => "NoneType"
  | .bool _ => "bool"
  | .int _ => "int"
  | .str _ => "str"
  | .list _ => "list"
  | .tuple _ => "tuple"
  | .dict _ => "dict"
theorem tyx_of {v : V} (h : Dz c.K H v d) : TyX c.K H v (.type (tyD d)) := by
  cases h with
  | non => exact .base .non
  | bl b => exact .base (.bl b)
  | int i => exact .base (.int i)
  | str x => exact .base (.str x)
  | lst hs ha =>
    rcases hs with (hs | ⟨o, hs⟩) | ⟨o, its, n, h1, h2, _⟩
    · exact .base (.lst hs)
    · exact .base (.frz hs)
    · exact .kList h1 h2
  | tup hs ha =>
    rcases hs with ⟨o, hs, _⟩ | ⟨o, its, n, h1, h2, _⟩
    · exact .fTuple hs
    · exact .kTuple h1 h2
theorem ed_isi {n : String} {b : Bool} (h : Ed c ρ te d ρ1) (hk : kitB (tyD d) n = some b) : Ed c ρ (tCB (rIsi c.K) (tCons te (tCons (tC (.ty n)) tNil))) (.bool b) ρ1 := fun T σ H W Q q => h T σ H W _ fun v H1 W1 =>
  ⟨v, .ty n, _, _, b, rfl, .ty n, tyx_of (dpm (hide_ex _ _) W1.dp), kit_ty hk, q _ H1 (W1.pop.push (.bl _))⟩
def isi_int : PyData → Bool
  | .int _ => true
  | .bool _ => true
  | _ => false
def isi_bool : PyData → Bool
  | .bool _ => true
  | _ => false
theorem kit_int (d : PyData) : kitB (tyD d) "int" = some (isi_int d) := by
  cases d
  · exact (show kitB "NoneType" "int" = some false by decide +kernel)
  · exact (show kitB "bool" "int" = some true by decide +kernel)
  · exact (show kitB "int" "int" = some true by decide +kernel)
  · exact (show kitB "str" "int" = some false by decide +kernel)
  · exact (show kitB "list" "int" = some false by decide +kernel)
  · exact (show kitB "tuple" "int" = some false by decide +kernel)
  · exact (show kitB "dict" "int" = some false by decide +kernel)
theorem kit_bool (d : PyData) : kitB (tyD d) "bool" = some (isi_bool d) := by
  cases d
  · exact (show kitB "NoneType" "bool" = some false by decide +kernel)
  · exact (show kitB "bool" "bool" = some true by decide +kernel)
  · exact (show kitB "int" "bool" = some false by decide +kernel)
  · exact (show kitB "str" "bool" = some false by decide +kernel)
  · exact (show kitB "list" "bool" = some false by decide +kernel)
  · exact (show kitB "tuple" "bool" = some false by decide +kernel)
  · exact (show kitB "dict" "bool" = some false by decide +kernel)
theorem ed_isiD {n : String} {b : Bool} (h : Ed c ρ te d ρ1) (hk : kitB (tyD d) n = some b) : Ed c ρ (tCB (rIsi c.K) (tCons te (tCons (tC (.ty n)) tNil))) (.bool b) ρ1 := ed_isi h hk
theorem ed_repr (h : Ed c ρ te d ρ1) (hs : showOk d) : Ed c ρ (tCB (rRepr c.K) (tCons te tNil)) (.str d.shown) ρ1 := fun T σ H W Q q => h T σ H W _ fun v H1 W1 => ⟨v, d, rfl, dz_dp _ _ (dpm (hide_ex _ _) W1.dp), hs, q _ H1 (W1.pop.push (.str _))⟩
theorem et_truB {b : Bool} (h : Ed c ρ te (.bool b) ρ1) : Et c ρ (fun σ H Q => te σ H fun x H' => ∃ k, TruV c.K x H' k ∧ Q k H') b ρ1 := et_is (et_tru h) rfl
theorem et_truI {i : Int} (h : Ed c ρ te (.int i) ρ1) : Et c ρ (fun σ H Q => te σ H fun x H' => ∃ k, TruV c.K x H' k ∧ Q k H') (i != 0) ρ1 := et_is (et_tru h) rfl
theorem et_truL {α : Type} {f : α → PyData} {l : List α} (h : Ed c ρ te (.list (l.map f)) ρ1) : Et c ρ (fun σ H Q => te σ H fun x H' => ∃ k, TruV c.K x H' k ∧ Q k H') (!l.isEmpty) ρ1 := et_is (et_tru h) (by show (!(l.map f).isEmpty) = _; rw [List.isEmpty_map])
theorem et_truT {α : Type} {f : α → PyData} {l : List α} (h : Ed c ρ te (.tuple (l.map f)) ρ1) : Et c ρ (fun σ H Q => te σ H fun x H' => ∃ k, TruV c.K x H' k ∧ Q k H') (!l.isEmpty) ρ1 := et_is (et_tru h) (by show (!(l.map f).isEmpty) = _; rw [List.isEmpty_map])
/-! #### chains as tests -/
theorem et_chain {b : Bool} (h : Ed c ρ te (.bool b) ρ1) : Et c ρ (tTest te) b ρ1 := et_test h
theorem et_truM {j : Nat} {l : Bool} {a : Addr} {α : Type} {f : α → PyData} {xs : List α} (h : ρ[j]? = some (.mu l a (.lst (xs.map f)))) : Et c ρ (fun σ H Q => tVar j σ H fun x H' => ∃ k, TruV c.K x H' k ∧ Q k H') (!xs.isEmpty) ρ := fun T σ H W Q q => by
  obtain ⟨h0, _, ys, h1, h2⟩ := W.ok j _ h
  refine ⟨.ref a, h0, !xs.isEmpty, .inl ⟨ys, sq_of h1, ?_⟩, q H W⟩
  rw [isEmpty_dp h2, List.isEmpty_map]
/-! #### walks -/
theorem ei_listX {α : Type} {f : α → PyData} {l : List α} (h : Ed c ρ te (.list (l.map f)) ρ1) : Ei c ρ (iList c.K te) (l.map fun x => Itm.hard (f x)) ρ1 := by
  have := ei_list h
  rw [hards, List.map_map] at this
  exact this
theorem ei_tupX {α : Type} {f : α → PyData} {l : List α} (h : Ed c ρ te (.tuple (l.map f)) ρ1) : Ei c ρ (iTup c.K te) (l.map fun x => Itm.hard (f x)) ρ1 := by
  have := ei_tup h
  rw [hards, List.map_map] at this
  exact this
theorem ei_enumX {α : Type} {f : α → PyData} {l : List α} (h : Ed c ρ te (.list (l.map f)) ρ1) : Ei c ρ (iEnum c.K (tCons te tNil)) (l.zipIdx.map fun p => Itm.soft [PyData.int (p.2 : Int), f p.1]) ρ1 := by
  have := ei_enum h
  unfold enumD at this
  rw [List.zipIdx_map, List.map_map] at this
  exact this
theorem zipD_map {α β : Type} (f : α → PyData) (g : β → PyData) (l : List α) (m : List β) : zipD (l.map f) (m.map g) = (l.zip m).map fun p => Itm.soft [f p.1, g p.2] := by
  unfold zipD
  rw [List.zipWith_map, List.zip, List.map_zipWith]
theorem ei_zipLX {α β : Type} {f : α → PyData} {g : β → PyData} {l : List α} {m : List β} (h : Ed c ρ te (.list (l.map f)) ρ1) (h2 : Ed c ρ1 tb (.list (m.map g)) ρ2) : Ei c ρ (iZipA c.K (tCons te (tCons tb tNil))) ((l.zip m).map fun p => Itm.soft [f p.1, g p.2]) ρ2 := by
  have := ei_zip h h2
  rw [zipD_map] at this
  exact this
theorem ei_zipTX {α β : Type} {f : α → PyData} {g : β → PyData} {l : List α} {m : List β} (h : Ed c ρ te (.tuple (l.map f)) ρ1) (h2 : Ed c ρ1 tb (.tuple (m.map g)) ρ2) : Ei c ρ (iZipA c.K (tCons te (tCons tb tNil))) ((l.zip m).map fun p => Itm.soft [f p.1, g p.2]) ρ2 := by
  have := ei_zipT h h2
  rw [zipD_map] at this
  exact this
def rngX (lo hi : Int) : List Int := (List.range (hi - lo).toNat).map fun (i : Nat) => lo + (i : Int)
theorem ei_rngX2 {lo n : Int} (h : Ed c ρ te (.int lo) ρ1) (h2 : Ed c ρ1 tb (.int n) ρ2) (hn : (-4000000000 ≤ lo ∧ lo ≤ 4000000000) ∧ -4000000000 ≤ n ∧ n ≤ 4000000000) : Ei c ρ (iRng2 (tCons te (tCons tb tNil))) ((rngX lo n).map fun (i : Int) => Itm.hard (PyData.int i)) ρ2 := by
  have := ei_rng2 h h2 hn
  unfold hards rngD at this
  unfold rngX
  rw [List.map_map] at this ⊢
  exact this
/-! #### comprehensions by typed items -/
theorem el_lcAX {α β : Type} {wi : TI} {g : TG} {vs : List Nat} {xs : List α} {ea : α → Itm} {enc : β → PyData} {fb : α → β} (h : Ei c ρ wi (xs.map ea) ρ1) (hsz : xs.length ≤ 100000) (hvs : ∀ j ∈ vs, ρ1[j]? = some .no)
    (turn : ∀ (S : List Addr) (B : Hp) (x : α), x ∈ xs → ∃ ρa, Nz.wipeS ρa vs = ρ1 ∧ Eg (c.at S B) g (ea x) ρ1 ρa vs ∧ Ed (c.at S B) ρa te (enc (fb x)) ρa) :
    EdL c ρ (tLc wi g tYes te vs) ((xs.map fb).map enc) ρ1 := el_is (el_lcA xs ea (fun x => enc (fb x)) h hsz hvs turn) (by rw [List.map_map]; rfl)
theorem el_lcPX {α β : Type} {wi : TI} {g : TG} {tt : TT} {vs : List Nat} {xs : List α} {ea : α → Itm} {p : α → Bool} {enc : β → PyData} {fb : α → β} (h : Ei c ρ wi (xs.map ea) ρ1) (hsz : xs.length ≤ 100000) (hvs : ∀ j ∈ vs, ρ1[j]? = some .no)
    (turn : ∀ (S : List Addr) (B : Hp) (x : α), x ∈ xs → ∃ ρa, Nz.wipeS ρa vs = ρ1 ∧ Eg (c.at S B) g (ea x) ρ1 ρa vs ∧ Et (c.at S B) ρa tt (p x) ρa ∧ (p x = true → Ed (c.at S B) ρa te (enc (fb x)) ρa)) :
    EdL c ρ (tLc wi g tt te vs) (((xs.filter p).map fb).map enc) ρ1 := el_is (el_lcP xs ea p (fun x => enc (fb x)) h hsz hvs turn) (by rw [List.map_map]; rfl)
/-! #### statements by typed lists -/
theorem le_rfl {ρ ρ' : List Sl} (e : ρ = ρ') : Le ρ ρ' := e ▸ Le.refl ρ
theorem le_frzX {ρ ρ' : List Sl} {a : Addr} {ds es : List PyData} (e : ds = es) (t : Le ρ ρ') : Le (.mu true a (.lst ds) :: ρ) (.da (.list es) :: ρ') := by subst e; exact le_frz t
variable {D : Ends} {ts tu : TS} {g : TG} {nx bk ct : L2.St → Hp → Prop} {rt : VK}
theorem ixN_nn {n : Nat} {i : Int} (h : 0 ≤ i ∧ i < n) : ixN n i = some i.toNat := by unfold ixN; rw [if_pos h.1, if_pos h.2]
theorem s_setLX {α : Type} {f : α → PyData} {i : Nat} {l : Bool} {a : Addr} {xs : List α} {x : α} {j : Int} (h : Ed c ρ te (f x) ρ1) (hj : Ed c ρ1 tb (.int j) ρ2) (h0 : ∃ l o, ρ1[i]? = some (.mu l a o)) (ha : ρ2[i]? = some (.mu l a (.lst (xs.map f)))) (hn : 0 ≤ j ∧ j < xs.length)
    (k : Sk c T (ρ2.set i (.mu l a (.lst ((xs.set j.toNat x).map f)))) nx) : Ss c T ρ (tAsg te (gSub (tVar i) tb rSetL)) ⟨nx, rt, bk, ct⟩ :=
  s_setL h hj h0 ha (n := j.toNat) (ixN_nn (by rw [List.length_map]; exact hn)) (by rw [← List.map_set]; exact k)
/-- a op= with what C asks -/
theorem s_augC {C : Int → Int → Prop} {i : Nat} {f : Int → Int → Int} {a b : Int} (hx : ρ[i]? = some (.da (.int a))) (h : Ed c ρ te (.int b) ρ) (hc : C a b) (k : Sk c T (ρ.set i (.da (.int (f a b)))) nx) : Ss c T ρ (tAug i te (rI C fun i j => .int (f i j))) ⟨nx, rt, bk, ct⟩ := fun σ H W => by
  obtain ⟨v, e, dp⟩ := W.ok i _ hx
  refine ⟨v, e, h T σ H W _ fun w H1 W1 => ⟨a, b, dp_int dp, dp_int W1.dp, hc, ?_⟩⟩
  exact k _ _ (W1.pop.setD i (.int _))
end
end Nz

/-! methods of plain tuples -/
namespace Nz
open PySem PySem.Spec PyProof.Rows L2 RZ
section
variable {X : Cx} {o e : Expr} {es : List Expr} {to : TE} {t : TA} {name : Str} {apos cpos : Pos} {id : String} {r : V → List V → Hp → VK → Prop}
def tBMT (K : PySem.W.Frag) (r : V → List V → Hp → VK → Prop) (to : TE) (t : TA) : TE := fun σ H Q => to σ H fun x H1 => (∃ p xs, x = .ref p ∧ Pt K H1 p xs) ∧ t σ H1 fun xs H2 => r x xs H2 Q
theorem pt_is {pins : List (Addr × Obj)} {σ : L2.St} {H : Hp} {s : Shared} {x : V} {v : Value} (I : Inv X pins σ H s) (rv : RelV x v) (h : ∃ p xs, x = .ref p ∧ Pt X.K H p xs) :
    s.TypeIs v "tuple" ∧ ∀ a, v = .ref a → ∃ ob, s.heap.get? a = some ob ∧ ob.dict = none := by
  obtain ⟨p, xs, rfl, h⟩ := h
  cases rv
  rcases h with ⟨o, h, z⟩ | ⟨o, its, n, h1, h2, h3, h4, h5, h6⟩
  · have e := I.hok p _ h
    obtain ⟨e1, e2⟩ := e
    obtain ⟨hz, its, rr, ip⟩ := e2
    obtain ⟨o', e', hc, hd⟩ := ip
    have : o = o' := by rw [e1] at e'; exact Option.some.inj e'
    subst this
    refine ⟨⟨o, e1, hc⟩, fun a q => ?_⟩
    cases q
    exact ⟨o, e1, z⟩
  · refine ⟨⟨o, I.kIn p o h1, h2⟩, fun a q => ?_⟩
    cases q
    exact ⟨o, I.kIn p o h1, h3⟩
theorem pe_bmT (slot : Slot "tuple" name id) (hty : typeOf (.builtin id) = pure (.type "method_descriptor")) (hm : MtR X id r) (ho : PE X o to) (ha : PA X (e :: es) t)
    (hbase : attributeBase o name X.env (eval o X.env) = eval o X.env := by rfl)
    (hfew : ((backTo cpos (starEach (e :: es) X.env)).all (fun x => !x.1) && (backToKw cpos (keywordEach [] X.env)).all (fun x => x.1.isSome)
      && decide ((e :: es).length + ([] : List Keyword).length + (if ([] : List Keyword).isEmpty then 0 else 1) < 30)) = true := by rfl)
    (hline : (apos.endLine == cpos.line) = true := by rfl) (hs : starEach (e :: es) X.env = (false, eval e X.env) :: starEach es X.env := by rfl) (hplain : (backTo cpos (starEach es X.env)).any (·.1) = false := by rfl) :
    PE X (.Call (.Attribute o name apos) (e :: es) [] cpos) (tBMT X.K r to t) := by
  refine ⟨fun pins s σ H Q I h => ?_⟩
  refine wpAny_Call_method_late hbase hfew hline rfl (thn (ho.run pins s σ H _ I h) fun v s1 ⟨x, H1, I1, r1, ty, q1⟩ => ?_)
  obtain ⟨h1, h2⟩ := pt_is I1 r1 ty
  refine ⟨"tuple", id, PySem.F.plainAttrs_tuple, slot, hty, h1, h2, ?_⟩
  have hA := ha.run cpos pins s1 σ H1 _ I1 q1
  rw [hs] at hA ⊢
  refine Calls.callWith_builtin (by show (false || (backTo cpos (starEach es X.env)).any (·.1)) = false; rw [hplain] <;> rfl) (Calls.evalArgs_plain ?_)
  exact thn hA fun us s2 ⟨vs, H2, I2, r2, q2⟩ => hm pins s2 σ H2 x vs v us Q I2 r1 r2 q2
/-- the same, where X's own K is told apart -/
theorem pe_bmTK {K : PySem.W.Frag} (slot : Slot "tuple" name id) (hty : typeOf (.builtin id) = pure (.type "method_descriptor")) (hm : MtR X id r) (ho : PE X o to) (ha : PA X (e :: es) t) (hK : X.K = K := by rfl)
    (hbase : attributeBase o name X.env (eval o X.env) = eval o X.env := by rfl)
    (hfew : ((backTo cpos (starEach (e :: es) X.env)).all (fun x => !x.1) && (backToKw cpos (keywordEach [] X.env)).all (fun x => x.1.isSome)
      && decide ((e :: es).length + ([] : List Keyword).length + (if ([] : List Keyword).isEmpty then 0 else 1) < 30)) = true := by rfl)
    (hline : (apos.endLine == cpos.line) = true := by rfl) (hs : starEach (e :: es) X.env = (false, eval e X.env) :: starEach es X.env := by rfl) (hplain : (backTo cpos (starEach es X.env)).any (·.1) = false := by rfl) :
    PE X (.Call (.Attribute o name apos) (e :: es) [] cpos) (tBMT K r to t) := hK ▸ pe_bmT slot hty hm ho ha hbase hfew hline hs hplain
theorem pe_bmK {K : PySem.W.Frag} {T : String} (pa : PlainAttrs T) (slot : Slot T name id) (hty : typeOf (.builtin id) = pure (.type "method_descriptor")) (hm : MtR X id r) (ho : PE X o to) (ha : PA X (e :: es) t) (hK : X.K = K := by rfl)
    (hbase : attributeBase o name X.env (eval o X.env) = eval o X.env := by rfl)
    (hfew : ((backTo cpos (starEach (e :: es) X.env)).all (fun x => !x.1) && (backToKw cpos (keywordEach [] X.env)).all (fun x => x.1.isSome)
      && decide ((e :: es).length + ([] : List Keyword).length + (if ([] : List Keyword).isEmpty then 0 else 1) < 30)) = true := by rfl)
    (hline : (apos.endLine == cpos.line) = true := by rfl) (hs : starEach (e :: es) X.env = (false, eval e X.env) :: starEach es X.env := by rfl) (hplain : (backTo cpos (starEach es X.env)).any (·.1) = false := by rfl) :
    PE X (.Call (.Attribute o name apos) (e :: es) [] cpos) (tBM K T r to t) := hK ▸ pe_bm pa slot hty hm ho ha hbase hfew hline hs hplain
def rCntT (K : PySem.W.Frag) : V → List V → Hp → VK → Prop := fun x xs H Q => ∃ (p : Addr) (ns : List Int) (k : Int), x = .ref p ∧ xs = [.int k] ∧ SqT K H p (ns.map V.int) ∧ Q (.int (ns.count k : Nat)) H
theorem mt_tcount : MtR X "tuple.count" (rCntT X.K) := by
  intro pins s σ H x xs v us Q I rx rxs h
  obtain ⟨p, ns, k, rfl, rfl, hs, q⟩ := h
  cases rx
  obtain ⟨u, rfl, ru⟩ := rxs.one
  obtain ⟨t, rfl⟩ := ru
  obtain ⟨its, rv, ⟨⟨cls, dd, data, sl⟩, ho, hc, n, hd⟩, hlen⟩ := I.tuple hs
  simp only at hc hd
  subst hc hd
  have hi := ints_of_vals rv
  refine call_meets PySem.F.slot_tuple_count ⟨_, ho, rfl⟩ PySem.F.entry_tuple_count (PySem.F.args_tuple_count_2 _ _)
    (SeqAt.tuple_countAt p its.toArray n dd sl (.int k t) (eqk k)) ⟨ho, fun y hy => (eqk_gives hi y (by simpa using hy)).at _ _, ?_⟩
  have ec : its.toArray.toList.countP (eqk k) = ns.count k := eqk_count hi
  refine ⟨.int (ns.count k : Nat), H, I.tok _, ⟨s.toks, ?_⟩, q⟩
  show Value.int ((its.toArray.toList.countP (eqk k) : Nat) : Int) s.toks = Value.int ((ns.count k : Nat) : Int) s.toks
  rw [ec]
end
section
variable {c : Cz} {ρ ρ1 ρ2 : List Sl} {ta tb te : TE} {d : PyData}
theorem ed_tcount {l : List Int} {k : Int} (ha : Ed c ρ ta (.tuple (l.map .int)) ρ1) (hb : Ed c ρ1 tb (.int k) ρ2) : Ed c ρ (tBMT c.K (rCntT c.K) ta (tCons tb tNil)) (.int ((l.count k : Nat) : Int)) ρ2 := fun T σ H W Q q => ha T σ H W _ fun v H1 W1 => by
  obtain ⟨a, xs, rfl, hs, h2⟩ := dp_tup W1.dp
  refine ⟨⟨a, xs, rfl, ex_p (hide_ex _ _) hs⟩, hb _ σ H1 W1 _ fun w H2 W2 => ?_⟩
  obtain ⟨a', xs', e, hs', h2'⟩ := dp_tup W2.pop.dp
  cases e
  have := dpaInts h2'
  subst this
  exact ⟨a, l, k, rfl, by rw [dp_int W2.dp], (ex_p (hide_ex _ _) hs').sq, q _ H2 (W2.pop.pop.push (.int _))⟩
def rCntL (K : PySem.W.Frag) := rCntI K
theorem ed_lcount {l : List Int} {k : Int} (ha : Ed c ρ ta (.list (l.map .int)) ρ1) (hb : Ed c ρ1 tb (.int k) ρ2) : Ed c ρ (tBM c.K "list" (rCntI c.K) ta (tCons tb tNil)) (.int ((l.count k : Nat) : Int)) ρ2 := fun T σ H W Q q => ha T σ H W _ fun v H1 W1 => by
  obtain ⟨a, xs, rfl, hs, h2⟩ := dp_lst W1.dp
  refine ⟨.inl ⟨rfl, xs, ex_l (hide_ex _ _) hs⟩, hb _ σ H1 W1 _ fun w H2 W2 => ?_⟩
  obtain ⟨a', xs', e, hs', h2'⟩ := dp_lst W2.pop.dp
  cases e
  have := dpaInts h2'
  subst this
  exact ⟨a, l, k, rfl, by rw [dp_int W2.dp], ex_l (hide_ex _ _) hs', q _ H2 (W2.pop.pop.push (.int _))⟩
end
end Nz

/-! data that can be shown and compared -/
namespace Nz
open PySem PySem.Spec PyProof.Rows L2 RZ
/-- no deeper than k, shown in len letters, parts below 2 ^ 1900 -/
structure Gd (k len : Nat) (d : PyData) : Prop where
  lay : d.canLay0 = true
  sh : d.showable = true
  dep : d.depth ≤ k
  len : d.shown.length ≤ len
theorem Gd.mono {k l k' l' : Nat} {d : PyData} (h : Gd k l d) (a : k ≤ k') (b : l ≤ l') : Gd k' l' d := ⟨h.lay, h.sh, Nat.le_trans h.dep a, Nat.le_trans h.len b⟩
theorem gd_show {k l : Nat} {d : PyData} (h : Gd k l d) (hk : k ≤ 60 := by decide) (hl : l ≤ 16000000 := by decide) : showOk d := ⟨h.sh, PyData.hasDict_of_canLay d h.lay, Nat.le_trans h.dep hk, Nat.le_trans h.len (Nat.le_trans hl (by decide))⟩
theorem gd_shaped {k l : Nat} {d : PyData} (h : Gd k l d) (hk : k ≤ 60 := by decide) : SeqAt.shaped d = true := by
  unfold SeqAt.shaped
  rw [h.lay]
  exact decide_eq_true (Nat.le_trans h.dep (Nat.le_trans hk (by decide)))
theorem pow_1900 : (2 : Nat) ^ 1900 < 10 ^ 600 := by decide +kernel
theorem gd_int {i : Int} (h : i.natAbs < 2 ^ 1900) : Gd 0 601 (.int i) := by
  refine ⟨rfl, ?_, Nat.le_refl _, ?_⟩
  · show decide (i.natAbs.log2 < 1920) = true
    refine decide_eq_true ?_
    by_cases z : i.natAbs = 0
    · rw [z]; decide
    · have := (Nat.log2_lt z).mpr h
      omega
  · have e := PySem.int_text_length_le10 (k := 600) (by decide) (Nat.lt_trans h pow_1900)
    show (Str.ofString (toString i)).length ≤ 601
    rw [PySem.ofString_length]; exact e
theorem gd_bool (b : Bool) : Gd 0 601 (.bool b) := ⟨rfl, rfl, Nat.le_refl _, by cases b <;> decide +kernel⟩
theorem gd_none : Gd 0 601 .none := ⟨rfl, rfl, Nat.le_refl _, by decide +kernel⟩
theorem gd_all {k l : Nat} : ∀ {ds : List PyData}, (∀ d ∈ ds, Gd k l d) → PyData.canLayAll0 ds = true ∧ PyData.showableAll ds = true ∧ PyData.depthAll ds ≤ k ∧ ((PyData.shownAll ds).map (·.length)).sum ≤ l * ds.length
  | [], _ => ⟨rfl, rfl, Nat.zero_le _, by simp [PyData.shownAll]⟩
  | d :: ds, h => by
    obtain ⟨a, b, c, e⟩ := gd_all fun x hx => h x (List.mem_cons_of_mem _ hx)
    obtain ⟨a', b', c', e'⟩ := h d (List.mem_cons_self ..)
    refine ⟨by rw [PyData.canLayAll0, a, a']; rfl, by rw [PyData.showableAll, b, b']; rfl, by rw [PyData.depthAll]; omega, ?_⟩
    rw [PyData.shownAll, List.map_cons, List.sum_cons, List.length_cons, Nat.mul_add]
    omega
theorem gd_list {k l n : Nat} {ds : List PyData} (h : ∀ d ∈ ds, Gd k l d) (hn : ds.length ≤ n) : Gd (k + 1) ((l + 2) * n + 3) (.list ds) := by
  obtain ⟨a, b, c, e⟩ := gd_all h
  refine ⟨by rw [PyData.canLay0]; exact a, by rw [PyData.showable]; exact b, by rw [PyData.depth]; omega, ?_⟩
  have t := listText_len_le (PyData.shownAll ds)
  rw [PyData.shownAll_length] at t
  have e2 : (PyData.list ds).shown = listText (PyData.shownAll ds) := by rw [PyData.shown]
  rw [e2]
  refine Nat.le_trans t ?_
  have : (l + 2) * ds.length ≤ (l + 2) * n := Nat.mul_le_mul_left _ hn
  rw [Nat.add_mul] at this
  omega
theorem gd_tuple {k l n : Nat} {ds : List PyData} (h : ∀ d ∈ ds, Gd k l d) (hn : ds.length ≤ n) : Gd (k + 1) ((l + 2) * n + 3) (.tuple ds) := by
  obtain ⟨a, b, c, e⟩ := gd_all h
  refine ⟨by rw [PyData.canLay0]; exact a, by rw [PyData.showable]; exact b, by rw [PyData.depth]; omega, ?_⟩
  have t := tupleText_len_le (PyData.shownAll ds)
  rw [PyData.shownAll_length] at t
  have e2 : (PyData.tuple ds).shown = tupleText (PyData.shownAll ds) := by rw [PyData.shown]
  rw [e2]
  refine Nat.le_trans t ?_
  have : (l + 2) * ds.length ≤ (l + 2) * n := Nat.mul_le_mul_left _ hn
  rw [Nat.add_mul] at this
  omega
theorem gd_Q {r : Rat} (h : r.num.natAbs < 2 ^ 1900) (h2 : r.den < 2 ^ 1900) : Gd 1 1209 (eQ r) :=
  gd_tuple (k := 0) (l := 601) (n := 2) (fun d hd => by
    simp only [List.mem_cons, List.mem_singleton, List.not_mem_nil, or_false] at hd
    rcases hd with rfl | rfl
    · exact gd_int h
    · exact gd_int (show ((r.den : Int)).natAbs < 2 ^ 1900 from h2)) (Nat.le_refl _)
theorem gd_L {α : Type} {f : α → PyData} {l : List α} {k len n : Nat} (h : ∀ x ∈ l, Gd k len (f x)) (hn : l.length ≤ n) : Gd (k + 1) ((len + 2) * n + 3) (eL f l) :=
  gd_list (fun d hd => by obtain ⟨x, hx, rfl⟩ := List.mem_map.mp hd; exact h x hx) (by rw [List.length_map]; exact hn)
theorem gd_T {α : Type} {f : α → PyData} {l : List α} {k len n : Nat} (h : ∀ x ∈ l, Gd k len (f x)) (hn : l.length ≤ n) : Gd (k + 1) ((len + 2) * n + 3) (eT f l) :=
  gd_tuple (fun d hd => by obtain ⟨x, hx, rfl⟩ := List.mem_map.mp hd; exact h x hx) (by rw [List.length_map]; exact hn)
theorem same_ret {k l : Nat} {a b : PyData} (e : a = b) (h : Gd k l a) : PyData.bool (PyData.eqv a b && decide (PyData.shown a = PyData.shown b)) = PyData.bool true := by
  subst e
  rw [SeqAt.eqv_refl a h.lay]
  simp
section
variable {c : Cz} {ρ ρ1 ρ2 : List Sl} {ta tb te : TE} {d : PyData}
theorem ed_eqS {x y : Str} (ha : Ed c ρ ta (.str x) ρ1) (hb : Ed c ρ1 tb (.str y) ρ2) : Ed c ρ (tOp rEq ta tb) (.bool (decide (x = y))) ρ2 :=
  ed_op ha hb fun T σ H v w W hx hy Q q => by
    rw [dp_str hx, dp_str hy]
    refine ⟨rfl, ?_⟩
    have e : decide (V.str x = V.str y) = decide (x = y) := by simp
    rw [e]
    exact q _ H (W.push (.bl _))
theorem ed_neS {x y : Str} (ha : Ed c ρ ta (.str x) ρ1) (hb : Ed c ρ1 tb (.str y) ρ2) : Ed c ρ (tOp rNe ta tb) (.bool (!decide (x = y))) ρ2 :=
  ed_op ha hb fun T σ H v w W hx hy Q q => by
    rw [dp_str hx, dp_str hy]
    refine ⟨rfl, ?_⟩
    have e : decide (V.str x = V.str y) = decide (x = y) := by simp
    rw [e]
    exact q _ H (W.push (.bl _))
end
end Nz

/-! what may come out in many ways (draws from the script) -/
namespace Nz
open PySem PySem.Spec PyProof.Rows L2 RZ

def Ew {α : Type} (c : Cz) (ρ : List Sl) (te : TE) (f : α → PyData) (P : α → Prop) (ρ' : List Sl) : Prop := ∀ (T : Tm) (σ : L2.St) (H : Hp), Wd c T H σ ρ → ∀ Q : VK, (∀ x v H', P x → Wd c ((v, f x) :: T) H' σ ρ' → Q v H') → te σ H Q
def EwL {α : Type} (c : Cz) (ρ : List Sl) (te : TE) (g : α → List PyData) (P : α → Prop) (ρ' : List Sl) : Prop := ∀ (T : Tm) (σ : L2.St) (H : Hp), Wd c T H σ ρ → ∀ Q : VK,
  (∀ x p H', P x → c.B p = none → p ∉ hid c ρ' → MoOk c.K (p :: hid c ρ') H' p (.lst (g x)) → Wd (c.hidden p) T H' σ ρ' → Q (.ref p) H') → te σ H Q
def Ewt (c : Cz) (ρ : List Sl) (tt : TT) (P : Bool → Prop) (ρ' : List Sl) : Prop := ∀ (T : Tm) (σ : L2.St) (H : Hp), Wd c T H σ ρ → ∀ Q : Bool → Hp → Prop, (∀ b H', P b → Wd c T H' σ ρ' → Q b H') → tt σ H Q
def Ewa {α : Type} (c : Cz) (ρ : List Sl) (ta : TA) (as : α → List Ar) (P : α → Prop) (ρ' : List Sl) : Prop := ∀ (T : Tm) (σ : L2.St) (H : Hp), Wd c T H σ ρ → ∀ Q : List V → Hp → Prop,
  (∀ x vs H', P x → AA c.K (hide (hid c ρ') H') vs (as x) → Wd c T H' σ ρ' → Q vs H') → ta σ H Q
def Ewo (c : Cz) (ρ : List Sl) (to : TO) (P : Option Int → Prop) (ρ' : List Sl) : Prop := ∀ (T : Tm) (σ : L2.St) (H : Hp), Wd c T H σ ρ → ∀ Q : Option Int → Hp → Prop, (∀ o H', P o → Wd c T H' σ ρ' → Q o H') → to σ H Q

/-! #### slots put behind -/
def slA : Ar → Sl
  | .raw v => .vl v
  | .dat d => .da d
theorem muts_app {ρ : List Sl} {as : List Ar} : muts (ρ ++ as.map slA) = muts ρ := by
  unfold muts
  rw [List.filterMap_append]
  have : List.filterMap mutA (as.map slA) = [] := by
    rw [List.filterMap_eq_nil_iff]
    intro s hs
    obtain ⟨a, _, rfl⟩ := List.mem_map.mp hs
    cases a <;> rfl
  rw [this, List.append_nil]
theorem hid_app {c : Cz} {ρ : List Sl} {as : List Ar} : hid c (ρ ++ as.map slA) = hid c ρ := by
  show c.S0 ++ muts _ = c.S0 ++ muts _
  rw [muts_app]
theorem aa_get {K : PySem.W.Frag} {H : Hp} : ∀ {as : List Ar} {vs : List V}, AA K H vs as → ∀ (i : Nat) (s : Sl), (as.map slA)[i]? = some s → ∃ v, vs[i]? = some v ∧ (s = .vl v ∨ ∃ d, s = .da d ∧ Dz K H v d)
  | [], _, h, i, s, e => by simp at e
  | a :: as, _, h, 0, s, e => by
    cases h with
    | raw h => exact ⟨_, rfl, .inl (Option.some.inj e).symm⟩
    | dat h1 h => exact ⟨_, rfl, .inr ⟨_, (Option.some.inj e).symm, h1⟩⟩
  | a :: as, _, h, i + 1, s, e => by
    cases h with
    | raw h => exact aa_get h i s e
    | dat h1 h => exact aa_get h i s e
theorem aa_len {K : PySem.W.Frag} {H : Hp} : ∀ {as : List Ar} {vs : List V}, AA K H vs as → vs.length = as.length
  | [], _, h => by cases h; rfl
  | a :: as, _, h => by
    cases h with
    | raw h => exact congrArg (· + 1) (aa_len h)
    | dat h1 h => exact congrArg (· + 1) (aa_len h)
theorem Wd.ext {c : Cz} {T : Tm} {H : Hp} {σ : L2.St} {ρ : List Sl} {vs : List V} {as : List Ar} (W : Wd c T H σ ρ) (a : AA c.K (hide (hid c ρ) H) vs as) : Wd c T H (σ ++ vs.map some) (ρ ++ as.map slA) := by
  have nm : ∀ {i : Nat} {l : Bool} {b : Addr} {o : MO}, (ρ ++ as.map slA)[i]? = some (.mu l b o) → ρ[i]? = some (.mu l b o) := fun {i l b o} e => by
    by_cases hi : i < ρ.length
    · rwa [List.getElem?_append_left hi] at e
    · rw [List.getElem?_append_right (by omega)] at e
      obtain ⟨v, _, q | ⟨d, q, _⟩⟩ := aa_get a _ _ e <;> cases q
  refine ⟨?_, W.keep, W.sub, W.dom, ?_, fun i j l m b o u h1 h2 => W.inj i j l m b o u (nm h1) (nm h2), fun i b o h => W.ap i b o (nm h), fun i s e => ?_⟩
  · simp [W.len, aa_len a]
  · rw [hid_app]; exact W.tmp
  · rw [hid_app]
    have hl := W.len
    by_cases hi : i < ρ.length
    · rw [List.getElem?_append_left hi] at e
      rw [List.getElem?_append_left (by omega)]
      exact W.ok i s e
    · rw [List.getElem?_append_right (by omega)] at e
      rw [List.getElem?_append_right (by omega), hl, List.getElem?_map]
      obtain ⟨v, hv, q | ⟨d, q, dv⟩⟩ := aa_get a _ _ e
      · subst q; rw [hv]; exact rfl
      · subst q; rw [hv]; exact ⟨v, rfl, dv⟩
theorem Wd.cut {c : Cz} {T : Tm} {H : Hp} {σ τ : L2.St} {ρ : List Sl} {as : List Ar} (W : Wd c T H (σ ++ τ) (ρ ++ as.map slA)) (hl : σ.length = ρ.length) : Wd c T H σ ρ := by
  have up : ∀ {i : Nat} {s : Sl}, ρ[i]? = some s → (ρ ++ as.map slA)[i]? = some s := fun {i s} e => by
    rw [List.getElem?_append_left (List.getElem?_eq_some_iff.mp e).1]; exact e
  refine ⟨hl, W.keep, W.sub, W.dom, ?_, fun i j l m b o u h1 h2 => W.inj i j l m b o u (up h1) (up h2), fun i b o h => W.ap i b o (up h), fun i s e => ?_⟩
  · have := W.tmp; rw [hid_app] at this; exact this
  · have ok := W.ok i s (up e)
    have hi := (List.getElem?_eq_some_iff.mp e).1
    rw [hid_app, List.getElem?_append_left (by omega)] at ok
    exact ok

section
variable {c : Cz} {ρ ρ1 ρ2 ρ3 : List Sl} {ta tb te tx : TE} {t u : TT} {d d1 d2 d3 : PyData} {T : Tm} {H H' : Hp} {σ : L2.St}
variable {α β γ : Type} {f : α → PyData} {g : β → PyData} {e : γ → PyData} {P : α → Prop} {P2 : β → Prop} {P3 : γ → Prop}
theorem ew_det {x : α} (h : Ed c ρ te (f x) ρ1) : Ew c ρ te f (fun y => y = x) ρ1 := fun T σ H W Q q => h T σ H W Q fun v H1 W1 => q x v H1 rfl W1
theorem ew_imp {R : α → Prop} (h : Ew c ρ te f P ρ1) (i : ∀ x, P x → R x) : Ew c ρ te f R ρ1 := fun T σ H W Q q => h T σ H W Q fun x v H1 px W1 => q x v H1 (i x px) W1
theorem ew_as {R : β → Prop} (h : Ew c ρ te f P ρ1) (i : ∀ x, P x → ∃ y, R y ∧ f x = g y) : Ew c ρ te g R ρ1 := fun T σ H W Q q => h T σ H W Q fun x v H1 px W1 => by
  obtain ⟨y, hy, e⟩ := i x px
  rw [e] at W1
  exact q y v H1 hy W1
theorem ewt_det {b : Bool} (h : Et c ρ t b ρ1) : Ewt c ρ t (fun y => y = b) ρ1 := fun T σ H W Q q => h T σ H W Q fun H1 W1 => q b H1 rfl W1
theorem ewl_det {x : α} {f : α → List PyData} (h : EdL c ρ te (f x) ρ1) : EwL c ρ te f (fun y => y = x) ρ1 := fun T σ H W Q q => h T σ H W Q fun p H1 h1 h2 h3 W1 => q x p H1 rfl h1 h2 h3 W1
theorem ew_L {f : α → List PyData} (h : EwL c ρ te f P ρ1) : Ew c ρ te (fun x => .list (f x)) P ρ1 := fun T σ H W Q q => h T σ H W Q fun x p H' px hB hn hm W' => by
  have W2 := W'.unhide W.sub
  obtain ⟨xs, h1, h2⟩ := hm
  have e2 : Ex (hide (p :: hid c ρ1) H') (hide (hid c ρ1) H') := hide_mono fun a o n h => ⟨fun m => n (List.mem_cons_of_mem _ m), h⟩
  exact q x _ H' px (W2.push (.lst (sq_of (hide_of hn h1)) (dpam e2 h2)))
/-- an operator: as for data that is known -/
theorem ew_op {r : R2} {F : α → β → γ} (ha : Ew c ρ ta f P ρ1) (hb : Ew c ρ1 tb g P2 ρ2)
    (h : ∀ x y, P x → P2 y → ∀ (ρ : List Sl) (ta tb : TE), Ed c ρ ta (f x) ρ → Ed c ρ tb (g y) ρ → Ed c ρ (tOp r ta tb) (e (F x y)) ρ) : Ew c ρ (tOp r ta tb) e (fun z => ∃ x y, P x ∧ P2 y ∧ z = F x y) ρ2 :=
  fun T σ H W Q q => ha T σ H W _ fun x v H1 px W1 => hb _ σ H1 W1 _ fun y w H2 py W2 => by
    have hl := W2.len
    have W3 := W2.ext (as := [.dat (f x), .dat (g y)]) (.dat W2.pop.dp (.dat W2.dp .nil))
    obtain ⟨v', e1, w', e2, k⟩ := h x y px py (ρ2 ++ [.dat (f x), .dat (g y)].map slA) (tVar ρ2.length) (tVar (ρ2.length + 1)) (ed_var (by simp [slA])) (ed_var (by rw [List.getElem?_append_right (by omega)]; simp [slA])) _ _ H2 W3 Q
      (fun z H' W4 => q _ z H' ⟨x, y, px, py, rfl⟩ ((W4.cut hl).tmps fun p hp => by
        rcases List.mem_cons.mp hp with e | m
        · rw [e]; exact List.mem_cons_self ..
        · exact List.mem_cons_of_mem _ (List.mem_cons_of_mem _ (List.mem_cons_of_mem _ m))))
    rw [List.getElem?_append_right (by omega)] at e1 e2
    rw [show ρ2.length - σ.length = 0 by omega] at e1
    rw [show ρ2.length + 1 - σ.length = 1 by omega] at e2
    cases e1; cases e2
    exact k
theorem ewl_op {r : R2} {F : α → β → γ} {e : γ → List PyData} (ha : Ew c ρ ta f P ρ1) (hb : Ew c ρ1 tb g P2 ρ2)
    (h : ∀ x y, P x → P2 y → ∀ (ρ : List Sl) (ta tb : TE), Ed c ρ ta (f x) ρ → Ed c ρ tb (g y) ρ → EdL c ρ (tOp r ta tb) (e (F x y)) ρ) : EwL c ρ (tOp r ta tb) e (fun z => ∃ x y, P x ∧ P2 y ∧ z = F x y) ρ2 :=
  fun T σ H W Q q => ha T σ H W _ fun x v H1 px W1 => hb _ σ H1 W1 _ fun y w H2 py W2 => by
    have hl := W2.len
    have W3 := W2.ext (as := [.dat (f x), .dat (g y)]) (.dat W2.pop.dp (.dat W2.dp .nil))
    obtain ⟨v', e1, w', e2, k⟩ := h x y px py (ρ2 ++ [.dat (f x), .dat (g y)].map slA) (tVar ρ2.length) (tVar (ρ2.length + 1)) (ed_var (by simp [slA])) (ed_var (by rw [List.getElem?_append_right (by omega)]; simp [slA])) _ _ H2 W3 Q
      (fun p H' h1 h2 h3 W4 => by
        rw [hid_app] at h2 h3
        exact q _ p H' ⟨x, y, px, py, rfl⟩ h1 h2 h3 ((W4.cut hl).pop.pop))
    rw [List.getElem?_append_right (by omega)] at e1 e2
    rw [show ρ2.length - σ.length = 0 by omega] at e1
    rw [show ρ2.length + 1 - σ.length = 1 by omega] at e2
    cases e1; cases e2
    exact k
/-- anything of one part: G te = te, then k -/
theorem ew_1 {G : TE → TE} {k : V → L2.St → Hp → VK → Prop} {F : α → γ} (hG : ∀ te σ H Q, G te σ H Q = te σ H fun v H' => k v [] H' Q) (ha : Ew c ρ ta f P ρ1)
    (h : ∀ x, P x → ∀ (ρ : List Sl) (ta : TE), Ed c ρ ta (f x) ρ → Ed c ρ (G ta) (e (F x)) ρ) : Ew c ρ (G ta) e (fun z => ∃ x, P x ∧ z = F x) ρ1 :=
  fun T σ H W Q q => by
    rw [hG]
    refine ha T σ H W _ fun x v H1 px W1 => ?_
    have hl := W1.len
    have W3 := W1.ext (as := [.dat (f x)]) (.dat W1.dp .nil)
    have k := h x px (ρ1 ++ [.dat (f x)].map slA) (tVar ρ1.length) (ed_var (by simp [slA])) _ _ H1 W3 Q
      (fun z H' W4 => q _ z H' ⟨x, px, rfl⟩ ((W4.cut hl).tmps fun p hp => by
        rcases List.mem_cons.mp hp with e | m
        · rw [e]; exact List.mem_cons_self ..
        · exact List.mem_cons_of_mem _ (List.mem_cons_of_mem _ m)))
    rw [hG] at k
    obtain ⟨v', e1, k⟩ := k
    rw [List.getElem?_append_right (by omega)] at e1
    rw [show ρ1.length - σ.length = 0 by omega] at e1
    cases e1
    exact k
theorem ewl_1 {G : TE → TE} {k : V → L2.St → Hp → VK → Prop} {F : α → γ} {e : γ → List PyData} (hG : ∀ te σ H Q, G te σ H Q = te σ H fun v H' => k v [] H' Q) (ha : Ew c ρ ta f P ρ1)
    (h : ∀ x, P x → ∀ (ρ : List Sl) (ta : TE), Ed c ρ ta (f x) ρ → EdL c ρ (G ta) (e (F x)) ρ) : EwL c ρ (G ta) e (fun z => ∃ x, P x ∧ z = F x) ρ1 :=
  fun T σ H W Q q => by
    rw [hG]
    refine ha T σ H W _ fun x v H1 px W1 => ?_
    have hl := W1.len
    have W3 := W1.ext (as := [.dat (f x)]) (.dat W1.dp .nil)
    have k := h x px (ρ1 ++ [.dat (f x)].map slA) (tVar ρ1.length) (ed_var (by simp [slA])) _ _ H1 W3 Q
      (fun p H' h1 h2 h3 W4 => by
        rw [hid_app] at h2 h3
        exact q _ p H' ⟨x, px, rfl⟩ h1 h2 h3 ((W4.cut hl).pop))
    rw [hG] at k
    obtain ⟨v', e1, k⟩ := k
    rw [List.getElem?_append_right (by omega)] at e1
    rw [show ρ1.length - σ.length = 0 by omega] at e1
    cases e1
    exact k
theorem ew_cb1 {r : List V → Hp → VK → Prop} {F : α → γ} (ha : Ew c ρ ta f P ρ1) (h : ∀ x, P x → ∀ (ρ : List Sl) (ta : TE), Ed c ρ ta (f x) ρ → Ed c ρ (tCB r (tCons ta tNil)) (e (F x)) ρ) :
    Ew c ρ (tCB r (tCons ta tNil)) e (fun z => ∃ x, P x ∧ z = F x) ρ1 :=
  ew_1 (G := fun ta => tCB r (tCons ta tNil)) (k := fun v _ H Q => r [v] H Q) (fun _ _ _ _ => rfl) ha h
theorem ewl_cb1 {r : List V → Hp → VK → Prop} {F : α → γ} {e : γ → List PyData} (ha : Ew c ρ ta f P ρ1) (h : ∀ x, P x → ∀ (ρ : List Sl) (ta : TE), Ed c ρ ta (f x) ρ → EdL c ρ (tCB r (tCons ta tNil)) (e (F x)) ρ) :
    EwL c ρ (tCB r (tCons ta tNil)) e (fun z => ∃ x, P x ∧ z = F x) ρ1 :=
  ewl_1 (G := fun ta => tCB r (tCons ta tNil)) (k := fun v _ H Q => r [v] H Q) (fun _ _ _ _ => rfl) ha h
/-! #### arguments, displays, calls -/
theorem ewa_det {x : α} {as : α → List Ar} {ts : TA} (h : Ea c ρ ts (as x) ρ1) : Ewa c ρ ts as (fun y => y = x) ρ1 := fun T σ H W Q q => h T σ H W Q fun v H1 a W1 => q x v H1 rfl a W1
theorem ewa_nil : Ewa c ρ tNil (fun (_ : Unit) => []) (fun _ => True) ρ := fun T σ H W Q q => q () [] H trivial .nil W
theorem ewa_cons {ts : TA} {as : β → List Ar} (h : Ew c ρ te f P ρ1) (hr : Ewa c ρ1 ts as P2 ρ2) : Ewa c ρ (tCons te ts) (fun p : α × β => .dat (f p.1) :: as p.2) (fun p => P p.1 ∧ P2 p.2) ρ2 := fun T σ H W Q q =>
  h T σ H W _ fun x v H1 px W1 => hr _ σ H1 W1 _ fun y vs H2 py a W2 => q (x, y) _ H2 ⟨px, py⟩ (.dat W2.dp a) W2.pop
theorem ewa_raw {ts : TA} {as : α → List Ar} {i : Nat} {a : Addr} {l : Bool} {o : MO} (h : ρ[i]? = some (.mu l a o)) (hr : Ewa c ρ ts as P ρ2) : Ewa c ρ (tCons (tVar i) ts) (fun x => .raw (.ref a) :: as x) P ρ2 := fun T σ H W Q q =>
  ⟨.ref a, (W.ok i _ h).1, hr T σ H W _ fun x vs H2 px a W2 => q x _ H2 px (.raw a) W2⟩
theorem ew_tup {ts : TA} {ds : α → List PyData} {n : Nat} (h : Ewa c ρ ts (fun x => (ds x).map .dat) P ρ1) (hn : ∀ x, (ds x).length = n) (hl : Nat.ble n 100000 = true := by rfl) : Ew c ρ (tTupF ts) (fun x => .tuple (ds x)) P ρ1 := fun T σ H W Q q =>
  h T σ H W _ fun x vs H1 px a W1 => ⟨dpa_sz (aa_dats a) (by rw [hn]; exact Nat.le_of_ble_eq_true hl), fun p o z hp => q x _ _ px (tup_new W1 (aa_dats a) z hp)⟩
theorem ewl_lst {ts : TA} {ds : α → List PyData} {n : Nat} (h : Ewa c ρ ts (fun x => (ds x).map .dat) P ρ1) (hn : ∀ x, (ds x).length = n) (hl : Nat.ble n 100000 = true := by rfl) : EwL c ρ (tLst ts) ds P ρ1 := fun T σ H W Q q =>
  h T σ H W _ fun x vs H1 px a W1 => ⟨dpa_sz (aa_dats a) (by rw [hn]; exact Nat.le_of_ble_eq_true hl), fun p hp => by
    obtain ⟨x1, x2, x3, x4⟩ := el_new W1 (aa_dats a) hp
    exact q x p _ px x1 x2 x3 x4⟩
theorem ew_call {R : List PyData → PyData → Prop} {ts : TA} {ds : α → List PyData} {E : XK} {F : α → γ} (h : Ewa c ρ ts (fun x => (ds x).map .dat) P ρ1) (hR : ∀ x, P x → R (ds x) (e (F x))) :
    Ew c ρ (tCall (SpP c.K R) [] E ts) e (fun z => ∃ x, P x ∧ z = F x) ρ1 := fun T σ H W Q q => h T σ H W _ fun x vs H1 px a W1 => by
  rw [List.append_nil]
  exact ⟨hid c ρ1, ds x, e (F x), fun a h => W1.there h, aa_dats a, hR x px, fun v H' e dp => q _ v H' ⟨x, px, rfl⟩ ((W1.grow e).push dp)⟩
/-! #### the state that draws come from -/
/-- a list of four: the script, what is left of the cell, the place, the seed -/
def StOk (ds : List PyData) : Prop := ∃ (l : List Int) (cur pos seed : Nat), ds = [.list (l.map .int), .int (cur : Int), .int (pos : Int), .int (seed : Int)]
/-- a def that draws: its first argument is the state; Φ: what may come out -/
def SpW (K : PySem.W.Frag) (R : List PyData → (PyData → Prop) → Prop) : Sp := fun vs H Q _ => ∃ (S : List Addr) (a : Addr) (vs' : List V) (ds : List PyData) (Φ : PyData → Prop), vs = .ref a :: vs' ∧ a ∈ S ∧ (∀ b ∈ S, ∃ o, H b = some o) ∧
  MoOk K S H a (.any StOk) ∧ DzAll K (hide S H) vs' ds ∧ R ds Φ ∧ ∀ d v H', Φ d → (∀ b o, b ≠ a → H b = some o → H' b = some o) → MoOk K S H' a (.any StOk) → Dz K (hide S H') v d → Q v H'
theorem set_same {ρ : List Sl} {i : Nat} {s : Sl} (h : ρ[i]? = some s) : ρ.set i s = ρ := by
  apply List.ext_getElem?
  intro k
  by_cases q : i = k
  · subst q
    rw [List.getElem?_set_self (List.getElem?_eq_some_iff.mp h).1, h]
  · rw [List.getElem?_set_ne q]
theorem ew_callW {R : List PyData → (PyData → Prop) → Prop} {ts : TA} {ds : α → List PyData} {E : XK} {i : Nat} {l : Bool} {a : Addr} {P3 : α → γ → Prop} (h : Ewa c ρ ts (fun x => .raw (.ref a) :: (ds x).map .dat) P ρ1) (hi : ρ1[i]? = some (.mu l a (.any StOk)))
    (hR : ∀ x, P x → R (ds x) (fun d => ∃ z, P3 x z ∧ d = e z)) : Ew c ρ (tCall (SpW c.K R) [] E ts) e (fun z => ∃ x, P x ∧ P3 x z) ρ1 := fun T σ H W Q q => h T σ H W _ fun x vs H1 px aa W1 => by
  rw [List.append_nil]
  cases aa with
  | raw aa =>
    have hm : a ∈ hid c ρ1 := List.mem_append_right _ (mem_muts.mpr ⟨i, l, _, hi⟩)
    refine ⟨hid c ρ1, a, _, ds x, _, rfl, hm, fun a h => W1.there h, (W1.ok i _ hi).2.2, aa_dats aa, hR x px, fun d v H' ⟨z, hz, ed⟩ hk mo dp => ?_⟩
    subst ed
    have W2 := W1.chg hi hk mo
    rw [set_same hi] at W2
    exact q z v H' ⟨x, px, hz⟩ (W2.push dp)
/-! #### tests -/
theorem ew_ite {ca cb : Bool → Prop} (h : Ewt c ρ t ca ρ1) {f : α → PyData} {P P2 : α → Prop} (h1 : ca true → Ew c ρ1 ta f P ρ2) (h2 : ca false → Ew c ρ1 tb f P2 ρ2) : Ew c ρ (tIf t ta tb) f (fun x => (ca true ∧ P x) ∨ (ca false ∧ P2 x)) ρ2 := fun T σ H W Q q => h T σ H W _ fun b H1 hb W1 => by
  cases b with
  | true => exact h1 hb T σ H1 W1 Q fun x v H2 px W2 => q x v H2 (.inl ⟨hb, px⟩) W2
  | false => exact h2 hb T σ H1 W1 Q fun x v H2 px W2 => q x v H2 (.inr ⟨hb, px⟩) W2
theorem ewt_test {P3' : Bool → Prop} (h : Ew c ρ te (fun b => .bool b) P3' ρ1) : Ewt c ρ (tTest te) P3' ρ1 := fun T σ H W Q q => h T σ H W _ fun b v H1 pb W1 => ⟨b, dp_bl W1.dp, q b H1 pb W1.pop⟩
theorem ewt_tru {R : Bool → Prop} (h : Ew c ρ te f P ρ1) (ok : ∀ x, P x → truOk (f x) = true) (hR : ∀ x, P x → R (truD (f x))) : Ewt c ρ (fun σ H Q => te σ H fun x H' => ∃ k, TruV c.K x H' k ∧ Q k H') R ρ1 := fun T σ H W Q q => h T σ H W _ fun x v H1 px W1 =>
  ⟨_, tru_dp (dpm (hide_ex _ _) W1.dp) (ok x px), q _ H1 (hR x px) W1.pop⟩
theorem ewt_and {A B : Bool → Prop} (h1 : Ewt c ρ t A ρ1) (h2 : A true → Ewt c ρ1 u B ρ1) : Ewt c ρ (tAnd t u) (fun b => (A false ∧ b = false) ∨ (A true ∧ B b)) ρ1 := fun T σ H W Q q => h1 T σ H W _ fun a H1 ha W1 => by
  cases a with
  | true => exact h2 ha T σ H1 W1 Q fun b H2 hb W2 => q b H2 (.inr ⟨ha, hb⟩) W2
  | false => exact q false H1 (.inl ⟨ha, rfl⟩) W1
theorem ewt_or {A B : Bool → Prop} (h1 : Ewt c ρ t A ρ1) (h2 : A false → Ewt c ρ1 u B ρ1) : Ewt c ρ (tOr t u) (fun b => (A true ∧ b = true) ∨ (A false ∧ B b)) ρ1 := fun T σ H W Q q => h1 T σ H W _ fun a H1 ha W1 => by
  cases a with
  | true => exact q true H1 (.inl ⟨ha, rfl⟩) W1
  | false => exact h2 ha T σ H1 W1 Q fun b H2 hb W2 => q b H2 (.inr ⟨ha, hb⟩) W2
theorem ewt_not {A : Bool → Prop} (h1 : Ewt c ρ t A ρ1) : Ewt c ρ (tNot t) (fun b => A (!b)) ρ1 := fun T σ H W Q q => h1 T σ H W _ fun a H1 ha W1 => q _ H1 (by show A (!(!a)); rw [Bool.not_not]; exact ha) W1
theorem ewt_imp {A B : Bool → Prop} (h : Ewt c ρ t A ρ1) (i : ∀ b, A b → B b) : Ewt c ρ t B ρ1 := fun T σ H W Q q => h T σ H W Q fun b H1 hb W1 => q b H1 (i b hb) W1
theorem ew_and {A B : Bool → Prop} (h1 : Ew c ρ ta (fun b => .bool b) A ρ1) (h2 : A true → Ew c ρ1 tb (fun b => .bool b) B ρ1) : Ew c ρ (tAndV ta tb) (fun b => .bool b) (fun b => (A false ∧ b = false) ∨ (A true ∧ B b)) ρ1 := fun T σ H W Q q => h1 T σ H W _ fun a v H1 ha W1 => ⟨a, dp_bl W1.dp, by
  cases a with
  | true => exact h2 ha T σ H1 W1.pop Q fun b v H2 hb W2 => q b v H2 (.inr ⟨ha, hb⟩) W2
  | false => exact q false _ H1 (.inl ⟨ha, rfl⟩) (W1.pop.push (.bl _))⟩
/-! #### walks, comprehensions -/
def Eiw {α : Type} (c : Cz) (ρ : List Sl) (wi : TI) (its : α → List Itm) (P : α → Prop) (ρ' : List Sl) : Prop := ∀ (T : Tm) (σ : L2.St) (H : Hp), Wd c T H σ ρ → ∀ R : It → Hp → Prop, (∀ x J H' T1, P x → Wd c (T1 ++ T) H' σ ρ' → Walks c.K J T1 (its x) → R J H') → wi σ H R
theorem eiw_det {wi : TI} {its : α → List Itm} {x : α} (h : Ei c ρ wi (its x) ρ1) : Eiw c ρ wi its (fun y => y = x) ρ1 := fun T σ H W R q => h T σ H W R fun J H1 T1 W1 hw => q x J H1 T1 rfl W1 hw
theorem eiw_rng {P : Int → Prop} (h : Ew c ρ te PyData.int P ρ1) (hn : ∀ n, P n → -4000000000 ≤ n ∧ n ≤ 4000000000) : Eiw c ρ (iRng1 (tCons te tNil)) (fun n : Int => (List.range n.toNat).map fun (i : Nat) => Itm.hard (PyData.int (i : Int))) P ρ1 := fun T σ H W R q => h T σ H W _ fun n v H1 pn W1 => by
  have hh := hn n pn
  refine ⟨n, by rw [dp_int W1.dp], by omega, by omega, ?_⟩
  refine q n _ H1 [] pn W1.pop ?_
  have := walks_rng c.K 0 n.toNat
  unfold hards rngD at this
  simp only [Int.zero_add, List.map_map] at this
  exact this
/-- a comprehension, by what holds of the items so far -/
theorem el_lcN {wi : TI} {g : TG} {tt : TT} {vs : List Nat} {its : α → List Itm} (h : Eiw c ρ wi its P ρ1) (J : α → Nat → List PyData → Prop) (hJ : ∀ x, P x → J x 0 []) (hsz : ∀ x, P x → (its x).length ≤ 100000) (hvs : ∀ j ∈ vs, ρ1[j]? = some .no)
    (turn : ∀ (S : List Addr) (B : Hp) (x : α) (i : Nat) (d : Itm) (acc : List PyData), P x → (its x)[i]? = some d → J x i acc → ∃ (ρa : List Sl) (bp : Bool → Prop), Nz.wipeS ρa vs = ρ1 ∧ Eg (c.at S B) g d ρ1 ρa vs ∧ Ewt (c.at S B) ρa tt bp ρa ∧
      (bp true → Ew (c.at S B) ρa te (fun d => d) (fun d' => J x (i + 1) (acc ++ [d'])) ρa) ∧ (bp false → J x (i + 1) acc)) : EwL c ρ (tLc wi g tt te vs) (fun l : List PyData => l) (fun l => ∃ x, P x ∧ J x (its x).length l) ρ1 := fun T σ H W Q q =>
  h T σ H W _ fun x It H1 T1 px W1 hw D hD => by
    have hB := W1.freshB hD
    have hsub := W1.sub
    have nS : D ∉ c.S0 := fun m => W1.fresh hD (List.mem_append_left _ m)
    have nM : D ∉ c.M := fun m => nS (hsub D m)
    obtain ⟨_, hDn, mo0, Wh⟩ := el_new W1 (.nil) hD
    have eP : ∀ {H2 : Hp}, Wd (c.hidden D) (T1 ++ T) H2 (L2.wipe σ vs) ρ1 → D ∉ hid c ρ1 := fun W2 => W2.notin nS hsub
    have hs := hsz x px
    refine ⟨fun i m H2 => i + m = (its x).length ∧ ∃ acc, acc.length ≤ i ∧ J x i acc ∧ Wd (c.hidden D) (T1 ++ T) H2 (L2.wipe σ vs) ρ1 ∧ MoOk c.K (D :: hid c ρ1) H2 D (.lst acc), ⟨(its x).length, by omega, [], Nat.le_refl _, hJ x px, Wh.wipe hvs, mo0⟩, fun i m H2 ⟨hm, acc, la, ja, W2, mo⟩ => ?_⟩
    by_cases hi : i < (its x).length
    · obtain ⟨xs, hxs, dxs⟩ := mo
      have lx := dpa_length dxs
      have W2a : Wd (c.at (D :: c.S0) (upd c.B D (.lst xs))) (T1 ++ T) H2 (L2.wipe σ vs) ρ1 := W2.pin hxs hB hsub nS
      have W2b : Wd (c.at (D :: c.S0) (upd c.B D (.lst xs))) (xs.zip acc ++ (T1 ++ T)) H2 (L2.wipe σ vs) ρ1 := W2a.pushAll dxs
      have W2c : Wd (c.at (D :: c.S0) (upd c.B D (.lst xs))) (T1 ++ (xs.zip acc ++ T)) H2 (L2.wipe σ vs) ρ1 := W2b.tmps fun p hp => by
        simp only [List.mem_append] at hp ⊢
        rcases hp with hp | hp | hp
        · exact .inr (.inl hp)
        · exact .inl hp
        · exact .inr (.inr hp)
      have hwk := hw (c.at (D :: c.S0) (upd c.B D (.lst xs))) _ _ _ _ rfl W2c
      refine .inr ⟨(hwk.1 i hi).1, fun H3 => ∃ acc, acc.length ≤ i + 1 ∧ J x (i + 1) acc ∧ Wd (c.hidden D) (T1 ++ T) H3 (L2.wipe σ vs) ρ1 ∧ MoOk c.K (D :: hid c ρ1) H3 D (.lst acc), fun H3 ⟨ac, h3⟩ => ⟨m - 1, by omega, by omega, ac, h3⟩, fun y H3 hy => ?_⟩
      obtain ⟨d, hd, W3⟩ := (hwk.1 i hi).2 y H3 hy
      obtain ⟨ρa, bp, hwp, g1, g2, g3, g4⟩ := turn (D :: c.S0) (upd c.B D (.lst xs)) x i d acc px hd ja
      refine g1 _ _ _ _ W3 _ fun σ2 H4 W4 ew => ⟨by rw [ew, wipe_wipe], g2 _ σ2 H4 W4 _ fun b H5 pb W5 => ?_⟩
      rw [wipe_wipe] at ew
      cases b with
      | true =>
        rw [if_pos rfl]
        refine g3 pb _ σ2 H5 W5 _ fun d' z H6 jz W6 => ?_
        have W7 := W6.wipeS vs
        rw [hwp, ew] at W7
        obtain ⟨hx6, W8⟩ := W7.unpin hB nM
        have hn8 := W8.notin nS hsub
        refine ⟨xs, hx6, Nat.lt_of_lt_of_le (show xs.length < 100000 by omega) (by decide), acc ++ [d'], by simp; omega, jz, ?_, ?_⟩
        · refine (W8.updHid hB hn8).tmps fun p hp => List.mem_cons_of_mem _ ?_
          simp only [List.mem_append] at hp ⊢
          rcases hp with hp | hp
          · exact .inl hp
          · exact .inr (.inr hp)
        · refine ⟨xs ++ [z], upd_same, ?_⟩
          have W9 := W8.updHid (u := .lst (xs ++ [z])) hB hn8
          have a1 : DzAll c.K (hide (hid (c.hidden D) ρ1) (upd H6 D (.lst (xs ++ [z])))) xs acc := Wd.allOf (T := (z, d') :: (T1 ++ T)) lx (W9.tmps fun p hp => by
            simp only [List.mem_append, List.mem_cons] at hp ⊢
            rcases hp with hp | hp | hp | hp
            · exact .inr (.inr (.inl hp))
            · exact .inl hp
            · exact .inr (.inl hp)
            · exact .inr (.inr (.inr hp)))
          exact dpa_append a1 (.cons (W9.tmp (z, d') (List.mem_cons_self ..)) .nil)
      | false =>
        rw [if_neg (by decide)]
        have W7 := W5.wipeS vs
        rw [hwp, ew] at W7
        obtain ⟨hx6, W8⟩ := W7.unpin hB nM
        refine ⟨acc, by omega, g4 pb, W8.tmps fun p hp => ?_, xs, hx6, ?_⟩
        · simp only [List.mem_append] at hp ⊢
          rcases hp with hp | hp
          · exact .inl hp
          · exact .inr (.inr hp)
        · exact Wd.allOf (T := T1 ++ T) lx (W8.tmps fun p hp => by
            simp only [List.mem_append, List.mem_cons] at hp ⊢
            rcases hp with hp | hp | hp
            · exact .inr (.inl hp)
            · exact .inl hp
            · exact .inr (.inr hp))
    · have ei : i = (its x).length := by omega
      subst ei
      refine .inl ⟨(hw (c.hidden D) T (L2.wipe σ vs) H2 ρ1 rfl W2).2 _ (Nat.le_refl _), ?_⟩
      have W4 : Wd (c.hidden D) T H2 (L2.wipe σ vs) ρ1 := W2.tmps fun p hp => List.mem_append_right _ hp
      exact q acc D H2 ⟨x, px, ja⟩ hB (eP W2) mo (W4.unwipe hvs)
/-- one for each item -/
inductive Fa {α β : Type} (R : α → β → Prop) : List α → List β → Prop
  | nil : Fa R [] []
  | cons {a : α} {b : β} {l : List α} {m : List β} : R a b → Fa R l m → Fa R (a :: l) (b :: m)
theorem Fa.len {R : α → β → Prop} {l : List α} {m : List β} (h : Fa R l m) : m.length = l.length := by
  induction h with
  | nil => rfl
  | cons _ _ ih => rw [List.length_cons, List.length_cons, ih]
theorem Fa.snoc {R : α → β → Prop} {l : List α} {m : List β} {a : α} {b : β} (h : Fa R l m) (r : R a b) : Fa R (l ++ [a]) (m ++ [b]) := by
  induction h with
  | nil => exact .cons r .nil
  | cons r' _ ih => exact .cons r' ih
theorem Fa.mem {R : α → β → Prop} {l : List α} {m : List β} (h : Fa R l m) : ∀ b ∈ m, ∃ a ∈ l, R a b := by
  induction h with
  | nil => intro b hb; cases hb
  | cons r _ ih =>
    intro b hb
    rcases List.mem_cons.mp hb with e | hb
    · subst e; exact ⟨_, List.mem_cons_self .., r⟩
    · obtain ⟨a, ha, r⟩ := ih b hb
      exact ⟨a, List.mem_cons_of_mem _ ha, r⟩
/-- all items, each made in its ways -/
theorem el_lcW {δ : Type} {wi : TI} {g : TG} {vs : List Nat} {xs : α → List δ} {ea : δ → Itm} {eb : γ → PyData} {R : α → δ → γ → Prop} (h : Eiw c ρ wi (fun a => (xs a).map ea) P ρ1) (hsz : ∀ x, P x → (xs x).length ≤ 100000) (hvs : ∀ j ∈ vs, ρ1[j]? = some .no)
    (turn : ∀ (S : List Addr) (B : Hp) (a : α) (x : δ), P a → x ∈ xs a → ∃ ρa, Nz.wipeS ρa vs = ρ1 ∧ Eg (c.at S B) g (ea x) ρ1 ρa vs ∧ Ew (c.at S B) ρa te eb (R a x) ρa) :
    EwL c ρ (tLc wi g tYes te vs) (fun l : List γ => l.map eb) (fun l => ∃ a, P a ∧ Fa (R a) (xs a) l) ρ1 := fun T σ H W Q q => by
  refine el_lcN (c := c) (tt := tYes) (te := te) (vs := vs) h (fun a i acc => ∃ l : List γ, acc = l.map eb ∧ Fa (R a) ((xs a).take i) l) (fun a _ => ⟨[], rfl, by rw [List.take_zero]; exact .nil⟩) (fun a pa => by rw [List.length_map]; exact hsz a pa) hvs (fun S B a i d acc pa hd ⟨l, hl, hf⟩ => ?_) T σ H W Q (fun l p H' ⟨a, pa, l', e, hf⟩ h1 h2 h3 W1 => ?_)
  · rw [List.getElem?_map] at hd
    cases hx : (xs a)[i]? with
    | none => rw [hx] at hd; cases hd
    | some x =>
      rw [hx] at hd
      have hd : ea x = d := Option.some.inj hd
      subst hd
      obtain ⟨ρa, hw, g1, g2⟩ := turn S B a x pa (List.mem_of_getElem? hx)
      refine ⟨ρa, fun b => b = true, hw, g1, fun T σ H W Q q => q true H rfl W, fun _ => ew_as g2 fun z hz => ⟨eb z, ⟨l ++ [z], by rw [hl, List.map_append]; rfl, ?_⟩, rfl⟩, fun e => by cases e⟩
      rw [List.take_add_one, hx]
      exact hf.snoc hz
  · subst e
    rw [List.length_map, List.take_length] at hf
    exact q l' p H' ⟨a, pa, hf⟩ h1 h2 h3 W1
/-! ### statements -/
variable {D : Ends} {ts tu : TS} {gt : TG} {nx bk ct : L2.St → Hp → Prop} {rt : VK}
theorem s_asgGW {ws : List Nat} {ρ2 : α → List Sl} (h : Ew c ρ te f P ρ1) (hg : ∀ x, P x → Eg c gt (.hard (f x)) ρ1 (ρ2 x) ws) (k : ∀ x, P x → Sk c T (ρ2 x) nx) : Ss c T ρ (tAsg te gt) ⟨nx, rt, bk, ct⟩ := fun σ H W => h T σ H W _ fun x v H1 px W1 => hg x px T σ H1 v W1 _ fun σ2 H2 W2 _ => k x px σ2 H2 W2
theorem s_asgW {i : Nat} (h : Ew c ρ te f P ρ1) (k : ∀ x, P x → Sk c T (ρ1.set i (.da (f x))) nx) : Ss c T ρ (tAsg te (gName i)) ⟨nx, rt, bk, ct⟩ := s_asgGW (ws := [i]) (ρ2 := fun x => ρ1.set i (.da (f x))) h (fun x _ => eg_name (List.mem_cons_self ..)) k
theorem s_asgMW {i : Nat} {f : α → List PyData} (h : EwL c ρ te f P ρ1) (k : ∀ x, P x → ∀ p, Sk c T (ρ1.set i (.mu true p (.lst (f x)))) nx) : Ss c T ρ (tAsg te (gName i)) ⟨nx, rt, bk, ct⟩ := fun σ H W =>
  h T σ H W _ fun x p H1 px hB hn mo W1 => k x px p _ _ (W1.setM W.sub i (by rw [if_pos rfl]; exact hB) hn mo)
theorem s_parW {i j : Nat} {ta tb : TE} (h : Ew c ρ ta f P ρ1) (h2 : Ew c ρ1 tb g P2 ρ2) (k : ∀ x y, P x → P2 y → Sk c T ((ρ2.set i (.da (f x))).set j (.da (g y))) nx) : Ss c T ρ (tPar i j (tCons ta (tCons tb tNil))) ⟨nx, rt, bk, ct⟩ := fun σ H W =>
  h T σ H W _ fun x v H1 px W1 => h2 _ σ H1 W1 _ fun y w H2 py W2 => by
    refine ⟨v, w, rfl, ?_⟩
    have W3 : Wd c ((v, f x) :: T) H2 σ ρ2 := W2.pop
    have W4 := W2.setD i W3.dp
    have W5 := W4.setD j W4.dp
    exact k x y px py _ _ W5.pop.pop
theorem s_ifW {A : Bool → Prop} (h : Ewt c ρ t A ρ1) (h1 : A true → Ss c T ρ1 ts D) (h2 : A false → Ss c T ρ1 tu D) : Ss c T ρ (tIfS t ts tu) D := fun σ H W => h T σ H W _ fun b H1 hb W1 => by
  cases b with
  | true => exact h1 hb σ H1 W1
  | false => exact h2 hb σ H1 W1
theorem s_dropW (h : Ew c ρ te f P ρ1) (k : ∀ x, P x → Sk c T ρ1 nx) : Ss c T ρ (tDrop te) ⟨nx, rt, bk, ct⟩ := fun σ H W => h T σ H W _ fun x v H1 px W1 => k x px σ H1 W1.pop
theorem s_open {i : Nat} {l : Bool} {a : Addr} {P : List PyData → Prop} {nx : L2.St → Hp → Prop} (h : ρ[i]? = some (.mu l a (.any P))) (k : ∀ ds, P ds → Sk c T (ρ.set i (.mu l a (.lst ds))) nx) : Sk c T ρ nx := fun σ H W => by
  obtain ⟨_, _, xs, h1, ds, p, h2⟩ := W.ok i _ h
  exact k ds p σ H (W.chg h (fun _ _ _ e => e) ⟨xs, h1, h2⟩)
/-- what a def that draws must return -/
def RtW (c : Cz) (a : Addr) (Φ : PyData → Prop) (rt : VK) : Prop := ∀ d, Φ d → Rt c d [(a, .any StOk)] rt
theorem s_retW {i : Nat} {l : Bool} {a : Addr} {Φ : PyData → Prop} (h : Ew c ρ te f P ρ1) (hi : ρ1[i]? = some (.mu l a (.any StOk))) (hr : RtW c a Φ D.rt) (hp : ∀ x, P x → Φ (f x)) : Ss c T ρ (tRet te) D := fun σ H W => h T σ H W _ fun x v H1 px W1 =>
  hr (f x) (hp x px) v H1 W1.keep (fun p hp => by
    simp only [List.mem_singleton] at hp
    subst hp
    exact (W1.ok i _ hi).2.2.mono hide_S0 rfl) (dpm hide_S0 W1.dp)
/-- a for that draws: its state is any that holds -/
theorem s_forN {β : Type} {wi : TI} {tbd : TS} (xs : List α) (ea : α → Itm) (h : Ei c ρ wi (xs.map ea) ρ1) (P : Nat → β → Prop) (I : Nat → β → List Sl) (b0 : β) (hP : P 0 b0) (h0 : Le ρ1 (I 0 b0))
    (hs : ∀ (T' : Tm), (∀ p ∈ T, p ∈ T') → ∀ (i : Nat) (x : α) (b : β), xs[i]? = some x → P i b → ∃ ρa ws, Eg c gt (ea x) (I i b) ρa ws ∧ Ss c T' ρa tbd ⟨fun σ H => ∃ b', P (i + 1) b' ∧ Wd c T' H σ (I (i + 1) b'), rt, nx, fun σ H => ∃ b', P (i + 1) b' ∧ Wd c T' H σ (I (i + 1) b')⟩)
    (hd : ∀ b, P xs.length b → Sk c T (I xs.length b) nx) : Ss c T ρ (tFor wi gt tbd) ⟨nx, rt, bk, ct⟩ := fun σ H W => h T σ H W _ fun J H1 T1 W1 hw => by
  rw [← List.length_map (f := ea)] at hd
  refine ⟨fun i m σ' H' => i + m = (xs.map ea).length ∧ ∃ b, P i b ∧ Wd c (T1 ++ T) H' σ' (I i b), ⟨(xs.map ea).length, by omega, b0, hP, W1.le h0⟩, fun i m σ' H' ⟨hm, b, pb, W2⟩ => ?_⟩
  have hwk := hw c T σ' H' (I i b) rfl W2
  by_cases hi : i < (xs.map ea).length
  · refine .inr ⟨(hwk.1 i hi).1, fun σ3 H3 => ∃ b', P (i + 1) b' ∧ Wd c (T1 ++ T) H3 σ3 (I (i + 1) b'), fun σ3 H3 h3 => ⟨m - 1, by omega, by omega, h3⟩, fun x H3 hy => ?_⟩
    obtain ⟨d, hd', W3⟩ := (hwk.1 i hi).2 x H3 hy
    rw [List.getElem?_map] at hd'
    cases hx : xs[i]? with
    | none => rw [hx] at hd'; cases hd'
    | some z =>
      rw [hx] at hd'
      have hd' : ea z = d := Option.some.inj hd'
      subst hd'
      obtain ⟨ρa, ws, g1, g2⟩ := hs (T1 ++ T) (fun p hp => List.mem_append_right _ hp) i z b hx pb
      exact g1 _ σ' H3 x W3 _ fun σ4 H4 W4 _ => g2 σ4 H4 W4
  · have ei : i = (xs.map ea).length := by omega
    subst ei
    exact .inl ⟨hwk.2 _ (Nat.le_refl _), hd b pb σ' H' (W2.tmps fun p hp => List.mem_append_right _ hp)⟩
theorem s_endN {β : Type} {P : β → Prop} {I : β → List Sl} (b' : β) (hP : P b') (h : Le ρ (I b')) : Sk c T ρ (fun σ H => ∃ b', P b' ∧ Wd c T H σ (I b')) := fun σ H W => ⟨b', hP, W.le h⟩
end
/-! ### a def that draws -/
theorem startW {K : PySem.W.Frag} {N : List Str} {vs : List V} {ds : List PyData} {S : List Addr} {H : Hp} {a : Addr} (hd : ∀ a ∈ S, ∃ o, H a = some o) (hm : a ∈ S) (mo : MoOk K S H a (.any StOk)) (da : DzAll K (hide S H) vs ds) (hl : ds.length + 1 ≤ N.length) :
    Wd ⟨K, H, [a], S⟩ [] H (L2.start N (.ref a :: vs)) (.mu false a (.any StOk) :: (ds.map .da ++ List.replicate (N.length - (ds.length + 1)) .no)) := by
  have W0 := start_wd (M := []) (N := N.drop 1) hd da (by rw [List.length_drop]; omega)
  have nm : ∀ (i : Nat) (l : Bool) (b : Addr) (o : MO), (ds.map Sl.da ++ List.replicate (N.length - (ds.length + 1)) Sl.no)[i]? ≠ some (.mu l b o) := fun i l b o e => by
    have := List.mem_of_getElem? e
    simp at this
  have hid0 : ∀ b, b ∈ hid ⟨K, H, [a], S⟩ (.mu false a (.any StOk) :: (ds.map Sl.da ++ List.replicate (N.length - (ds.length + 1)) Sl.no)) → b ∈ S := fun b m => by
    rcases List.mem_append.mp m with m | m
    · exact m
    · obtain ⟨i, l, o, e⟩ := mem_muts.mp m
      cases i with
      | zero => cases e; exact hm
      | succ i => exact absurd e (nm i l b o)
  have hid1 : ∀ b, b ∈ S → b ∈ hid ⟨K, H, [a], S⟩ (.mu false a (.any StOk) :: (ds.map Sl.da ++ List.replicate (N.length - (ds.length + 1)) Sl.no)) := fun b m => List.mem_append_left _ m
  have e1 : Ex (hide S H) (hide (hid ⟨K, H, [a], S⟩ (.mu false a (.any StOk) :: (ds.map Sl.da ++ List.replicate (N.length - (ds.length + 1)) Sl.no))) H) := hide_mono fun b o n h => ⟨fun m => n (hid0 b m), h⟩
  have hN : (N.drop 1).length - ds.length = N.length - (ds.length + 1) := by rw [List.length_drop]; omega
  have st : L2.start N (.ref a :: vs) = some (.ref a) :: L2.start (N.drop 1) vs := by
    unfold L2.start
    rw [List.map_cons, List.cons_append, List.length_cons, List.length_drop]
    have : N.length - (vs.length + 1) = N.length - 1 - vs.length := by omega
    rw [this]
  rw [st]
  rw [hN] at W0
  refine ⟨?_, fun b o _ h => h, fun b m => by simp at m; rw [m]; exact hm, hd, fun p hp => (nomatch hp), fun i j l m b o u h1 h2 => ?_, fun i b o h => ?_, fun i s e => ?_⟩
  · have := W0.len
    simp only [List.length_cons]
    rw [this]
  · cases i with
    | zero =>
      cases j with
      | zero => rfl
      | succ j => exact absurd h2 (nm j m b u)
    | succ i => exact absurd h1 (nm i l b o)
  · cases i with
    | zero => cases h
    | succ i => exact absurd h (nm i true b o)
  · cases i with
    | zero => cases e; exact ⟨rfl, by simp, mo.mono e1 rfl⟩
    | succ i =>
      have ok := W0.ok i s e
      have hh : hid ⟨K, H, [], S⟩ (ds.map Sl.da ++ List.replicate (N.length - (ds.length + 1)) Sl.no) = S := by
        have z : muts (ds.map Sl.da ++ List.replicate (N.length - (ds.length + 1)) Sl.no) = [] := by
          apply List.eq_nil_iff_forall_not_mem.mpr
          intro b m
          obtain ⟨i, l, o, e⟩ := mem_muts.mp m
          exact nm i l b o e
        show S ++ muts _ = S
        rw [z, List.append_nil]
      rw [hh] at ok
      have := slOk_mono (H' := H) e1 (fun _ _ => rfl) ok
      cases s with
      | mu l b o => exact absurd e (nm i l b o)
      | _ => exact this
theorem fn_draws {K : PySem.W.Frag} {R : List PyData → (PyData → Prop) → Prop} {N : List Str} {ts : TS} (hN : ∀ ds Φ, R ds Φ → ds.length + 1 ≤ N.length)
    (h : ∀ (B : Hp) (S : List Addr) (a : Addr) (ds : List PyData) (Φ : PyData → Prop), R ds Φ → ∀ D : Ends, RtW ⟨K, B, [a], S⟩ a Φ D.rt → Ss ⟨K, B, [a], S⟩ [] (.mu false a (.any StOk) :: (ds.map .da ++ List.replicate (N.length - (ds.length + 1)) .no)) ts D)
    (vs : List V) (H : Hp) (Q : VK) (E : XK) (hs : SpW K R vs H Q E) : ts { nx := fun _ H' => Q .non H', rt := Q } (L2.start N vs) H := by
  obtain ⟨S, a, vs', ds, Φ, rfl, hm, hd, mo, da, hR, q⟩ := hs
  refine h H S a ds Φ hR { nx := fun _ H' => Q .non H', rt := Q } (fun d hd v H' k ms dp => q d v H' hd (fun b o n e => k b o (by simpa using n) e) (ms (a, .any StOk) (List.mem_cons_self ..)) dp) _ _ (startW hd hm mo da (hN _ _ hR))
theorem spW_len {K : PySem.W.Frag} {Rl : List PyData → (PyData → Prop) → Prop} {ps : List Str} (h : ∀ ds Φ, Rl ds Φ → ds.length + 1 = ps.length) : ∀ vs H Q, SpW K Rl vs H Q E0 → vs.length = ps.length := fun vs H Q ⟨S, a, vs', ds, Φ, e, _, _, _, da, r, _⟩ => by
  rw [e, List.length_cons, dpa_length da]; exact h ds Φ r
/-! ### a def that returns a new list -/
def SpL (K : PySem.W.Frag) (R : List PyData → List PyData → Prop) : Sp := fun vs H Q _ => ∃ (S : List Addr) (ds es : List PyData), (∀ a ∈ S, ∃ o, H a = some o) ∧ DzAll K (hide S H) vs ds ∧ R ds es ∧
  ∀ p H', Ex H H' → H p = none → MoOk K (p :: S) H' p (.lst es) → Q (.ref p) H'
theorem spL_len {K : PySem.W.Frag} {Rl : List PyData → List PyData → Prop} {ps : List Str} (h : ∀ ds d, Rl ds d → ds.length = ps.length) : ∀ vs H Q, SpL K Rl vs H Q E0 → vs.length = ps.length := fun vs H Q ⟨S, ds, d, _, a, r, _⟩ => (dpa_length a).trans (h ds d r)
def RtL (c : Cz) (es : List PyData) (rt : VK) : Prop := ∀ p H', (∀ a o, a ∉ c.M → c.B a = some o → H' a = some o) → c.B p = none → MoOk c.K (p :: c.S0) H' p (.lst es) → rt (.ref p) H'
theorem s_retL {c : Cz} {T : Tm} {ρ ρ1 : List Sl} {te : TE} {es : List PyData} {D : Ends} (h : EdL c ρ te es ρ1) (hr : RtL c es D.rt) : Ss c T ρ (tRet te) D := fun σ H W => h T σ H W _ fun p H1 hB hn mo W1 => hr p H1 W1.keep hB (by
  obtain ⟨xs, h1, h2⟩ := mo
  exact ⟨xs, h1, dpam (hide_mono fun a o n h => ⟨fun m => n (by
    rcases List.mem_cons.mp m with e | m
    · rw [e]; exact List.mem_cons_self ..
    · exact List.mem_cons_of_mem _ (List.mem_append_left _ m)), h⟩) h2⟩)
theorem fn_new {K : PySem.W.Frag} {R : List PyData → List PyData → Prop} {N : List Str} {ts : TS} (hN : ∀ ds d, R ds d → ds.length ≤ N.length)
    (h : ∀ (B : Hp) (S : List Addr) (ds es : List PyData), R ds es → ∀ D : Ends, RtL ⟨K, B, [], S⟩ es D.rt → Ss ⟨K, B, [], S⟩ [] (ds.map .da ++ List.replicate (N.length - ds.length) .no) ts D)
    (vs : List V) (H : Hp) (Q : VK) (E : XK) (hs : SpL K R vs H Q E) : ts { nx := fun _ H' => Q .non H', rt := Q } (L2.start N vs) H := by
  obtain ⟨S, ds, es, hd, a, hR, q⟩ := hs
  exact h H S ds es hR { nx := fun _ H' => Q .non H', rt := Q } (fun p H' k hB mo => q p H' (fun a o e => k a o (fun m => nomatch m) e) hB mo) _ _ (start_wd (M := []) hd a (hN _ _ hR))
theorem Wd.hideNew' {c : Cz} {T : Tm} {H H' : Hp} {σ : L2.St} {ρ : List Sl} {p : Addr} {o : HO} (W : Wd c T H σ ρ) (e : Ex H H') (h : H p = none) (h' : H' p = some o) : Wd (c.hidden p) T H' σ ρ := by
  have W2 := W.grow e
  have n := W.fresh h
  have e2 : Ex (hide (hid c ρ) H) (hide (hid (c.hidden p) ρ) H') := hide_mono fun a u m q => ⟨fun z => by
    rcases List.mem_cons.mp z with z | z
    · rw [z, h] at q; cases q
    · exact m z, e a u q⟩
  refine ⟨W.len, W2.keep, fun a m => List.mem_cons_of_mem _ (W.sub a m), fun a m => ?_, fun q hq => dpm e2 (W.tmp q hq), W.inj, fun i a u q m => ?_, fun i s m => ?_⟩
  · rcases List.mem_cons.mp m with m | m
    · rw [m]; exact ⟨o, h'⟩
    · exact W2.dom a m
  · rcases List.mem_cons.mp m with m | m
    · obtain ⟨z, hz⟩ := (W.ok i _ q).2.2.there
      rw [m, h] at hz; cases hz
    · exact W.ap i a u q m
  · have := slOk_mono (c := c) (H' := H') e2 (fun a q => by
      cases s with
      | mu l b o' =>
        cases q
        obtain ⟨u, hu⟩ := (W.ok i _ m).2.2.there
        rw [hu, e _ _ hu]
      | _ => cases q) (W.ok i s m)
    cases s <;> exact this
theorem el_callL {c : Cz} {ρ ρ1 : List Sl} {R : List PyData → List PyData → Prop} {ts : TA} {ds es : List PyData} {E : XK} (h : Ea c ρ ts (ds.map .dat) ρ1) (hR : R ds es) : EdL c ρ (tCall (SpL c.K R) [] E ts) es ρ1 := fun T σ H W Q q => h T σ H W _ fun vs H1 a W1 => by
  rw [List.append_nil]
  refine ⟨hid c ρ1, ds, es, fun a h => W1.there h, aa_dats a, hR, fun p H' e hp mo => ?_⟩
  obtain ⟨xs, h1, h2⟩ := mo
  exact q p H' (W1.freshB hp) (W1.fresh hp) ⟨xs, h1, h2⟩ (W1.hideNew' e hp h1)
/-! #### a[i] op= b -/
section
variable {X : Cx}
theorem get_listG : PGet X (rGetG X.K) := by
  intro pins s σ H x y v u Q I rx ry h
  obtain ⟨p, xs, i, z, rfl, rfl, hq, he, q⟩ := h
  cases rx
  obtain ⟨t, rfl⟩ := ry
  obtain ⟨its, r, pl, hz⟩ := I.list hq
  obtain ⟨j, h1, h2, h3, h4, h5⟩ := atI_get he
  obtain ⟨w, ew, rw'⟩ := r.get h2
  have hl := r.length
  have hn := line63
  have fin : EP X pins σ Q w s := ⟨z, H, I, rw', q⟩
  by_cases h0 : 0 ≤ i
  · have hj : i.toNat = j := by
      rw [seqIndex_of h0 h5] at h1
      exact Option.some.inj h1
    exact PySem.wpAny_getItem_list pl.isList h0 (by omega) (by rw [hj]; simpa using ew) fin
  · have hj : (i + (its.toArray.size : Int)).toNat = j := by
      rw [seqIndex_neg (by omega) h4] at h1
      rw [List.size_toArray, ← hl]
      exact Option.some.inj h1
    exact PySem.wpAny_getItem_list_neg pl.isList (by omega) (by rw [List.size_toArray] <;> omega) (by omega) (by rw [hj]; simpa using ew) fin
theorem ix_any : IxR X (fun x y H Q => rIxL X.K x y H Q ∨ rIxT X.K x y H Q) := ix_list.or ix_tup
end
section
variable {c : Cz} {ρ ρ1 ρ2 : List Sl} {ta tb te : TE} {d : PyData} {T : Tm} {D : Ends} {nx bk ct : L2.St → Hp → Prop} {rt : VK}
theorem s_augSX {i : Nat} {l : Bool} {a : Addr} {f : Int → Int → Int} {xs : List Int} {j y : Int} (hj : Ed c ρ tb (.int j) ρ1) (h : Ed c ρ1 te (.int y) ρ2) (h0 : ∃ l o, ρ[i]? = some (.mu l a o)) (ha : ρ1[i]? = some (.mu l a (.lst (xs.map .int))))
    (ha2 : ρ2[i]? = some (.mu l a (.lst (xs.map .int)))) (hn : 0 ≤ j ∧ j < xs.length) (k : Sk c T (ρ2.set i (.mu l a (.lst ((xs.set j.toNat (f (ixG xs j) y)).map .int)))) nx) : Ss c T ρ (tAugS (tVar i) tb te (rGetG c.K) (ipI f) rSetL) ⟨nx, rt, bk, ct⟩ := fun σ H W => by
  obtain ⟨l0, o0, h0⟩ := h0
  refine ⟨.ref a, (W.ok i _ h0).1, hj T σ H W _ fun w H1 W1 => ?_⟩
  obtain ⟨_, _, ys, h1, h2⟩ := W1.ok i _ ha
  have hix : atI (xs.map PyData.int) j = some (PyData.int (ixG xs j)) := ix_some (f := PyData.int) ⟨by omega, hn.2⟩
  obtain ⟨v, h3, h4⟩ := atI_dp h2 hix
  refine ⟨a, ys, j, v, rfl, dp_int W1.dp, sq_of h1, h3, h _ σ H1 W1 _ fun w2 H2 W2 => ⟨ixG xs j, y, dp_int h4, dp_int W2.dp, ?_⟩⟩
  obtain ⟨_, _, zs, h5, h6⟩ := W2.ok i _ ha2
  refine ⟨a, zs, j, j.toNat, rfl, dp_int W2.pop.dp, h5, by rw [dpa_length h6]; exact ixN_nn (by rw [List.length_map]; exact hn), ?_⟩
  refine k _ _ (W2.pop.pop.updM ha2 ⟨zs.set j.toNat (.int (f (ixG xs j) y)), upd_same, ?_⟩)
  have hm : a ∈ hid c ρ2 := List.mem_append_right _ (mem_muts.mpr ⟨i, l, _, ha2⟩)
  have e5 : Ex (hide (hid c ρ2) H2) (hide (hid c ρ2) (upd H2 a (.lst (zs.set j.toNat (.int (f (ixG xs j) y)))))) := hide_mono fun b o nb e => ⟨nb, by rw [upd_ne (fun q => nb (by rw [q]; exact hm))]; exact e⟩
  rw [List.map_set]
  exact dpam e5 (dpa_set _ h6 (.int _))
end
/-! #### drawing, picking -/
def R_draw : List PyData → (PyData → Prop) → Prop := fun ds Φ => ∃ many : Int, ds = [.int many] ∧ 0 < many ∧ many < 2 ^ 30 ∧ ∀ x : Int, (0 ≤ x ∧ x < many) → Φ (.int x)
def R_pick : List PyData → (PyData → Prop) → Prop := fun ds Φ => ∃ l : List PyData, (ds = [.list l] ∨ ds = [.tuple l]) ∧ 0 < l.length ∧ l.length < 2 ^ 30 ∧ ∀ d ∈ l, Φ d
def seedOf (script : List Int) : Nat := script.foldl (fun seed cell => (((seed : Int) * 48271 + cell) % 2147483629).toNat + 1) 7
theorem seedOf_step {script : List Int} {i : Nat} {x : Int} (h : script[i]? = some x) : ((seedOf (script.take i) : Nat) : Int) * 48271 + x = ((seedOf (script.take i) : Nat) : Int) * 48271 + x ∧ ((((seedOf (script.take i) : Nat) : Int) * 48271 + x) % 2147483629 + 1 = ((seedOf (script.take (i + 1)) : Nat) : Int)) := by
  refine ⟨rfl, ?_⟩
  unfold seedOf
  rw [List.take_add_one, h, List.foldl_append]
  simp only [Option.toList, List.foldl_cons, List.foldl_nil]
  have := Int.emod_nonneg ((List.foldl (fun seed cell => (((seed : Int) * 48271 + cell) % 2147483629).toNat + 1) 7 (script.take i) : Nat) * 48271 + x) (show (2147483629 : Int) ≠ 0 by decide)
  omega
section
variable {c : Cz} {ρ ρ1 ρ2 : List Sl} {ta tb te : TE} {α β γ : Type} {P : α → Prop}
theorem ew_draw {i : Nat} {l : Bool} {a : Addr} {P : Int → Prop} {E : XK} (h : Ew c ρ te PyData.int P ρ1) (hi0 : ρ[i]? = some (.mu l a (.any StOk))) (hi : ρ1[i]? = some (.mu l a (.any StOk))) (hp : ∀ m, P m → 0 < m ∧ m < 2 ^ 30) :
    Ew c ρ (tCall (SpW c.K R_draw) [] E (tCons (tVar i) (tCons te tNil))) PyData.int (fun x => ∃ m, P m ∧ 0 ≤ x ∧ x < m) ρ1 :=
  ew_imp (ew_callW (e := PyData.int) (P3 := fun (p : Int × Unit) x => 0 ≤ x ∧ x < p.1) (ds := fun p : Int × Unit => [.int p.1]) (ewa_raw hi0 (ewa_cons h ewa_nil)) hi (fun x px => ⟨x.1, rfl, (hp _ px.1).1, (hp _ px.1).2, fun y hy => ⟨y, hy, rfl⟩⟩)) fun y ⟨p, hp, hy⟩ => ⟨p.1, hp.1, hy⟩
theorem mem_ix {l : List PyData} {x : Int} {d : PyData} (h : atI l x = some d) : d ∈ l := by
  unfold atI at h
  cases q : ixN l.length x with
  | none => rw [q] at h; cases h
  | some j => rw [q] at h; exact List.mem_of_getElem? h
theorem ew_ixAny {ds : List PyData} {s : PyData} {P : Int → Prop} (hs : s = .list ds ∨ s = .tuple ds) (ha : Ed c ρ ta s ρ1) (hb : Ew c ρ1 tb PyData.int P ρ2) (hp : ∀ x, P x → 0 ≤ x ∧ x < ds.length) :
    Ew c ρ (tOp (fun x y H Q => rIxL c.K x y H Q ∨ rIxT c.K x y H Q) ta tb) (fun d => d) (fun d => d ∈ ds) ρ2 := fun T σ H W Q q => ha T σ H W _ fun v H1 W1 => hb _ σ H1 W1 _ fun x w H2 px W2 => by
  have hx := hp x px
  obtain ⟨d0, e⟩ : ∃ d0, atI ds x = some d0 := ⟨ds[x.toNat]'(by omega), by
    unfold atI; rw [ixN_nn hx]
    show ds[x.toNat]? = _
    exact List.getElem?_eq_getElem (by omega)⟩
  rcases hs with rfl | rfl
  · obtain ⟨a, xs, rfl, hs, h2⟩ := dp_lst W2.pop.dp
    obtain ⟨z, h3, h4⟩ := atI_dp h2 e
    exact .inl ⟨a, xs, x, z, rfl, dp_int W2.dp, ex_l (hide_ex _ _) hs, h3, q _ z H2 (mem_ix e) (W2.pop.pop.push h4)⟩
  · obtain ⟨a, xs, rfl, hs, h2⟩ := dp_tup W2.pop.dp
    obtain ⟨z, h3, h4⟩ := atI_dp h2 e
    exact .inr ⟨a, xs, x, z, rfl, dp_int W2.dp, (ex_p (hide_ex _ _) hs).sq, h3, q _ z H2 (mem_ix e) (W2.pop.pop.push h4)⟩
/-- _law_pick(state, list) -/
theorem ew_pickL {i : Nat} {l : Bool} {a : Addr} {f : α → PyData} {P : List α → Prop} {E : XK} (h : Ew c ρ te (fun l : List α => .list (l.map f)) P ρ1) (hi0 : ρ[i]? = some (.mu l a (.any StOk))) (hi : ρ1[i]? = some (.mu l a (.any StOk))) (hp : ∀ m, P m → 0 < m.length ∧ m.length < 2 ^ 30) :
    Ew c ρ (tCall (SpW c.K R_pick) [] E (tCons (tVar i) (tCons te tNil))) f (fun x => ∃ m, P m ∧ x ∈ m) ρ1 :=
  ew_imp (ew_callW (e := f) (P3 := fun (p : List α × Unit) x => x ∈ p.1) (ds := fun p : List α × Unit => [.list (p.1.map f)]) (ewa_raw hi0 (ewa_cons h ewa_nil)) hi (fun x px => ⟨x.1.map f, .inl rfl, by rw [List.length_map]; exact (hp _ px.1).1, by rw [List.length_map]; exact (hp _ px.1).2, fun d hd => by
    obtain ⟨z, hz, e⟩ := List.mem_map.mp hd
    exact ⟨z, hz, e.symm⟩⟩)) fun y ⟨p, hp, hy⟩ => ⟨p.1, hp.1, hy⟩
theorem ew_pickT {i : Nat} {l : Bool} {a : Addr} {f : α → PyData} {P : List α → Prop} {E : XK} (h : Ew c ρ te (fun l : List α => .tuple (l.map f)) P ρ1) (hi0 : ρ[i]? = some (.mu l a (.any StOk))) (hi : ρ1[i]? = some (.mu l a (.any StOk))) (hp : ∀ m, P m → 0 < m.length ∧ m.length < 2 ^ 30) :
    Ew c ρ (tCall (SpW c.K R_pick) [] E (tCons (tVar i) (tCons te tNil))) f (fun x => ∃ m, P m ∧ x ∈ m) ρ1 :=
  ew_imp (ew_callW (e := f) (P3 := fun (p : List α × Unit) x => x ∈ p.1) (ds := fun p : List α × Unit => [.tuple (p.1.map f)]) (ewa_raw hi0 (ewa_cons h ewa_nil)) hi (fun x px => ⟨x.1.map f, .inr rfl, by rw [List.length_map]; exact (hp _ px.1).1, by rw [List.length_map]; exact (hp _ px.1).2, fun d hd => by
    obtain ⟨z, hz, e⟩ := List.mem_map.mp hd
    exact ⟨z, hz, e.symm⟩⟩)) fun y ⟨p, hp, hy⟩ => ⟨p.1, hp.1, hy⟩
end
end Nz

/-! what gen.py names for defs that draw -/
namespace Nz
open PySem PySem.Spec PyProof.Rows L2 RZ
section
variable {c : Cz} {ρ ρ1 ρ2 ρ3 : List Sl} {ta tb te tx : TE} {t u : TT} {d d1 d2 d3 : PyData} {T : Tm} {H H' : Hp} {σ : L2.St}
variable {α β γ : Type} {f : α → PyData} {g : β → PyData} {e : γ → PyData} {P : α → Prop} {P2 : β → Prop} {P3 : γ → Prop}
theorem ew_drawD {i : Nat} {l : Bool} {a : Addr} {m : Int} {E : XK} (h : Ed c ρ te (.int m) ρ1) (hi0 : ρ[i]? = some (.mu l a (.any StOk))) (hi : ρ1[i]? = some (.mu l a (.any StOk))) (hp : 0 < m ∧ m < 2 ^ 30) :
    Ew c ρ (tCall (SpW c.K R_draw) [] E (tCons (tVar i) (tCons te tNil))) PyData.int (fun x => 0 ≤ x ∧ x < m) ρ1 :=
  ew_imp (ew_draw (ew_det (f := PyData.int) h) hi0 hi (fun n e => by subst e; exact hp)) fun x ⟨n, e, hx⟩ => by subst e; exact hx
theorem ew_pickLD {i : Nat} {l : Bool} {a : Addr} {f : α → PyData} {m : List α} {E : XK} (h : Ed c ρ te (.list (m.map f)) ρ1) (hi0 : ρ[i]? = some (.mu l a (.any StOk))) (hi : ρ1[i]? = some (.mu l a (.any StOk))) (hp : 0 < m.length ∧ m.length < 2 ^ 30) :
    Ew c ρ (tCall (SpW c.K R_pick) [] E (tCons (tVar i) (tCons te tNil))) f (fun x => x ∈ m) ρ1 :=
  ew_imp (ew_pickL (f := f) (ew_det (f := fun l : List α => .list (l.map f)) h) hi0 hi (fun n e => by subst e; exact hp)) fun x ⟨n, e, hx⟩ => by subst e; exact hx
theorem ew_pickTD {i : Nat} {l : Bool} {a : Addr} {f : α → PyData} {m : List α} {E : XK} (h : Ed c ρ te (.tuple (m.map f)) ρ1) (hi0 : ρ[i]? = some (.mu l a (.any StOk))) (hi : ρ1[i]? = some (.mu l a (.any StOk))) (hp : 0 < m.length ∧ m.length < 2 ^ 30) :
    Ew c ρ (tCall (SpW c.K R_pick) [] E (tCons (tVar i) (tCons te tNil))) f (fun x => x ∈ m) ρ1 :=
  ew_imp (ew_pickT (f := f) (ew_det (f := fun l : List α => .tuple (l.map f)) h) hi0 hi (fun n e => by subst e; exact hp)) fun x ⟨n, e, hx⟩ => by subst e; exact hx
theorem ew_callWD {R : List PyData → (PyData → Prop) → Prop} {ts : TA} {ds : List PyData} {E : XK} {i : Nat} {l : Bool} {a : Addr} (h : Ea c ρ ts (.raw (.ref a) :: ds.map .dat) ρ1) (hi : ρ1[i]? = some (.mu l a (.any StOk)))
    (hR : R ds (fun d => ∃ z, P3 z ∧ d = e z)) : Ew c ρ (tCall (SpW c.K R) [] E ts) e P3 ρ1 :=
  ew_imp (ew_callW (e := e) (P3 := fun (_ : Unit) z => P3 z) (ds := fun _ => ds) (ewa_det (x := ()) (as := fun _ => .raw (.ref a) :: ds.map .dat) h) hi (fun _ _ => hR)) fun z ⟨_, _, hz⟩ => hz
theorem ed_sumM {xs : List Int} {j : Nat} {l : Bool} {a : Addr} (ha : ρ[j]? = some (.mu l a (.lst (xs.map .int)))) : Ed c ρ (tCB (rSumT c.K) (tCons (tVar j) tNil)) (.int xs.sum) ρ := fun T σ H W Q q => by
  obtain ⟨h0, _, ys, h1, h2⟩ := W.ok j _ ha
  have := dpaInts h2
  subst this
  exact ⟨.ref a, h0, a, xs, rfl, .inr (sq_of h1), q _ H (W.push (.int _))⟩
theorem el_lcW1 {δ : Type} {wi : TI} {g : TG} {vs : List Nat} {xs : List δ} {ea : δ → Itm} {eb : γ → PyData} {R : δ → γ → Prop} (h : Ei c ρ wi (xs.map ea) ρ1) (hsz : xs.length ≤ 100000) (hvs : ∀ j ∈ vs, ρ1[j]? = some .no)
    (turn : ∀ (S : List Addr) (B : Hp) (x : δ), x ∈ xs → ∃ ρa, Nz.wipeS ρa vs = ρ1 ∧ Eg (c.at S B) g (ea x) ρ1 ρa vs ∧ Ew (c.at S B) ρa te eb (R x) ρa) :
    EwL c ρ (tLc wi g tYes te vs) (fun l : List γ => l.map eb) (fun l => Fa R xs l) ρ1 := fun T σ H W Q q =>
  el_lcW (xs := fun _ : Unit => xs) (R := fun _ => R) (eiw_det (x := ()) (its := fun _ => xs.map ea) h) (fun _ _ => hsz) hvs (fun S B _ x _ hx => turn S B x hx) T σ H W Q fun l p H' ⟨_, _, hf⟩ => q l p H' hf
variable {D : Ends} {nx bk ct : L2.St → Hp → Prop} {rt : VK}
theorem s_retP (h : Ew c ρ te f P ρ1) (hr : ∀ x, P x → Rt c (f x) [] D.rt) : Ss c T ρ (tRet te) D := fun σ H W => h T σ H W _ fun x v H1 px W1 => hr x px v H1 W1.keep (fun _ hp => by cases hp) (dpm hide_S0 W1.dp)
/-- the first state of a law -/
theorem s_state {i : Nat} {l : List Int} {s : Nat} (h : EdL c ρ te [.list (l.map .int), .int 0, .int 0, .int (s : Int)] ρ1) (k : ∀ p, Sk c T (ρ1.set i (.mu true p (.any StOk))) nx) : Ss c T ρ (tAsg te (gName i)) ⟨nx, rt, bk, ct⟩ :=
  s_asgM (i := i) h fun p σ H W => k p σ H (W.le ⟨by simp, fun j s s' h1 h2 => by
    rcases get_set h2 with ⟨rfl, hi, e⟩ | ⟨q, e⟩
    · rw [List.getElem?_set_self hi] at h1
      cases h1; subst e
      exact ⟨rfl, rfl, .inr ⟨_, _, rfl, rfl, ⟨l, 0, 0, _, rfl⟩⟩⟩
    · rw [List.getElem?_set_ne q] at h1
      rw [h1] at e; cases e
      exact slLe_refl _⟩)
end
end Nz

/-! lists or tuples; pairs that are quotients -/
namespace Nz
open PySem PySem.Spec PyProof.Rows L2 RZ
def eS {α : Type} (f : α → PyData) : Bool × List α → PyData
  | (true, l) => eL f l
  | (false, l) => eT f l
abbrev qp (r : Rat) : Int × Int := (r.num, (r.den : Int))
def qv (p : Int × Int) : Rat := Rat.divInt p.1 p.2
theorem qv_qp (r : Rat) : qv (qp r) = r := Rat.num_divInt_den r
section
variable {X : Cx} {e : Expr} {te : TE}
def iSeq (K : PySem.W.Frag) (te : TE) : TI := fun σ H R => iList K te σ H R ∨ iTup K te σ H R
theorem pi_seq {tg : Expr} (h : PE X e te) : PI X tg e (iSeq X.K te) := ⟨fun pins s σ H R I q => by
  rcases q with q | q
  · exact (pi_list h).run pins s σ H R I q
  · exact (pi_tup h).run pins s σ H R I q⟩
end
section
variable {c : Cz} {ρ ρ1 ρ2 : List Sl} {ta tb te : TE} {d : PyData} {T : Tm} {D : Ends} {nx bk ct : L2.St → Hp → Prop} {rt : VK}
theorem ei_seqX {α : Type} {f : α → PyData} {p : Bool × List α} (h : Ed c ρ te (eS f p) ρ1) : Ei c ρ (iSeq c.K te) (p.2.map fun x => Itm.hard (f x)) ρ1 := by
  obtain ⟨b, l⟩ := p
  cases b with
  | true => exact fun T σ H W R q => .inl (ei_listX (l := l) (f := f) h T σ H W R q)
  | false => exact fun T σ H W R q => .inr (ei_tupX (l := l) (f := f) h T σ H W R q)
/-- a, b = new list that will change, data -/
theorem s_parM1 {i j : Nat} {ds : List PyData} {y : PyData} (h : EdL c ρ ta ds ρ1) (h2 : ∀ S B, Ed (c.at S B) ρ1 tb y ρ1) (hij : i ≠ j) (k : ∀ p, Sk c T ((ρ1.set i (.mu true p (.lst ds))).set j (.da y)) nx) : Ss c T ρ (tPar i j (tCons ta (tCons tb tNil))) ⟨nx, rt, bk, ct⟩ := fun σ H W =>
  h T σ H W _ fun p H1 hB hn mo W1 => by
    obtain ⟨xs, hx, dx⟩ := mo
    have hs := W.sub
    have nS : p ∉ c.S0 := fun m => hn (List.mem_append_left _ m)
    have W2 : Wd (c.at (p :: c.S0) (upd c.B p (.lst xs))) (xs.zip ds ++ T) H1 σ ρ1 := (W1.pin hx hB hs nS).pushAll dx
    refine h2 _ _ _ σ H1 W2 _ fun v H2 W3 => ?_
    have lx := dpa_length dx
    obtain ⟨hp2, W4⟩ := W3.unpin hB (fun m => nS (hs p m))
    have hn4 := W4.notin nS hs
    have dx2 := Wd.allOf (T := T) lx W4.pop
    have W5 := W4.setM hs i (l := true) (o := .lst ds) (by rw [if_pos rfl]; exact hB) hn4 ⟨xs, hp2, dx2⟩
    have dy : Dz c.K (hide (hid c (ρ1.set i (.mu true p (.lst ds)))) H2) v y := W5.tmp (v, y) (List.mem_cons_self ..)
    have W6 := W5.setD j dy
    refine ⟨.ref p, v, rfl, ?_⟩
    exact k p _ _ (W6.tmps fun q hq => List.mem_cons_of_mem _ (List.mem_append_right _ hq))
end
end Nz

/-! the mathematics of quotients, for the defs that all laws share -/
namespace Nz
open PySem PySem.Spec PyProof.Rows L2 RZ

abbrev eN (n : Nat) : PyData := .int (n : Int)
def isIntD (d : PyData) : Bool := isi_int d && !isi_bool d
theorem gcd_turn (a b : Nat) : Nat.gcd b (a % b) = Nat.gcd a b := by rw [Nat.gcd_comm b, ← Nat.gcd_rec, Nat.gcd_comm]
theorem gcd_end {a b : Nat} {n : Nat} (h : Nat.gcd a b = n) (hb : decide ((0 : Int) < (b : Int)) = false) : PyData.int (a : Int) = eN n := by
  have : b = 0 := by have := of_decide_eq_false hb; omega
  subst this
  rw [Nat.gcd_zero_right] at h
  rw [h]
/-- both parts below 2 ^ 4400 -/
def Qb (r : Rat) : Prop := r.num.natAbs < 2 ^ 4400 ∧ r.den < 2 ^ 4400
theorem quo_gcd {a b : Int} (h : b ≠ 0) : 0 < (Nat.gcd a.natAbs b.natAbs : Int) := by
  have := Nat.gcd_pos_of_pos_right a.natAbs (show 0 < b.natAbs by omega)
  omega
theorem quo_le {a b : Int} (h : b ≠ 0) : Nat.gcd a.natAbs b.natAbs ≤ b.natAbs := Nat.le_of_dvd (by omega) (Nat.gcd_dvd_right _ _)
theorem eN_abs {i : Int} (h : 0 ≤ i) : PyData.int i = eN i.natAbs := by
  show PyData.int i = PyData.int (i.natAbs : Int)
  rw [show (i.natAbs : Int) = i by omega]
theorem quo_div {a b : Int} (h : b ≠ 0) (h2 : b.natAbs < 2 ^ 8999) {i : Int} : CDivG i (Nat.gcd a.natAbs b.natAbs : Int) := by
  have h3 := quo_le (a := a) h
  exact div_b (quo_gcd h) (Nat.lt_of_le_of_lt (by omega) h2)
theorem quo_num (a b : Int) (h : 0 < b) : (Rat.divInt a b).num = a / (Nat.gcd a.natAbs b.natAbs : Int) := by
  rw [Rat.num_divInt, Int.sign_eq_one_of_pos h, Int.one_mul, Int.gcd_comm]; rfl
theorem quo_den (a b : Int) (h : 0 < b) : ((Rat.divInt a b).den : Int) = b / (Nat.gcd a.natAbs b.natAbs : Int) := by
  rw [Rat.den_divInt, if_neg (by omega), Int.gcd_comm]
  show ((b.natAbs / Nat.gcd a.natAbs b.natAbs : Nat) : Int) = _
  rw [Int.natCast_ediv, show (b.natAbs : Int) = b by omega]
theorem quo_pos {a b : Int} (h0 : b ≠ 0) (h : decide (b < 0) = false) : PyData.tuple [.int (a / (Nat.gcd a.natAbs b.natAbs : Int)), .int (b / (Nat.gcd a.natAbs b.natAbs : Int))] = eQ (Rat.divInt a b) := by
  have hb : 0 < b := by have := of_decide_eq_false h; omega
  show _ = PyData.tuple [.int _, .int _]
  rw [quo_num a b hb, quo_den a b hb]
theorem quo_neg {a b : Int} (h : decide (b < 0) = true) : PyData.tuple [.int ((-a) / (Nat.gcd (-a).natAbs (-b).natAbs : Int)), .int ((-b) / (Nat.gcd (-a).natAbs (-b).natAbs : Int))] = eQ (Rat.divInt a b) := by
  have hb : 0 < -b := by have := of_decide_eq_true h; omega
  rw [← Rat.neg_divInt_neg]
  show _ = PyData.tuple [.int _, .int _]
  rw [quo_num (-a) (-b) hb, quo_den (-a) (-b) hb]
theorem den_ne (a : Rat) : (a.den : Int) ≠ 0 := by have := a.den_nz; omega
theorem q_add (a b : Rat) : Rat.divInt (a.num * b.den + b.num * a.den) (a.den * b.den) = a + b := by
  rw [Rat.add_def', ← Rat.divInt_ofNat]; push_cast; rfl
theorem q_sub (a b : Rat) : Rat.divInt (a.num * b.den - b.num * a.den) (a.den * b.den) = a - b := by
  rw [Rat.sub_def', ← Rat.divInt_ofNat]; push_cast; rfl
theorem q_mul (a b : Rat) : Rat.divInt (a.num * b.num) (a.den * b.den) = a * b := by
  rw [Rat.mul_def', ← Rat.divInt_ofNat]; push_cast; rfl
theorem q_div (a b : Rat) : Rat.divInt (a.num * b.den) (a.den * b.num) = a / b := by
  rw [Rat.div_def, Rat.inv_def]
  conv => rhs; rw [← Rat.num_divInt_den a, Rat.divInt_mul_divInt]
theorem den_nz2 (a b : Rat) : (a.den : Int) * (b.den : Int) ≠ 0 := Int.mul_ne_zero (den_ne a) (den_ne b)
theorem num_ne {b : Rat} (h : b ≠ 0) : b.num ≠ 0 := fun e => h (Rat.num_eq_zero.mp e)
theorem den_nz3 (a : Rat) {b : Rat} (h : b ≠ 0) : (a.den : Int) * b.num ≠ 0 := Int.mul_ne_zero (den_ne a) (num_ne h)
theorem lt_pow {a b : Nat} (ha : a < 2 ^ 4400) (hb : b < 2 ^ 4400) : a * b < 2 ^ 8999 :=
  Nat.lt_of_lt_of_le (Nat.mul_lt_mul'' ha hb) (by rw [← Nat.pow_add]; exact Nat.pow_le_pow_right (by decide) (by decide))
theorem den_lt2 {a b : Rat} (ha : Qb a) (hb : Qb b) : ((a.den : Int) * (b.den : Int)).natAbs < 2 ^ 8999 := by
  rw [Int.natAbs_mul]; exact lt_pow ha.2 hb.2
theorem den_lt3 {a b : Rat} (ha : Qb a) (hb : Qb b) : ((a.den : Int) * b.num).natAbs < 2 ^ 8999 := by
  rw [Int.natAbs_mul]; exact lt_pow ha.2 hb.1
theorem mul_nd {a b : Rat} (ha : Qb a) (hb : Qb b) : IntMulOk a.num (b.den : Int) := mul_b ha.1 (show ((b.den : Int)).natAbs < 2 ^ 4400 from hb.2)
theorem mul_dn {a b : Rat} (ha : Qb a) (hb : Qb b) : IntMulOk (a.den : Int) b.num := mul_b (show ((a.den : Int)).natAbs < 2 ^ 4400 from ha.2) hb.1
theorem mul_dd {a b : Rat} (ha : Qb a) (hb : Qb b) : IntMulOk (a.den : Int) (b.den : Int) := mul_b (show ((a.den : Int)).natAbs < 2 ^ 4400 from ha.2) (show ((b.den : Int)).natAbs < 2 ^ 4400 from hb.2)
theorem mul_nn {a b : Rat} (ha : Qb a) (hb : Qb b) : IntMulOk a.num b.num := mul_b ha.1 hb.1
end Nz

set_option exponentiation.threshold 10000
/-! quotients: sizes -/
namespace Nz
open PySem PySem.Spec PyProof.Rows L2 RZ
/-- both parts at most 2 ^ k -/
def Qk (k : Nat) (r : Rat) : Prop := r.num.natAbs ≤ 2 ^ k ∧ r.den ≤ 2 ^ k
theorem Qk.mono {j k : Nat} {r : Rat} (h : Qk j r) (hk : j ≤ k) : Qk k r := ⟨Nat.le_trans h.1 (Nat.pow_le_pow_right (by decide) hk), Nat.le_trans h.2 (Nat.pow_le_pow_right (by decide) hk)⟩
theorem Qk.qb {k : Nat} {r : Rat} (h : Qk k r) (hk : k < 4400) : Qb r := ⟨Nat.lt_of_le_of_lt h.1 (Nat.pow_lt_pow_right (by decide) hk), Nat.lt_of_le_of_lt h.2 (Nat.pow_lt_pow_right (by decide) hk)⟩
theorem Qk.gd {k : Nat} {r : Rat} (h : Qk k r) (hk : k < 1900) : Gd 1 1209 (eQ r) := gd_Q (Nat.lt_of_le_of_lt h.1 (Nat.pow_lt_pow_right (by decide) hk)) (Nat.lt_of_le_of_lt h.2 (Nat.pow_lt_pow_right (by decide) hk))
theorem div_natAbs_le {a : Int} {g : Nat} : (a / (g : Int)).natAbs ≤ a.natAbs := Int.natAbs_ediv_le_natAbs _ _
theorem divInt_le (a b : Int) (h : 0 < b) : (Rat.divInt a b).num.natAbs ≤ a.natAbs ∧ (Rat.divInt a b).den ≤ b.natAbs := by
  rw [quo_num a b h]
  refine ⟨div_natAbs_le, ?_⟩
  have := quo_den a b h
  have h2 := div_natAbs_le (a := b) (g := Nat.gcd a.natAbs b.natAbs)
  rw [← this] at h2
  exact h2
theorem Qk_divInt {k : Nat} {a b : Int} (h : 0 < b) (ha : a.natAbs ≤ 2 ^ k) (hb : b.natAbs ≤ 2 ^ k) : Qk k (Rat.divInt a b) := by
  obtain ⟨h1, h2⟩ := divInt_le a b h
  exact ⟨Nat.le_trans h1 ha, Nat.le_trans h2 hb⟩
theorem Qk_mul {j k : Nat} {r q : Rat} (h1 : Qk j r) (h2 : Qk k q) : Qk (j + k) (r * q) := by
  rw [← q_mul]
  have := r.den_nz
  have := q.den_nz
  refine Qk_divInt (Int.mul_pos (by omega) (by omega)) ?_ ?_
  · rw [Int.natAbs_mul, Nat.pow_add]; exact Nat.mul_le_mul h1.1 h2.1
  · rw [Int.natAbs_mul, Nat.pow_add]; exact Nat.mul_le_mul h1.2 h2.2
theorem Qk_zero (k : Nat) : Qk k 0 := ⟨Nat.zero_le _, Nat.one_le_two_pow⟩
theorem Qk_one (k : Nat) : Qk k 1 := ⟨Nat.one_le_two_pow, Nat.one_le_two_pow⟩
/-- a part of D, of at most M -/
def Bd (M D : Nat) (r : Rat) : Prop := 0 < D ∧ ∃ n : Int, n.natAbs ≤ M ∧ r = Rat.divInt n D
theorem Bd.qk {M D k : Nat} {r : Rat} (h : Bd M D r) (hM : M ≤ 2 ^ k) (hD : D ≤ 2 ^ k) : Qk k r := by
  obtain ⟨h0, n, hn, rfl⟩ := h
  exact Qk_divInt (by omega) (Nat.le_trans hn hM) (by simpa using hD)
theorem Bd.mono {M M' D : Nat} {r : Rat} (h : Bd M D r) (hM : M ≤ M') : Bd M' D r := by
  obtain ⟨h0, n, hn, e⟩ := h
  exact ⟨h0, n, Nat.le_trans hn hM, e⟩
theorem Bd_zero {M D : Nat} (h : 0 < D) : Bd M D 0 := ⟨h, 0, Nat.zero_le _, by rw [Rat.zero_divInt]⟩
theorem Bd_add {M M' D : Nat} {r q : Rat} (h1 : Bd M D r) (h2 : Bd M' D q) : Bd (M + M') D (r + q) := by
  obtain ⟨h0, n, hn, rfl⟩ := h1
  obtain ⟨_, m, hm, rfl⟩ := h2
  exact ⟨h0, n + m, Nat.le_trans (Int.natAbs_add_le _ _) (Nat.add_le_add hn hm), by rw [Rat.divInt_add_divInt _ _ (by omega) (by omega), ← Int.add_mul, Rat.divInt_mul_right (by omega)]⟩
theorem Bd_mul {M M' D D' : Nat} {r q : Rat} (h1 : Bd M D r) (h2 : Bd M' D' q) : Bd (M * M') (D * D') (r * q) := by
  obtain ⟨h0, n, hn, rfl⟩ := h1
  obtain ⟨h0', m, hm, rfl⟩ := h2
  exact ⟨Nat.mul_pos h0 h0', n * m, by rw [Int.natAbs_mul]; exact Nat.mul_le_mul hn hm, by rw [Rat.divInt_mul_divInt]; push_cast; rfl⟩
theorem Bd_div {a b : Int} {M : Nat} (h : 0 < b) (ha : a.natAbs ≤ M) : Bd M b.toNat (Rat.divInt a b) := ⟨by omega, a, ha, by rw [Int.toNat_of_nonneg (by omega)]⟩
/-! ### the law's own quotients -/
def Pb (p : Int × Int) : Prop := p.1.natAbs < 2 ^ 4400 ∧ p.2 ≠ 0 ∧ p.2.natAbs < 2 ^ 4400
theorem Qb.pb {r : Rat} (h : Qb r) : Pb (qp r) := ⟨h.1, den_ne r, h.2⟩
theorem pb_small {a b : Int} (ha : -(2 ^ 64) < a ∧ a < 2 ^ 64) (h0 : b ≠ 0) (hb : -(2 ^ 64) < b ∧ b < 2 ^ 64) : Pb (a, b) :=
  ⟨Nat.lt_of_lt_of_le (show a.natAbs < 2 ^ 64 by omega) (Nat.pow_le_pow_right (by decide) (by decide)), h0, Nat.lt_of_lt_of_le (show b.natAbs < 2 ^ 64 by omega) (Nat.pow_le_pow_right (by decide) (by decide))⟩
theorem pb_den {a b : Int × Int} (h0 : Pb a) (h1 : Pb b) : (a.2 * b.2).natAbs < 2 ^ 8999 := by rw [Int.natAbs_mul]; exact lt_pow h0.2.2 h1.2.2
theorem pb_add {a b : Int × Int} (h0 : Pb a) (h1 : Pb b) : qv a + qv b = Rat.divInt (a.1 * b.2 + b.1 * a.2) (a.2 * b.2) := Rat.divInt_add_divInt _ _ h0.2.1 h1.2.1
theorem pb_mul (a b : Int × Int) : qv a * qv b = Rat.divInt (a.1 * b.1) (a.2 * b.2) := Rat.divInt_mul_divInt _ _
theorem lawq_gcd {a : Nat × Nat} {n : Nat} (hP : Nat.gcd a.1 a.2 = n) (hb : decide ((0 : Int) < (a.2 : Int)) = false) : a.1 = n := by
  have : a.2 = 0 := by have := of_decide_eq_false hb; omega
  rw [this, Nat.gcd_zero_right] at hP
  exact hP
theorem lawq_pos {a : Nat × Nat} {up down : Int} (hP : Nat.gcd a.1 a.2 = Nat.gcd up.natAbs down.natAbs) (hb : decide ((0 : Int) < (a.2 : Int)) = false) (h : decide ((0 : Int) < down) = true) :
    PyData.tuple [.int (up / (a.1 : Int)), .int (down / (a.1 : Int))] = eQ (Rat.divInt up down) := by
  have hd := of_decide_eq_true h
  rw [lawq_gcd hP hb]
  exact quo_pos (by omega) (decide_eq_false (by omega))
theorem lawq_neg {a : Nat × Nat} {up down : Int} (hP : Nat.gcd a.1 a.2 = Nat.gcd up.natAbs down.natAbs) (hb : decide ((0 : Int) < (a.2 : Int)) = false) (h0 : down ≠ 0) (h : decide ((0 : Int) < down) = false) :
    PyData.tuple [.int ((0 - up) / (a.1 : Int)), .int ((0 - down) / (a.1 : Int))] = eQ (Rat.divInt up down) := by
  have hd := of_decide_eq_false h
  rw [lawq_gcd hP hb, Int.zero_sub, Int.zero_sub]
  have := quo_neg (a := up) (b := down) (decide_eq_true (by omega))
  rw [Int.natAbs_neg, Int.natAbs_neg] at this
  exact this
theorem lawq_div {a : Nat × Nat} {up down i : Int} (h0 : down ≠ 0) (h1 : down.natAbs < 2 ^ 8999) (hP : Nat.gcd a.1 a.2 = Nat.gcd up.natAbs down.natAbs) (hb : decide ((0 : Int) < (a.2 : Int)) = false) : CDivG i (a.1 : Int) := by
  rw [lawq_gcd hP hb]; exact quo_div h0 h1
theorem sumQ_step {l : List Rat} {i : Nat} {x : Rat} (h : l[i]? = some x) : (l.take i).sum + x = (l.take (i + 1)).sum := by
  rw [List.take_add_one, h]
  simp [Rat.add_zero]
theorem Bd_sum {M D : Nat} {l : List Rat} (hD : 0 < D) (h : ∀ r ∈ l, Bd M D r) : Bd (l.length * M) D l.sum := by
  induction l with
  | nil => exact Bd_zero hD
  | cons a l ih =>
    rw [List.sum_cons, List.length_cons, Nat.add_mul, Nat.one_mul, Nat.add_comm]
    exact Bd_add (h a (List.mem_cons_self ..)) (ih fun r hr => h r (List.mem_cons_of_mem _ hr))
theorem Bd.qb {M D : Nat} {r : Rat} (h : Bd M D r) (hM : M < 2 ^ 4400) (hD : D < 2 ^ 4400) : Qb r := by
  obtain ⟨h0, n, hn, rfl⟩ := h
  obtain ⟨h1, h2⟩ := divInt_le n D (by omega)
  exact ⟨Nat.lt_of_le_of_lt (Nat.le_trans h1 hn) hM, Nat.lt_of_le_of_lt (by simpa using h2) hD⟩
theorem sum_qb {l : List Rat} (h : ∃ M D, (∀ r ∈ l, Bd M D r) ∧ (l.length + 1) * M < 2 ^ 4400 ∧ 0 < D ∧ D < 2 ^ 4400) (i : Nat) {x : Rat} (hx : l[i]? = some x) : Qb (l.take i).sum ∧ Qb x := by
  obtain ⟨M, D, h1, h2, h3, h4⟩ := h
  have hM : ∀ k, k ≤ l.length + 1 → k * M < 2 ^ 4400 := fun k hk => Nat.lt_of_le_of_lt (Nat.mul_le_mul_right _ hk) h2
  refine ⟨(Bd_sum h3 fun r hr => h1 r (List.mem_of_mem_take hr)).qb (hM _ (by rw [List.length_take]; omega)) h4, (h1 x (List.mem_of_getElem? hx)).qb ?_ h4⟩
  have := hM 1 (by omega)
  omega
end Nz

/-! enumerate(tuple) -/
namespace Nz
open PySem PySem.Spec PyProof.Rows L2 RZ
/-- what comes of a tuple, one by one -/
theorem drawsTup {prog : Program} {w : World} {A : Around} {it t : Addr} {items : Array Value} (free : A.handled = none) (apart : t ≠ it) :
    Draws prog w A it [it, t] items.size (fun i x => items[i]? = some x) (fun i h => h.IsTupleIter it t i ∧ h.IsTuple t items) where
  live := fun i h st => ⟨st.1.choose, st.1.choose_spec.1⟩
  frame := fun i h h' st k => ⟨⟨st.1.choose, k it (by simp) _ st.1.choose_spec.1, st.1.choose_spec.2⟩, ⟨st.2.choose, k t (by simp) _ st.2.choose_spec.1, st.2.choose_spec.2⟩⟩
  item := fun i s Q E lt st q => RZ.nextOf_tuple_item st.1 st.2 (x := items[i]) (Array.getElem?_eq_getElem lt) fun h' a sb => q _ h' s.toks (Array.getElem?_eq_getElem lt) ⟨a, st.2.extBut sb.extBut apart⟩ sb
  done := fun s Q E st q => RZ.nextOf_tuple_end free st.1 st.2 (by rw [Array.getElem?_eq_none_iff]; exact Nat.le_refl _) q
set_option maxHeartbeats 4000000 in
theorem newEnumT (l : Addr) (items : Array Value) : Meets (Builtin.«enumerate.__new__» ⟨[.type "enumerate", .ref l], []⟩) (fun _ R s => s.heap.IsTuple l items ∧
    (let mid := s.heap.push { cls := .type "tuple_iterator", data := .fields #[.ref l, .int 0 0] }
     R (.ok (.ret (.ref mid.objs.size))) { s with heap := mid.push { cls := .type "enumerate", data := .fields #[.none, .bool false, .ref s.heap.objs.size, rawInt 0, .none, .none] } })) :=
  .of_wp fun prog w A R s h => by
    obtain ⟨hp, gs, dr, tk, os⟩ := s
    obtain ⟨isT, h⟩ := h
    have isT : Heap.IsTuple (Shared.heap ⟨hp, gs, dr, tk, os⟩) l items := isT
    have sub := sub_enumerate
    have big := isT
    obtain ⟨ob, hob, hcls, n, hdat⟩ := big
    wp_walk using wpAny_loadPart' hob
    refine wpAny_stack_any fun _ => wpAny_pure ?_
    split
    · rename_i c _ _ _ _ _
      cases (c == Value.type "enumerate") <;>
      · wp_walk using wpAny_pyIter_tuple isT
        exact ⟨_, rfl, h⟩
    · wp_walk using wpAny_pyIter_tuple isT
      exact ⟨_, rfl, h⟩
section
variable {prog : Program} {w : World} {A : Around} {E : Value → Shared → Prop} {s : Shared}
theorem callEnumT {l : Addr} {items : Array Value} {Q : Value → Shared → Prop} (isT : s.heap.IsTuple l items)
    (q : ∀ h', IsEnum h' (s.heap.objs.size + 1) s.heap.objs.size 0 .none → h'.IsTupleIter s.heap.objs.size l 0 → (∀ b o, s.heap.get? b = some o → h'.get? b = some o) → Q (.ref (s.heap.objs.size + 1)) { s with heap := h' }) :
    wpAny (model prog w) A (call (.type "enumerate") [.ref l]) Q E s := by
  refine callType_new F.called_enumerate (by decide) (F.typeCall_enumerate_1 _) (F.newCall_enumerate_1 _) (fun ob => F.args_object_init_2 ob _) F.entry_enumerate_new (newEnumT l items) ⟨isT, ?_⟩
  have size1 : (s.heap.push { cls := .type "tuple_iterator", data := .fields #[.ref l, .int 0 0] }).objs.size = s.heap.objs.size + 1 := Heap.size_push ..
  dsimp only
  rw [size1]
  have isE : IsEnum ((s.heap.push { cls := .type "tuple_iterator", data := .fields #[.ref l, .int 0 0] }).push { cls := .type "enumerate", data := .fields #[.none, .bool false, .ref s.heap.objs.size, rawInt 0, .none, .none] }) (s.heap.objs.size + 1) s.heap.objs.size 0 .none := by
    have z := Heap.get?_push_size (s.heap.push { cls := .type "tuple_iterator", data := .fields #[.ref l, .int 0 0] }) (o := { cls := .type "enumerate", data := .fields #[.none, .bool false, .ref s.heap.objs.size, rawInt 0, .none, .none] }) rfl
    rwa [size1] at z
  exact ⟨⟨_, isE, rfl⟩, q _ isE ⟨_, Heap.get?_push_of_some _ (Heap.get?_push_size _ rfl), rfl, rfl⟩ fun b o x => Heap.get?_push_of_some _ (Heap.get?_push_of_some _ x)⟩
end
section
variable {prog : Program} {w : World} {A : Around} {E : Value → Shared → Prop} {s : Shared}
/-- at the end, however far behind it -/
theorem enumEndT {e it t : Addr} {i : Nat} {items : Array Value} {old : Value} {Q : Option Value → Shared → Prop} (free : A.handled = none) (isE : IsEnum s.heap e it i old) (isI : s.heap.IsTupleIter it t i) (isT : s.heap.IsTuple t items) (out : items.size ≤ i)
    (q : ∀ h', Heap.ExtBut it s.heap h' → Q none { s with heap := h' }) : wpAny (model prog w) A (pyNext (.ref e)) Q E s := by
  have D : Draws prog w A.in1 it [it, t] i (fun i x => items[i]? = some x) (fun j h => j = i ∧ h.IsTupleIter it t i ∧ h.IsTuple t items) :=
    { live := fun j h st => ⟨st.2.1.choose, st.2.1.choose_spec.1⟩
      frame := fun j h h' st k => ⟨st.1, ⟨st.2.1.choose, k it (by simp) _ st.2.1.choose_spec.1, st.2.1.choose_spec.2⟩, ⟨st.2.2.choose, k t (by simp) _ st.2.2.choose_spec.1, st.2.2.choose_spec.2⟩⟩
      item := fun j s Q E lt st q => absurd st.1 (Nat.ne_of_lt lt)
      done := fun s Q E st q => RZ.nextOf_tuple_end free st.2.1 st.2.2 (by rw [Array.getElem?_eq_none_iff]; exact out) q }
  exact wpAny_pyNext_enum_endD D isE ⟨rfl, isI, isT⟩ q
end
/-! the walk -/
def IteT (K : PySem.W.Frag) (a : Addr) : It :=
  ⟨fun i H => ∃ (xs : List V) (x : V), SqT K H a xs ∧ xs[i]? = some x,
   fun i H v H' => ∃ p x, v = .ref p ∧ H p = none ∧ H' = upd H p (.tup [.int (i : Nat), x]) ∧ ∀ xs, SqT K H a xs → xs[i]? = some x,
   fun i H => ∃ xs : List V, SqT K H a xs ∧ xs.length ≤ i⟩
theorem tup_ne_it {h : Heap} {a it : Addr} {i : Nat} {us : Array Value} (p : IsTup h a us) (q : h.IsTupleIter it a i) : a ≠ it := fun e => by
  subst e
  obtain ⟨o, ho, hc, _⟩ := p
  obtain ⟨o', ho', hc', _⟩ := q
  rw [ho] at ho'
  cases ho'
  rw [hc] at hc'
  exact absurd hc' (by decide)
theorem tup_ne_en {h : Heap} {a e it : Addr} {i : Int} {old : Value} {us : Array Value} (p : IsTup h a us) (q : IsEnum h e it i old) : a ≠ e := fun z => by
  subst z
  obtain ⟨o, ho, hc, _⟩ := p
  have q : h.get? a = some _ := q
  rw [ho] at q
  cases q
  have hc : (Value.type "enumerate") = .type "tuple" := hc
  exact absurd hc (by decide)
theorem turnEnumT {P : Program} {w : World} {K : PySem.W.Frag} {els : List Expr} {n0 : Nat} {ps : Pos} (a e it : Addr) :
    Turn P w K (.Tuple els n0 ps) (IteT K a) [e, it] e (fun i h => (∃ old, IsEnum h e it ((i : Nat) : Int) old) ∧ h.IsTupleIter it a i ∧ e ≠ it) where
  mem := List.mem_cons_self ..
  obj := fun i h st b hb => by
    obtain ⟨⟨old, isE⟩, ⟨o, ho, _, hd⟩, _⟩ := st
    rcases List.mem_cons.mp hb with rfl | hb
    · exact ⟨_, isE, fun v q => nomatch q⟩
    · have := List.mem_singleton.mp hb
      subst this
      exact ⟨o, ho, fun v q => by rw [hd] at q; cases q⟩
  keep := fun i h h' ⟨⟨old, isE⟩, ⟨o, ho, r⟩, ne⟩ k => ⟨⟨old, k e (by simp) _ isE⟩, ⟨o, k it (by simp) o ho, r⟩, ne⟩
  item := by
    intro X eP eW eK calm i pins s σ H E I fp st go
    subst eP; subst eW; subst eK
    obtain ⟨⟨old, isE⟩, isI, ne⟩ := st
    obtain ⟨xs, x, sq, hx⟩ := go
    obtain ⟨us, rel, isT, size⟩ := I.tuple sq
    obtain ⟨u, hu, ru⟩ := rel.get hx
    have eLt : e < s.heap.objs.size := Heap.lt_size isE
    have iLt : it < s.heap.objs.size := Heap.lt_size isI.choose_spec.1
    have inUs : i < us.toArray.size := by rw [List.size_toArray]; exact (List.getElem?_eq_some_iff.mp hu).1
    refine wpAny_pyNext_enum_itemD (drawsTup (I.ok.hd calm) (tup_ne_it isT isI)) isE ⟨isI, isT⟩ inUs ne (by simp [ne, (tup_ne_en isT isE).symm]) fun y h' tk hy out st' isNew size' kept => ?_
    have hy : y = u := by
      have : us.toArray[i]? = some u := by simpa using hu
      rw [this] at hy; cases hy; rfl
    subst hy
    refine ⟨_, rfl, wpAny_letOwnedTupleGo_enum (s := { s with heap := h', toks := tk + 1 }) out fun h'' isE' sb => ?_⟩
    have new2 : h''.get? s.heap.objs.size = some { cls := .type "tuple", data := .seq #[.int i tk, y] } := (sb.2 _ (Nat.ne_of_gt eLt)).trans isNew
    have I2 : Inv X pins σ (upd H s.heap.objs.size (.tup [.int (i : Nat), x])) { s with heap := h'', toks := tk + 1 } :=
      I.turnedNew (ch := [e, it]) (fun b ob nb q => by
        have nb1 : b ≠ e := fun z => nb (by simp [z])
        have nb2 : b ≠ it := fun z => nb (by simp [z])
        exact (sb.2 b nb1).trans (kept b ob nb1 nb2 q)) fp (Nat.le_refl _) ⟨show 2 ≤ sizeLine by decide, [.int i tk, y], .cons ⟨_, rfl⟩ (.cons ru .nil), ⟨_, new2, rfl, _, rfl⟩⟩
    refine ⟨.ref s.heap.objs.size, _, I2, rfl, ⟨_, x, rfl, I.hok.fresh (Nat.le_refl _), rfl, fun ys hy => by rw [I.tuple_inj hy sq]; exact hx⟩, ⟨⟨y, ?_⟩, ?_, ne⟩, fun b hb => ?_⟩
    · rw [show ((i + 1 : Nat) : Int) = (i : Int) + 1 by omega]; exact isE'
    · obtain ⟨o, ho, r⟩ := st'.1
      exact ⟨o, (sb.2 it (Ne.symm ne)).trans ho, r⟩
    · have lt : b < s.heap.objs.size := by
        rcases List.mem_cons.mp hb with rfl | hb
        · exact eLt
        · rw [List.mem_singleton.mp hb]; exact iLt
      rw [upd_ne (Nat.ne_of_lt lt)]
      exact (fp b hb).1
  done := by
    intro X eP eW eK calm i pins s σ H E I fp st stop
    subst eP; subst eW; subst eK
    obtain ⟨⟨old, isE⟩, isI, ne⟩ := st
    obtain ⟨xs, sq, le⟩ := stop
    obtain ⟨us, rel, isT, size⟩ := I.tuple sq
    obtain ⟨g0, g1, g2, g3, g4, g5⟩ := fp it (by simp)
    have len := rel.length
    exact Nz.enumEndT (I.ok.hd calm) isE isI isT (by simp; omega) fun h' eb => ⟨rfl, I.turned (t' := s.toks) (fun b o hb q => eb b o hb q) g0 g1 g3 g4 g5⟩
  self := fun A i s Q E st h => wpAny_pyIter_enum st.1.choose_spec h
def iEnumT (K : PySem.W.Frag) (ta : TA) : TI := fun σ H R => ta σ H fun vs H1 => ∃ a xs, vs = [.ref a] ∧ SqT K H1 a xs ∧ R (IteT K a) H1
theorem pi_enumT {X : Cx} {e : Expr} {ta : TA} {p pos tpos : Pos} {els : List Expr} {n0 : Nat} (hg : Gl X "enumerate") (hm : X.mg "enumerate" = none) (ha : PA X [e] ta) (hs : starEach [e] X.env = [(false, eval e X.env)] := by rfl) :
    PI X (.Tuple els n0 tpos) (.Call (.Name "enumerate" p) [e] [] pos) (iEnumT X.K ta) := ⟨fun pins s σ H R I h => Call_ (ld_blt I hg hm boot_enumerate (PyProof.Rows.callWith_type1 (thn (ha.run pos pins s σ H _ I h) fun us s1 ⟨vs, H1, I1, rel, q⟩ => by
  obtain ⟨a, xs, e1, sq, q⟩ := q
  subst e1
  obtain ⟨u, rfl, ru⟩ := rel.one
  cases ru
  obtain ⟨its, rv, isT, size⟩ := I1.tuple sq
  refine callEnumT isT fun h' isE isI kept => wpAny_pyIter_enum isE ?_
  refine ⟨s1.heap.objs.size + 1, [s1.heap.objs.size + 1, s1.heap.objs.size], _, _, H1, rfl, I1.kept (t' := s1.toks) kept, turnEnumT a (s1.heap.objs.size + 1) s1.heap.objs.size, ⟨⟨.none, isE⟩, isI, Nat.succ_ne_self _⟩, fun b hb => ?_, q⟩
  have le : s1.heap.objs.size ≤ b := by
    rcases List.mem_cons.mp hb with rfl | hb
    · exact Nat.le_succ _
    · rw [List.mem_singleton.mp hb]; exact Nat.le_refl _
  exact I1.fpOk le (I1.hok.fresh le)) hs rfl))⟩
section
variable {c : Cz} {ρ ρ1 : List Sl} {te : TE}
theorem ei_enumT {ds : List PyData} (h : Ed c ρ te (.tuple ds) ρ1) : Ei c ρ (iEnumT c.K (tCons te tNil)) (enumD ds) ρ1 := fun T σ H W R q => h T σ H W _ fun v H1 W1 => by
  obtain ⟨a, xs, rfl, hs, h2⟩ := dp_tup W1.dp
  refine ⟨a, xs, rfl, (ex_p (hide_ex _ _) hs).sq, q _ H1 [(.ref a, .tuple ds)] W1 ?_⟩
  rintro c' T' σ' H' ρ' hK W'
  obtain ⟨b, ys, e, hs', h2'⟩ := dp_tup W'.dp
  cases e
  have hs2 : SqT c.K H' a ys := hK ▸ (ex_p (hide_ex _ _) hs').sq
  have hl := dpa_length h2'
  rw [enumD_len]
  refine ⟨fun i hi => ?_, fun i hi => ⟨ys, hs2, by omega⟩⟩
  obtain ⟨x, hx, dx⟩ := dpa_get h2' (List.getElem?_eq_getElem hi)
  refine ⟨⟨ys, x, hs2, hx⟩, fun y H2 hy => ?_⟩
  obtain ⟨p, z, rfl, hp, rfl, hy⟩ := hy
  have ez := (hy ys hs2).symm.trans hx
  rw [Option.some.inj ez]
  have W2 := W'.grow (Ex.new (o := .tup [.int (i : Nat), x]) hp)
  have e2 : Ex (hide (hid c' ρ') H') (hide (hid c' ρ') (upd H' p (.tup [.int (i : Nat), x]))) := hide_mono fun a o n h => ⟨n, Ex.new hp a o h⟩
  exact ⟨_, enumD_get (List.getElem?_eq_getElem hi), p, [.int (i : Nat), x], rfl, .inl (.inl upd_same), rfl, (W2.push (dpm e2 dx)).push (.int _)⟩
theorem ei_enumTX {α : Type} {f : α → PyData} {l : List α} (h : Ed c ρ te (.tuple (l.map f)) ρ1) : Ei c ρ (iEnumT c.K (tCons te tNil)) (l.zipIdx.map fun p => Itm.soft [PyData.int (p.2 : Int), f p.1]) ρ1 := by
  have := ei_enumT h
  unfold enumD at this
  rw [List.zipIdx_map, List.map_map] at this
  exact this
end
end Nz

/-! more rules: in, range downward, the last place of a list -/
namespace Nz
open PySem PySem.Spec PyProof.Rows L2 RZ
section
variable {c : Cz} {ρ ρ1 ρ2 ρ3 : List Sl} {ta tb te tc : TE} {d : PyData} {T : Tm}
theorem flat_ints (l : List Int) : (l.map V.int).all flatV = true := by rw [List.all_map, List.all_eq_true]; exact fun _ _ => rfl
theorem flat_strs (l : List Str) : (l.map V.str).all flatV = true := by rw [List.all_map, List.all_eq_true]; exact fun _ _ => rfl
theorem inV_int (i : Int) (l : List Int) : inV (.int i) (l.map V.int) = decide (i ∈ l) := by
  unfold inV
  rw [List.any_map]
  induction l with
  | nil => rfl
  | cons a l ih =>
    rw [List.any_cons, ih]
    by_cases e : a = i
    · subst e; simp [eqV]
    · have e' : ¬ i = a := fun z => e z.symm
      simp [eqV, e, e']
theorem inV_str (i : Str) (l : List Str) : inV (.str i) (l.map V.str) = decide (i ∈ l) := by
  unfold inV
  rw [List.any_map]
  induction l with
  | nil => rfl
  | cons a l ih =>
    rw [List.any_cons, ih]
    by_cases e : a = i
    · subst e; simp [eqV]
    · have e' : ¬ i = a := fun z => e z.symm
      simp [eqV, e, e']
theorem dpaStrs {K : PySem.W.Frag} {H : Hp} : ∀ {ns : List Str} {xs : List V}, DzAll K H xs (ns.map .str) → xs = ns.map V.str
  | [], _, h => by cases h; rfl
  | n :: ns, _, h => by
    cases h with
    | cons a b => rw [dp_str a, dpaStrs b]; rfl
theorem ed_inSq {neg : Bool} {v : PyData} {ds : List PyData} {s : PyData} {b : Bool} (hs : s = .list ds ∨ s = .tuple ds) (ha : Ed c ρ ta v ρ1) (hb : Ed c ρ1 tb s ρ2)
    (hi : ∀ (H : Hp) (x : V) (xs : List V), Dz c.K H x v → DzAll c.K H xs ds → flatV x = true ∧ xs.all flatV = true ∧ inV x xs = b) : Ed c ρ (tOp (rIn c.K neg) ta tb) (.bool (if neg then !b else b)) ρ2 :=
  ed_op ha hb fun T σ H x y W hx hy Q q => by
    rcases hs with rfl | rfl
    · obtain ⟨a, xs, rfl, sq, all⟩ := dp_lst hy
      obtain ⟨f1, f2, f3⟩ := hi _ _ _ hx all
      exact ⟨a, xs, rfl, .inl (ex_l (hide_ex _ _) sq), f1, f2, by rw [f3]; exact q _ H (W.push (.bl _))⟩
    · obtain ⟨a, xs, rfl, sq, all⟩ := dp_tup hy
      obtain ⟨f1, f2, f3⟩ := hi _ _ _ hx all
      exact ⟨a, xs, rfl, .inr (ex_p (hide_ex _ _) sq).sq, f1, f2, by rw [f3]; exact q _ H (W.push (.bl _))⟩
theorem in_ints {K : PySem.W.Frag} {i : Int} {l : List Int} (H : Hp) (x : V) (xs : List V) (hx : Dz K H x (.int i)) (h : DzAll K H xs (l.map .int)) : flatV x = true ∧ xs.all flatV = true ∧ inV x xs = decide (i ∈ l) := by
  rw [dp_int hx, dpaInts h]
  exact ⟨rfl, flat_ints l, inV_int i l⟩
theorem in_strs {K : PySem.W.Frag} {i : Str} {l : List Str} (H : Hp) (x : V) (xs : List V) (hx : Dz K H x (.str i)) (h : DzAll K H xs (l.map .str)) : flatV x = true ∧ xs.all flatV = true ∧ inV x xs = decide (i ∈ l) := by
  rw [dp_str hx, dpaStrs h]
  exact ⟨rfl, flat_strs l, inV_str i l⟩
theorem ed_inLI {i : Int} {l : List Int} (ha : Ed c ρ ta (.int i) ρ1) (hb : Ed c ρ1 tb (.list (l.map .int)) ρ2) : Ed c ρ (tOp (rIn c.K false) ta tb) (.bool (decide (i ∈ l))) ρ2 := ed_inSq (.inl rfl) ha hb in_ints
theorem ed_inTI {i : Int} {l : List Int} (ha : Ed c ρ ta (.int i) ρ1) (hb : Ed c ρ1 tb (.tuple (l.map .int)) ρ2) : Ed c ρ (tOp (rIn c.K false) ta tb) (.bool (decide (i ∈ l))) ρ2 := ed_inSq (.inr rfl) ha hb in_ints
theorem ed_ninLI {i : Int} {l : List Int} (ha : Ed c ρ ta (.int i) ρ1) (hb : Ed c ρ1 tb (.list (l.map .int)) ρ2) : Ed c ρ (tOp (rIn c.K true) ta tb) (.bool (!decide (i ∈ l))) ρ2 := ed_inSq (neg := true) (.inl rfl) ha hb in_ints
theorem ed_ninTI {i : Int} {l : List Int} (ha : Ed c ρ ta (.int i) ρ1) (hb : Ed c ρ1 tb (.tuple (l.map .int)) ρ2) : Ed c ρ (tOp (rIn c.K true) ta tb) (.bool (!decide (i ∈ l))) ρ2 := ed_inSq (neg := true) (.inr rfl) ha hb in_ints
theorem ed_inTS {i : Str} {l : List Str} (ha : Ed c ρ ta (.str i) ρ1) (hb : Ed c ρ1 tb (.tuple (l.map .str)) ρ2) : Ed c ρ (tOp (rIn c.K false) ta tb) (.bool (decide (i ∈ l))) ρ2 := ed_inSq (.inr rfl) ha hb in_strs
theorem ed_ninTS {i : Str} {l : List Str} (ha : Ed c ρ ta (.str i) ρ1) (hb : Ed c ρ1 tb (.tuple (l.map .str)) ρ2) : Ed c ρ (tOp (rIn c.K true) ta tb) (.bool (!decide (i ∈ l))) ρ2 := ed_inSq (neg := true) (.inr rfl) ha hb in_strs
/-! range(a, b, -1) -/
def rngDn (a b : Int) : List Int := (List.range (a - b).toNat).map fun (i : Nat) => a - (i : Int)
theorem ei_rngDn {a b : Int} (h : Ed c ρ ta (.int a) ρ1) (h2 : Ed c ρ1 tb (.int b) ρ2) (h3 : Ed c ρ2 tc (.int (-1)) ρ3) (hn : (-4000000000 ≤ a ∧ a ≤ 4000000000) ∧ -4000000000 ≤ b ∧ b ≤ 4000000000) :
    Ei c ρ (iRng3 (tCons ta (tCons tb (tCons tc tNil)))) ((rngDn a b).map fun (i : Int) => Itm.hard (PyData.int i)) ρ3 := fun T σ H W R q => h T σ H W _ fun v H1 W1 => h2 _ σ H1 W1 _ fun w H2 W2 => h3 _ σ H2 W2 _ fun z H3 W3 => by
  refine ⟨a, b, -1, (a - b).toNat, by rw [dp_int W3.pop.pop.dp, dp_int W3.pop.dp, dp_int W3.dp], RgC.neg (by omega) (by omega) (by omega) (by omega), q _ H3 [] W3.pop.pop.pop ?_⟩
  intro c' T' σ' H' ρ' hK W'
  have hl : ((rngDn a b).map fun (i : Int) => Itm.hard (PyData.int i)).length = (a - b).toNat := by unfold rngDn; simp
  rw [hl]
  refine ⟨fun i hi => ⟨hi, fun x H4 hy => ?_⟩, fun i hi => hi⟩
  obtain ⟨rfl, rfl⟩ := hy
  refine ⟨.hard (.int (a - (i : Int))), ?_, ?_⟩
  · unfold rngDn
    rw [List.map_map, List.getElem?_map, List.getElem?_range hi]; rfl
  · have e : a + ((i : Nat) : Int) * -1 = a - (i : Int) := by omega
    rw [e]
    exact W'.push (.int _)
/-! the last place of a list -/
variable {D : Ends} {nx bk ct : L2.St → Hp → Prop} {rt : VK}
theorem s_setLast {α : Type} {f : α → PyData} {i : Nat} {l : Bool} {a : Addr} {xs : List α} {x : α} {j : Int} (h : Ed c ρ te (f x) ρ1) (hj : Ed c ρ1 tb (.int j) ρ2) (h0 : ∃ l o, ρ1[i]? = some (.mu l a o)) (ha : ρ2[i]? = some (.mu l a (.lst (xs.map f)))) (hn : j = -1 ∧ 0 < xs.length)
    (k : Sk c T (ρ2.set i (.mu l a (.lst ((xs.set (xs.length - 1) x).map f)))) nx) : Ss c T ρ (tAsg te (gSub (tVar i) tb rSetL)) ⟨nx, rt, bk, ct⟩ :=
  s_setL h hj h0 ha (n := xs.length - 1) (by
    obtain ⟨rfl, h0⟩ := hn
    unfold ixN
    rw [if_neg (by decide), if_pos (by rw [List.length_map]; omega)]
    congr 1
    rw [List.length_map]; omega) (by rw [← List.map_set]; exact k)
end
/-- the items of a list within a comprehension: K said, that no name of the inner block goes into the walk's word -/
theorem pi_listK {X : Cx} {tg l : Expr} {tl : TE} (K : PySem.W.Frag) (hl : PE X l tl) (e : X.K = K := by rfl) : PI X tg l (iList K tl) := e ▸ pi_list hl
section
variable {c : Cz} {ρ ρ1 : List Sl} {T : Tm} {nx bk ct : L2.St → Hp → Prop} {rt : VK}
theorem aa3 {K : PySem.W.Frag} {H : Hp} {vs : List V} {d d1 d2 : PyData} (a : AA K H vs [.dat d, .dat d1, .dat d2]) : ∃ u v w, vs = [u, v, w] ∧ Dz K H u d ∧ Dz K H v d1 ∧ Dz K H w d2 := by
  cases a with
  | dat h t =>
    obtain ⟨v, w, rfl, h2, h3⟩ := aa2 t
    exact ⟨_, v, w, rfl, h, h2, h3⟩
/-- a, b, d = x, y, z -/
theorem s_par3 {i j l : Nat} {x y z : PyData} {tp : TA} (h : Ea c ρ tp [.dat x, .dat y, .dat z] ρ1) (k : Sk c T (((ρ1.set i (.da x)).set j (.da y)).set l (.da z)) nx) : Ss c T ρ (tPar3 i j l tp) ⟨nx, rt, bk, ct⟩ := fun σ H W => h T σ H W _ fun vs H1 a W1 => by
  obtain ⟨u, v, w, rfl, h1, h2, h3⟩ := aa3 a
  refine ⟨u, v, w, rfl, ?_⟩
  have W2 := (((W1.push h3).push h2).push h1).setD i h1
  have W3 := W2.pop.setD j (W2.tmp (v, y) (by simp))
  have W4 := W3.pop.setD l (W3.tmp (w, z) (by simp))
  exact k _ _ W4.pop
end
end Nz

/-! set(a list of kints), and that set sorted -/
namespace Nz
open PySem PySem.Spec PyProof.Rows L2 RZ
section
variable {P : Program} {w : World} {A : Around} {E : Value → Shared → Prop} {s : Shared}
abbrev noneIn (w : World) : Obj := { cls := .type "set", dict := none, data := .set #[] 0 (.fresh 0 0 (!w.params.followText "set-order")) }
set_option maxHeartbeats 8000000 in
theorem list_toSet {at_ : Addr} {vals : Array Value} (ks : List Int) {Q : Value → Shared → Prop} (calm : A.handled = none) (isL : s.heap.IsList at_ vals) (kints : IntsAre vals.toList ks) (few : ks.length + 1 < scanBound)
    (fin_ : ∀ (g' : Heap) (n c : Nat), SetR w g' s.heap.objs.size (fun j => decide (j ∈ ks)) c → c ≤ ks.length → (∀ b o, s.heap.get? b = some o → g'.get? b = some o) → Q (.ref s.heap.objs.size) { s with heap := g', toks := n }) :
    wpAny (model P w) A (call (.type "set") [.ref at_]) Q E s := by
  have size_ks : vals.size = ks.length := by have z := IntsAre.length kints; rwa [Array.length_toList] at z
  obtain ⟨cc, ctl, order⟩ := F.called_set.mro
  have made_ := F.called_set.made; have sub_ := F.called_set.sub; have kind1 := F.called_set.notType; have kind2 := F.called_set.canCreate; have called := F.typeCall_set_1 (.ref at_)
  refine wpAny_call (codeAny_of_tree ?_); show wpAny _ _ (callAny (.type "set") _) _ _ _
  refine wpAny_pure ⟨Code.quiet_builtin _ (by decide +kernel), codeAny_builtin F.entry_type_call ?_⟩; rw [Around.under_plain (weight_type_call_type "set" [.ref at_] []) rfl]
  repeat (any_goals (first | wp_step | assumption))
  refine codeAny_mono (code_set_led1 (.ref at_) (E := E) (Q₁ := fun z s₁ => z = .ref s.heap.objs.size ∧ s₁ = { s with heap := s.heap.push (noneIn w) }) ⟨rfl, rfl⟩) fun res s₁ hres => ?_
  match res, hres with
  | .error _, hres => exact hres
  | .ok (.ret z), hres =>
    obtain ⟨rfl, rfl⟩ := hres
    have newS : (s.heap.push (noneIn w)).get? s.heap.objs.size = some (noneIn w) := Heap.get?_push_size _ rfl
    have tyS : Shared.TypeIs { s with heap := s.heap.push (noneIn w) } (.ref s.heap.objs.size) "set" := ⟨_, newS, rfl⟩
    have look := F.called_set.init.lookup; have bind_ := F.called_set.init.bind (.ref s.heap.objs.size)
    repeat (any_goals (first | wp_step | assumption))
    refine codeAny_mono (codeAny_call_builtin (R := wants (fun z s₂ => z = .none ∧ ∃ g' n c, s₂ = { s with heap := g', toks := n } ∧ SetR w g' s.heap.objs.size (fun j => decide (j ∈ ks)) c ∧ c ≤ ks.length ∧ ∀ b o, s.heap.get? b = some o → g'.get? b = some o) E)
      F.called_set.init.plain F.entry_set_init (check_set_init_1 tyS ?_)) fun res₂ s₂ hres₂ => ?_
    · obtain ⟨oL, getL, clsL, nL, datL⟩ := isL
      obtain ⟨kcls, kdict, kdata, kslots⟩ := oL
      dsimp only at clsL datL
      subst clsL datL
      have getL2 : (s.heap.push (noneIn w)).get? at_ = some { cls := .type "list", dict := kdict, data := .seq vals nL, slots := kslots } := Heap.get?_push_of_some _ getL
      have no1 := F.sub_list_set; have no2 := F.sub_list_frozenset
      have no3 : (Value.type "list" == Value.type "dict") = false := by decide
      have isL2 : (s.heap.push (noneIn w)).IsList at_ vals := ⟨_, getL2, rfl, nL, rfl⟩
      unfold Builtin.«set.__init__» noKeywords Builtin.Frozenset.updateFrom
      generalize hPI : pyIter = PI
      wp_walk
      subst hPI
      refine wpAny_pyIter_list isL2 (wpAny_bind (wpAny_runValue ?_))
      have ltL : at_ < s.heap.objs.size := Heap.lt_size getL
      have calm3 : A.in1.in1.in1.handled = none := by simp [calm]
      have neI : at_ ≠ (s.heap.push (noneIn w)).objs.size := (Heap.size_push ..).symm ▸ Nat.ne_of_lt (Nat.lt_succ_of_lt ltL)
      have out_ : s.heap.objs.size ∉ [(s.heap.push (noneIn w)).objs.size, at_] := by
        rw [Heap.size_push]; intro hm; rcases List.mem_cons.mp hm with e | e
        · exact absurd e (Nat.ne_of_lt (Nat.lt_succ_self _))
        · exact absurd (List.mem_singleton.mp e) (Nat.ne_of_gt ltL)
      have item_ : ∀ (i : Nat) (v : Value), vals[i]? = some v → ∃ k t, ks[i]? = some k ∧ v = .int k t := fun i v hv => by
        have hi : i < ks.length := by rw [← size_ks]; exact (Array.getElem?_eq_some_iff.mp hv).1
        obtain ⟨t, e⟩ := IntsAre.int_at kints i v (by rw [Array.getElem?_toList]; exact hv)
        exact ⟨ks[i], t, List.getElem?_eq_getElem hi, by rw [e, List.getD_eq_getElem?_getD, List.getElem?_eq_getElem hi] <;> rfl⟩
      refine set_update_ints ((Walks.list calm3 _ at_ neI vals).toS) s.heap.objs.size out_ ks size_ks few item_ (vals.size - 0) 0 _ (by omega) (Nat.zero_le _) ⟨⟨_, Heap.get?_push_size _ rfl, rfl, rfl⟩, (isL2.push _)⟩ ?h0 ?h1
      case h0 => exact ⟨0, Nat.le_refl 0, setR_new_at (Heap.get?_push_of_some _ newS)⟩
      case h1 =>
        intro s' c' mv hc' hS'
        have e1 := mv.gens; have e2 := mv.drawn; have e3 := mv.os; have keep := mv.heap
        obtain ⟨g', gn', dr', tk', os'⟩ := s'
        dsimp only at e1 e2 e3 hS' keep
        subst e1 e2 e3
        show wpAny _ _ _ _ _ _
        refine wpAny_pure ?_
        show wpAny _ _ (ret Value.none) _ _ _
        refine wpAny_pure ⟨rfl, g', tk', c', rfl, hS', by omega, fun b o e => ?_⟩
        have lb : b < s.heap.objs.size := Heap.lt_size e
        refine keep b o ?_ (Heap.get?_push_of_some _ (Heap.get?_push_of_some _ e))
        intro hm; rcases List.mem_cons.mp hm with q | q
        · exact absurd q (Nat.ne_of_lt lb)
        · refine absurd (List.mem_singleton.mp q) ?_
          rw [Heap.size_push]; exact Nat.ne_of_lt (Nat.lt_succ_of_lt lb)
    · match res₂, hres₂ with
      | .error _, hres₂ => exact hres₂
      | .ok (.ret z), hres₂ =>
        obtain ⟨rfl, g', n, c, rfl, hS', hc', keep⟩ := hres₂
        repeat (any_goals (first | wp_step | assumption))
        exact fin_ _ _ _ hS' hc' keep
end
section
variable {X : Cx}
/-- set(a list of kints) -/
def rSetLI (K : PySem.W.Frag) (w : World) : List V → Hp → VK → Prop := fun xs H Q => ∃ (a : Addr) (ns : List Int), xs = [.ref a] ∧ SqL K H a (ns.map V.int) ∧ ns.length < 64 ∧ ∀ p c, H p = none → c ≤ ns.length → Q (.ref p) (upd H p (SetO w p (fun j => decide (j ∈ ns)) c))
theorem cr_setLI (hc : X.calm = true) : CallR X (.type "set") (rSetLI X.K X.w) := by
  intro pins s σ H xs us Q I r h
  obtain ⟨a, ns, rfl, hl, h64, q⟩ := h
  obtain ⟨its, rv, pl, hz⟩ := I.list hl
  rw [Vals.ref1 r]
  refine list_toSet ns (I.ok.hd hc) pl.isList (by simpa using rv.ints) (by unfold scanBound; omega) fun g' n c R hle keep => ?_
  exact ⟨.ref _, upd H s.heap.objs.size (SetO X.w s.heap.objs.size (fun j => decide (j ∈ ns)) c), I.laid (t' := n) keep (Nat.le_refl _) (setO_new R), rfl, q _ _ (I.hok.fresh (Nat.le_refl _)) hle⟩
end
end Nz

/-! dicts with ints as keys; sorted ints; sets of ints sorted -/
namespace Nz
open PySem PySem.Spec PyProof.Rows L2 RZ
section
variable {κ : Type} [DecidableEq κ] {β γ : Type}
def putP (l : List (κ × β)) (k : κ) (x : β) : List (κ × β) :=
  match l.any (fun p => decide (p.1 = k)) with
  | true => l.map fun p => if p.1 = k then (p.1, x) else p
  | false => l ++ [(k, x)]
def valP (l : List (κ × β)) (k : κ) : Option β := (l.find? fun p => decide (p.1 = k)).map Prod.snd
theorem putP_len (l : List (κ × β)) (k : κ) (x : β) : (putP l k x).length ≤ l.length + 1 := by unfold putP; split <;> simp
theorem putP_keys {l : List (κ × β)} {k : κ} {x : β} {j : κ} : j ∈ (putP l k x).map Prod.fst ↔ j = k ∨ j ∈ l.map Prod.fst := by
  unfold putP
  split
  · rename_i h
    rw [List.map_map]
    have e : (Prod.fst ∘ fun p : κ × β => if p.1 = k then (p.1, x) else p) = Prod.fst := by funext p; show (if p.1 = k then (p.1, x) else p).1 = p.1; split <;> rfl
    rw [e]
    constructor
    · exact Or.inr
    · rintro (rfl | h2)
      · obtain ⟨p, hp, hk⟩ := List.any_eq_true.mp h
        exact List.mem_map.mpr ⟨p, hp, of_decide_eq_true hk⟩
      · exact h2
  · rw [List.map_append, List.mem_append]
    simp
    constructor
    · rintro (h | h)
      · exact .inr h
      · exact .inl h
    · rintro (h | h)
      · exact .inr h
      · exact .inl h
theorem valP_put {l : List (κ × β)} {k j : κ} {x : β} : valP (putP l k x) j = if j = k then some x else valP l j := by
  unfold putP
  split
  · rename_i h
    unfold valP
    have e : ((fun p : κ × β => decide (p.1 = j)) ∘ fun p : κ × β => if p.1 = k then (p.1, x) else p) = fun p => decide (p.1 = j) := by
      funext p; show decide ((if p.1 = k then (p.1, x) else p).1 = j) = _; split <;> rfl
    rw [List.find?_map, e]
    cases hf : l.find? (fun p => decide (p.1 = j)) with
    | none =>
      by_cases q : j = k
      · subst q
        obtain ⟨p, hp, hk⟩ := List.any_eq_true.mp h
        exact absurd hk (List.find?_eq_none.mp hf p hp)
      · rw [if_neg q]; rfl
    | some p =>
      have hp : p.1 = j := of_decide_eq_true (List.find?_some (p := fun p : κ × β => decide (p.1 = j)) hf)
      show some (if p.1 = k then (p.1, x) else p).2 = _
      rw [hp]
      by_cases q : j = k
      · rw [if_pos q, if_pos q]
      · rw [if_neg q, if_neg q]; rfl
  · rename_i h
    unfold valP
    rw [List.find?_append]
    by_cases e : j = k
    · subst e
      have : List.find? (fun p => decide (p.1 = j)) l = none := by
        rw [List.find?_eq_none]
        intro p hp
        have := List.any_eq_false.mp h p hp
        simpa using this
      rw [this]; simp
    · rw [if_neg e]
      have : List.find? (fun p : κ × β => decide (p.1 = j)) [(k, x)] = none := by
        simp; exact fun z => e z.symm
      rw [this, Option.or_none]
theorem putP_map {κ' : Type} [DecidableEq κ'] {e : κ → κ'} (he : ∀ a b, e a = e b → a = b) (f : β → γ) (l : List (κ × β)) (k : κ) (x : β) : (putP l k x).map (fun p => (e p.1, f p.2)) = putP (l.map fun p => (e p.1, f p.2)) (e k) (f x) := by
  have d : ∀ a : κ, decide (e a = e k) = decide (a = k) := fun a => by
    by_cases q : a = k
    · subst q; simp
    · rw [decide_eq_false q, decide_eq_false fun z => q (he _ _ z)]
  unfold putP
  have ea : (l.map fun p => (e p.1, f p.2)).any (fun p => decide (p.1 = e k)) = l.any fun p => decide (p.1 = k) := by
    rw [List.any_map]; congr 1; funext p; exact d p.1
  rw [ea]
  split
  · rw [List.map_map, List.map_map]
    refine List.map_congr_left fun p _ => ?_
    show (e (if p.1 = k then (p.1, x) else p).1, f (if p.1 = k then (p.1, x) else p).2) = if e p.1 = e k then (e p.1, f x) else (e p.1, f p.2)
    by_cases q : p.1 = k
    · rw [if_pos q, if_pos (congrArg e q)]
    · rw [if_neg q, if_neg fun z => q (he _ _ z)]
  · rw [List.map_append]; rfl
theorem valP_map {κ' : Type} [DecidableEq κ'] {e : κ → κ'} (he : ∀ a b, e a = e b → a = b) (f : β → γ) (l : List (κ × β)) (k : κ) : valP (l.map fun p => (e p.1, f p.2)) (e k) = (valP l k).map f := by
  have d : ((fun p : κ' × γ => decide (p.1 = e k)) ∘ fun p : κ × β => (e p.1, f p.2)) = fun p => decide (p.1 = k) := by
    funext p
    show decide (e p.1 = e k) = _
    by_cases q : p.1 = k
    · rw [q]; simp
    · rw [decide_eq_false q, decide_eq_false fun z => q (he _ _ z)]
  unfold valP
  rw [List.find?_map, d, Option.map_map, Option.map_map]
  rfl
end
/-! what the machine's tables say of data -/
section
variable {κ : Type} [DecidableEq κ] {K : PySem.W.Frag} {H : Hp}
theorem kvd_len {xs : List (κ × V)} {ks : List (κ × PyData)} (h : KVd K H xs ks) : xs.length = ks.length := Paired.length h
theorem kvd_keys : ∀ {xs : List (κ × V)} {ks : List (κ × PyData)}, KVd K H xs ks → xs.map Prod.fst = ks.map Prod.fst
  | _, _, .nil => rfl
  | _, _, .cons h t => by rw [List.map_cons, List.map_cons, h.1, kvd_keys t]
theorem kvd_val {k : κ} : ∀ {xs : List (κ × V)} {ks : List (κ × PyData)}, KVd K H xs ks → (∀ d, valP ks k = some d → ∃ v, valV xs k = some v ∧ Dz K H v d) ∧ (valP ks k = none → valV xs k = none)
  | _, _, .nil => ⟨fun d h => (nomatch h), fun _ => rfl⟩
  | (x :: xs), (y :: ys), .cons h t => by
    obtain ⟨i1, i2⟩ := kvd_val (k := k) t
    by_cases q : y.1 = k
    · have q' : x.1 = k := h.1.trans q
      rw [valV_pos q']
      have e : valP (y :: ys) k = some y.2 := by unfold valP; rw [List.find?_cons]; simp [q]
      rw [e]
      exact ⟨fun d z => ⟨x.2, rfl, Option.some.inj z ▸ h.2⟩, fun z => by cases z⟩
    · have q' : ¬ x.1 = k := fun z => q (h.1.symm.trans z)
      rw [valV_neg q']
      have e : valP (y :: ys) k = valP ys k := by unfold valP; rw [List.find?_cons]; simp [q]
      rw [e]
      exact ⟨i1, i2⟩
theorem kvd_any {k : κ} : ∀ {xs : List (κ × V)} {ks : List (κ × PyData)}, KVd K H xs ks → (xs.any fun p => decide (p.1 = k)) = ks.any fun p => decide (p.1 = k)
  | _, _, .nil => rfl
  | _, _, .cons h t => by rw [List.any_cons, List.any_cons, h.1, kvd_any t]
theorem kvd_snoc {k : κ} {v : V} {d : PyData} (hv : Dz K H v d) : ∀ {xs : List (κ × V)} {ks : List (κ × PyData)}, KVd K H xs ks → KVd K H (xs ++ [(k, v)]) (ks ++ [(k, d)])
  | _, _, .nil => .cons ⟨rfl, hv⟩ .nil
  | _, _, .cons h t => .cons h (kvd_snoc hv t)
theorem kvd_repl {k : κ} {v : V} {d : PyData} (hv : Dz K H v d) : ∀ {xs : List (κ × V)} {ks : List (κ × PyData)}, KVd K H xs ks → KVd K H (xs.map fun p => if p.1 = k then (p.1, v) else p) (ks.map fun p => if p.1 = k then (p.1, d) else p)
  | _, _, .nil => .nil
  | (x :: xs), (y :: ys), .cons h t => by
    refine .cons ?_ (kvd_repl hv t)
    show (if x.1 = k then (x.1, v) else x).1 = (if y.1 = k then (y.1, d) else y).1 ∧ Dz K H (if x.1 = k then (x.1, v) else x).2 (if y.1 = k then (y.1, d) else y).2
    by_cases q : y.1 = k
    · rw [if_pos q, if_pos (h.1.trans q)]; exact ⟨h.1, hv⟩
    · rw [if_neg q, if_neg fun z => q (h.1.symm.trans z)]; exact h
theorem kvd_put {k : κ} {v : V} {d : PyData} {xs : List (κ × V)} {ks : List (κ × PyData)} (h : KVd K H xs ks) (hv : Dz K H v d) : KVd K H (putK xs k v) (putP ks k d) := by
  unfold putK putP
  have e := kvd_any (k := k) h
  cases q : ks.any fun p => decide (p.1 = k) with
  | true => rw [q] at e; rw [if_pos e]; exact kvd_repl hv h
  | false => rw [q] at e; rw [if_neg (by rw [e]; decide)]; exact kvd_snoc hv h
end
theorem inl_inj (a b : Int) (h : (Sum.inl a : Key) = Sum.inl b) : a = b := Sum.inl.inj h
abbrev eD {α : Type} (f : α → PyData) (l : List (Int × α)) : List (Key × PyData) := l.map fun p => (Sum.inl p.1, f p.2)
theorem eD_put {α : Type} (f : α → PyData) (l : List (Int × α)) (k : Int) (x : α) : putP (eD f l) (Sum.inl k) (f x) = eD f (putP l k x) := (putP_map inl_inj f l k x).symm
theorem eD_val {α : Type} (f : α → PyData) (l : List (Int × α)) (k : Int) : valP (eD f l) (Sum.inl k) = (valP l k).map f := valP_map inl_inj f l k
/-! ints, sorted -/
def sortI (l : List Int) : List Int := l.mergeSort fun a b => decide (a ≤ b)
theorem sortI_perm (l : List Int) : (sortI l).Perm l := List.mergeSort_perm l _
theorem sortI_asc (l : List Int) : (sortI l).Pairwise (· ≤ ·) := by
  have h := List.pairwise_mergeSort (le := fun a b : Int => decide (a ≤ b)) (fun a b c h1 h2 => by simp at *; omega) (fun a b => by simp; omega) l
  exact h.imp fun {a b} z => of_decide_eq_true z
theorem sortI_len (l : List Int) : (sortI l).length = l.length := (sortI_perm l).length_eq
theorem sortI_mem {l : List Int} {x : Int} : x ∈ sortI l ↔ x ∈ l := (sortI_perm l).mem_iff
theorem sortI_un {l ys : List Int} (h : ys.Perm l) (h2 : ys.Pairwise (· ≤ ·)) : ys = sortI l :=
  List.Perm.eq_of_pairwise (fun a b _ _ h1 h2 => by omega) h2 (sortI_asc l) (h.trans (sortI_perm l).symm)
/-- each once, ascending -/
def dd1 : List Int → List Int
  | [] => []
  | a :: l => if a ∈ l then dd1 l else a :: dd1 l
theorem dd1_mem : ∀ {l : List Int} {x : Int}, x ∈ dd1 l ↔ x ∈ l
  | [], _ => Iff.rfl
  | a :: l, x => by
    unfold dd1
    split
    · rename_i h
      rw [dd1_mem, List.mem_cons]
      exact ⟨.inr, fun z => z.elim (fun e => e ▸ h) id⟩
    · rw [List.mem_cons, List.mem_cons, dd1_mem]
theorem dd1_nodup : ∀ l : List Int, (dd1 l).Nodup
  | [] => .nil
  | a :: l => by
    unfold dd1
    split
    · exact dd1_nodup l
    · rename_i h
      exact List.nodup_cons.mpr ⟨fun z => h (dd1_mem.mp z), dd1_nodup l⟩
theorem dd1_len : ∀ l : List Int, (dd1 l).length ≤ l.length
  | [] => Nat.le_refl _
  | a :: l => by
    unfold dd1
    have := dd1_len l
    split
    · rw [List.length_cons]; omega
    · rw [List.length_cons, List.length_cons]; omega
def sortU (l : List Int) : List Int := sortI (dd1 l)
theorem sortU_len (l : List Int) : (sortU l).length ≤ l.length := by unfold sortU; rw [sortI_len]; exact dd1_len l
theorem sortU_mem {l : List Int} {x : Int} : x ∈ sortU l ↔ x ∈ l := by unfold sortU; rw [sortI_mem, dd1_mem]
theorem asc_strict : ∀ {l : List Int}, l.Pairwise (· ≤ ·) → l.Nodup → l.Pairwise (· < ·)
  | [], _, _ => .nil
  | a :: l, h, n => by
    rw [List.pairwise_cons] at h ⊢
    rw [List.nodup_cons] at n
    exact ⟨fun b hb => by have := h.1 b hb; have : a ≠ b := fun e => n.1 (e ▸ hb); omega, asc_strict h.2 n.2⟩
theorem sortU_asc (l : List Int) : (sortU l).Pairwise (· < ·) := asc_strict (sortI_asc _) ((sortI_perm _).nodup_iff.mpr (dd1_nodup l))
theorem strict_nodup {l : List Int} (h : l.Pairwise (· < ·)) : l.Nodup := h.imp fun {a b} z e => by omega
theorem sortU_un {l ys : List Int} (h : ys.Pairwise (· < ·)) (h2 : ∀ x, x ∈ ys ↔ x ∈ l) : ys = sortU l := by
  refine List.Perm.eq_of_pairwise (le := (· < ·)) (fun a b _ _ h1 h2 => by omega) h (sortU_asc l) ?_
  exact (List.perm_ext_iff_of_nodup (strict_nodup h) (strict_nodup (sortU_asc l))).mpr fun x => by rw [h2, sortU_mem]
/-! ### the machine: dicts in slots -/
section
variable {c : Cz} {ρ ρ1 ρ2 ρ3 : List Sl} {ta tb te tv ty : TE} {t u : TT} {d d1 d2 d3 : PyData} {T : Tm} {H H' : Hp} {σ : L2.St}
variable {D : Ends} {ts tu : TS} {g : TG} {nx bk ct : L2.St → Hp → Prop} {rt : VK}
/-- x = {} -/
theorem s_asgD {i : Nat} (k : ∀ p, Sk c T (ρ.set i (.mu true p (.dK []))) nx) : Ss c T ρ (tAsg tDNewK (gName i)) ⟨nx, rt, bk, ct⟩ := fun σ H W p hp =>
  k p _ _ ((W.hideNew (o := .dK []) hp).setM W.sub i (by rw [if_pos rfl]; exact W.freshB hp) (W.fresh hp) ⟨[], upd_same, .nil⟩)
theorem upd_hid {a : Addr} {S : List Addr} {o : HO} (h : a ∈ S) : Ex (hide S H) (hide S (upd H a o)) := hide_mono fun b u nb e => ⟨nb, by rw [upd_ne (fun q => nb (by rw [q]; exact h))]; exact e⟩
/-- x[k] = v, of a dict -/
theorem s_dput {i : Nat} {l : Bool} {a : Addr} {ks : List (Key × PyData)} {k : Int} (hv : Ed c ρ tv d ρ1) (hk : Ed c ρ1 ty (.int k) ρ2) (h0 : ∃ l o, ρ1[i]? = some (.mu l a o)) (ha : ρ2[i]? = some (.mu l a (.dK ks))) (hz : ks.length < 100000)
    (kk : Sk c T (ρ2.set i (.mu l a (.dK (putP ks (Sum.inl k) d)))) nx) : Ss c T ρ (sDPut (tVar i) ty tv) ⟨nx, rt, bk, ct⟩ := fun σ H W => hv T σ H W _ fun v H1 W1 => by
  obtain ⟨l0, o0, h0⟩ := h0
  refine ⟨.ref a, (W1.ok i _ h0).1, hk _ σ H1 W1 _ fun w H2 W2 => ?_⟩
  obtain ⟨_, _, xs, e3, e4⟩ := W2.ok i _ ha
  refine ⟨a, _, rfl, by rw [dp_int W2.dp]; exact DPut.k (k := Sum.inl k) e3 (by rw [kvd_len e4]; exact Nat.lt_of_lt_of_le hz (by decide)), ?_⟩
  have hm : a ∈ hid c ρ2 := List.mem_append_right _ (mem_muts.mpr ⟨i, l, _, ha⟩)
  exact kk _ _ (W2.pop.pop.updM ha ⟨_, upd_same, (kvd_put e4 W2.pop.dp).mono (upd_hid hm)⟩)
/-- x[k], of a dict that holds it -/
theorem ed_dget {i : Nat} {l : Bool} {a : Addr} {ks : List (Key × PyData)} {k : Int} (hk : Ed c ρ ty (.int k) ρ1) (h0 : ∃ l o, ρ[i]? = some (.mu l a o)) (ha : ρ1[i]? = some (.mu l a (.dK ks))) (e : valP ks (Sum.inl k) = some d) :
    Ed c ρ (tDGet (tVar i) ty) d ρ1 := fun T σ H W Q q => by
  obtain ⟨l0, o0, h0⟩ := h0
  refine ⟨.ref a, (W.ok i _ h0).1, hk _ σ H W _ fun w H1 W1 => ?_⟩
  obtain ⟨_, _, xs, e3, e4⟩ := W1.ok i _ ha
  obtain ⟨v, e5, e6⟩ := (kvd_val e4).1 d e
  exact ⟨a, v, rfl, by rw [dp_int W1.dp, ← e5]; exact DGet.k (k := Sum.inl k) e3, q v H1 (W1.pop.push e6)⟩
/-- x.get(k, e) -/
theorem ed_dget2 {i : Nat} {l : Bool} {a : Addr} {ks : List (Key × PyData)} {k : Int} (hk : Ed c ρ ty (.int k) ρ1) (hd : Ed c ρ1 te d1 ρ2) (h0 : ρ[i]? = some (.mu l a (.dK ks))) (ha : ρ2[i]? = some (.mu l a (.dK ks))) (e : (valP ks (Sum.inl k)).getD d1 = d) :
    Ed c ρ (tDGet2 (tVar i) ty te) d ρ2 := fun T σ H W Q q => by
  obtain ⟨_, _, ys, e1, _⟩ := W.ok i _ h0
  refine ⟨.ref a, (W.ok i _ h0).1, a, rfl, .inl ⟨ys, .inl e1⟩, hk _ σ H W _ fun w H1 W1 => hd _ σ H1 W1 _ fun z H2 W2 => ?_⟩
  obtain ⟨_, _, xs, e3, e4⟩ := W2.ok i _ ha
  have hw := dp_int W2.pop.dp
  refine ⟨valV xs (Sum.inl k), by rw [hw]; exact DGet.k (k := Sum.inl k) e3, ?_⟩
  obtain ⟨k1, k2⟩ := kvd_val (k := (Sum.inl k : Key)) e4
  cases hv : valP ks (Sum.inl k : Key) with
  | none =>
    rw [hv] at e
    rw [k2 hv]
    have e : d1 = d := e
    subst e
    exact q _ H2 (W2.pop.pop.push W2.dp)
  | some d' =>
    rw [hv] at e
    obtain ⟨v, e5, e6⟩ := k1 d' hv
    rw [e5]
    have e : d' = d := e
    subst e
    exact q _ H2 (W2.pop.pop.push e6)
/-- k in x, k not in x -/
theorem ed_din {i : Nat} {l : Bool} {a : Addr} {ks : List (Key × PyData)} {k : Int} (hk : Ed c ρ ty (.int k) ρ1) (ha : ρ1[i]? = some (.mu l a (.dK ks))) : Ed c ρ (tDIn ty (tVar i)) (.bool (valP ks (Sum.inl k)).isSome) ρ1 := fun T σ H W Q q => hk T σ H W _ fun w H1 W1 => by
  obtain ⟨h1, _, xs, e3, e4⟩ := W1.ok i _ ha
  obtain ⟨k1, k2⟩ := kvd_val (k := (Sum.inl k : Key)) e4
  refine ⟨_, h1, a, valV xs (Sum.inl k), rfl, by rw [dp_int W1.dp]; exact DGet.k (k := Sum.inl k) e3, ?_⟩
  have e : (valV xs (Sum.inl k : Key)).isSome = (valP ks (Sum.inl k : Key)).isSome := by
    cases hv : valP ks (Sum.inl k : Key) with
    | none => rw [k2 hv]; rfl
    | some d' => obtain ⟨v, e5, _⟩ := k1 d' hv; rw [e5]; rfl
  rw [e]
  exact q _ H1 (W1.pop.push (.bl _))
theorem ed_dnin {i : Nat} {l : Bool} {a : Addr} {ks : List (Key × PyData)} {k : Int} (hk : Ed c ρ ty (.int k) ρ1) (ha : ρ1[i]? = some (.mu l a (.dK ks))) : Ed c ρ (tDNotIn ty (tVar i)) (.bool (!(valP ks (Sum.inl k)).isSome)) ρ1 := fun T σ H W Q q => hk T σ H W _ fun w H1 W1 => by
  obtain ⟨h1, _, xs, e3, e4⟩ := W1.ok i _ ha
  obtain ⟨k1, k2⟩ := kvd_val (k := (Sum.inl k : Key)) e4
  refine ⟨_, h1, a, valV xs (Sum.inl k), rfl, by rw [dp_int W1.dp]; exact DGet.k (k := Sum.inl k) e3, ?_⟩
  have e : (valV xs (Sum.inl k : Key)).isSome = (valP ks (Sum.inl k : Key)).isSome := by
    cases hv : valP ks (Sum.inl k : Key) with
    | none => rw [k2 hv]; rfl
    | some d' => obtain ⟨v, e5, _⟩ := k1 d' hv; rw [e5]; rfl
  rw [e]
  exact q _ H1 (W1.pop.push (.bl _))
def rSortD (K : PySem.W.Frag) : List V → Hp → VK → Prop := fun xs H Q => ∃ (a : Addr) (kvs : List (Key × V)) (ks : List Int), xs = [.ref a] ∧ Rd H a (.dK kvs) ∧ kvs.map (·.1) = ks.map Sum.inl ∧ ks.length < 64 ∧
  ∀ (ys : List Int) (p : Addr), ys.Perm ks → ys.Pairwise (· ≤ ·) → H p = none → Q (.ref p) (upd H p (.lst (ys.map V.int)))
/-- sorted(x), of a dict with few keys -/
theorem el_sortD {i : Nat} {l : Bool} {a : Addr} {α : Type} {f : α → PyData} {kvs : List (Int × α)} (ha : ρ[i]? = some (.mu l a (.dK (eD f kvs)))) (hz : kvs.length < 64) : EdL c ρ (tCB (rSortD c.K) (tCons (tVar i) tNil)) ((sortI (kvs.map Prod.fst)).map .int) ρ := fun T σ H W Q q => by
  obtain ⟨h1, _, xs, e3, e4⟩ := W.ok i _ ha
  refine ⟨.ref a, h1, a, xs, kvs.map Prod.fst, rfl, .inl e3, ?_, by rw [List.length_map]; exact hz, fun ys p hp hs hn => ?_⟩
  · have := kvd_keys e4
    rw [show (fun x : Key × V => x.1) = Prod.fst from rfl, this, List.map_map, List.map_map]; rfl
  · obtain ⟨x1, x2, x3, x4⟩ := el_new W (dpa_ints ys) hn
    rw [sortI_un hp hs] at x3 x4 ⊢
    exact q p _ x1 x2 x3 x4
/-- sorted(x), of ints -/
theorem el_sortI {l : List Int} (h : Ed c ρ te (.list (l.map .int)) ρ1) : EdL c ρ (tCB (rSortedI c.K) (tCons te tNil)) ((sortI l).map .int) ρ1 := fun T σ H W Q q => h T σ H W _ fun v H1 W1 => by
  obtain ⟨a, xs, rfl, hs, h2⟩ := dp_lst W1.dp
  rw [dpaInts h2] at hs
  refine ⟨a, l, rfl, ex_l (hide_ex _ _) hs, fun ys p hp ha hn => ?_⟩
  obtain ⟨x1, x2, x3, x4⟩ := el_new W1.pop (dpa_ints ys) hn
  rw [sortI_un hp ha] at x3 x4 ⊢
  exact q p _ x1 x2 x3 x4
theorem sortU_core {w : World} {l : List Int} (hz : l.length < 64) {ρ1 : List Sl} {v : V} {H1 : Hp} (W1 : Wd c ((v, .list (l.map .int)) :: T) H1 σ ρ1) {Q : VK}
    (q : ∀ p H', c.B p = none → p ∉ hid c ρ1 → MoOk c.K (p :: hid c ρ1) H' p (.lst ((sortU l).map .int)) → Wd (c.hidden p) T H' σ ρ1 → Q (.ref p) H') : rSetLI c.K w [v] H1 fun x H2 => rSortedSet w [x] H2 Q := by
  obtain ⟨a, xs, rfl, hs, h2⟩ := dp_lst W1.dp
  rw [dpaInts h2] at hs
  refine ⟨a, l, rfl, ex_l (hide_ex _ _) hs, hz, fun p n hp hn => ?_⟩
  have W2 := W1.pop.grow (Ex.new (o := SetO w p (fun j => decide (j ∈ l)) n) hp)
  refine ⟨p, _, n, rfl, upd_same, by omega, fun ys r hy hk hl hr => ?_⟩
  obtain ⟨x1, x2, x3, x4⟩ := el_new W2 (dpa_ints ys) hr
  rw [sortU_un (l := l) hy (fun k => (hk k).trans (by simp))] at x3 x4 ⊢
  exact q r _ x1 x2 x3 x4
/-- sorted(set(x)), of ints -/
theorem el_sortU {w : World} {l : List Int} (h : Ed c ρ te (.list (l.map .int)) ρ1) (hz : l.length < 64) : EdL c ρ (tCB (rSortedSet w) (tCons (tCB (rSetLI c.K w) (tCons te tNil)) tNil)) ((sortU l).map .int) ρ1 := fun T σ H W Q q => h T σ H W _ fun v H1 W1 =>
  sortU_core hz W1 q
theorem ewl_sortU {w : World} {P : List Int → Prop} (h : Ew c ρ te (fun l : List Int => PyData.list (l.map PyData.int)) P ρ1) (hz : ∀ l, P l → l.length < 64) :
    EwL c ρ (tCB (rSortedSet w) (tCons (tCB (rSetLI c.K w) (tCons te tNil)) tNil)) (fun l : List Int => l.map PyData.int) (fun z => ∃ l, P l ∧ z = sortU l) ρ1 := fun T σ H W Q q => h T σ H W _ fun l v H1 hl W1 =>
  sortU_core (hz l hl) W1 fun p H' => q (sortU l) p H' ⟨l, hl, rfl⟩
end
end Nz

/-! (x, ..) * n; not of a list -/
namespace Nz
open PySem PySem.Spec PyProof.Rows L2 RZ
theorem tup_once (l : Addr) (items : Array Value) (n : Nat) (dd : Option Addr) (sl : Array (Option Value)) (u : Tok) :
    Meets (Builtin.«tuple.__mul__» ⟨[.ref l, .int 1 u], []⟩) (fun _ R s => s.heap.get? l = some { cls := .type "tuple", dict := dd, data := .seq items n, slots := sl } ∧ R (.ok (.ret (Value.ref l))) s) :=
  .of_wp fun prog w A R s h => by
    obtain ⟨hp, g, d, tk, os⟩ := s
    obtain ⟨hl, h⟩ := h
    have f1 := AutoSeq1.idx_int
    have c1 : (items.isEmpty || (1 : Int) == 1) = true := by rw [Bool.or_comm]; rfl
    wp_walk using wpAny_loadPart' hl
    exact ⟨_, rfl, h⟩
/-- t * k, k from 1 on -/
def rRepF (K : PySem.W.Frag) : R2 := fun x y H Q => ∃ a k xs, x = .ref a ∧ y = .int k ∧ SqT K H a xs ∧ xs ≠ [] ∧ 1 ≤ k ∧ k ≤ 1000 ∧ xs.length ≤ 1000 ∧
  (k = 1 → Q (.ref a) H) ∧ (k ≠ 1 → ∀ p o, o.dict = none → H p = none → Q (.ref p) (upd H p (.frz o (.tup (List.replicate k.toNat xs).flatten))))
section
variable {X : Cx}
theorem op_repF : OpR X (binaryOp .Mult) (rRepF X.K) := by
  intro pins s σ H x y v u Q I rx ry h
  obtain ⟨a, k, xs, rfl, rfl, isT, some_, lo, hi, few, q1, q2⟩ := h
  cases rx
  obtain ⟨tk, rfl⟩ := ry
  obtain ⟨vs, rv, ⟨⟨kcls, kd, kdata, ksl⟩, geta, cls_, cn, dat_⟩, big⟩ := I.tuple isT
  dsimp only at cls_ dat_
  subst cls_ dat_
  have len_ : vs.length = xs.length := rv.length.symm
  by_cases one_ : k = 1
  · subst one_
    refine wpAny_binaryOp_repeat_ref (T := "tuple") (U := "int") (by decide) ⟨_, geta, rfl⟩ (fun s' => typeIs_int s' 1 tk) noFill_tuple_mul F.fills_int_mul F.slot_int_rmul repeat_tuple F.slot_int_index.lookup
      (call_meets F.slot_int_rmul (typeIs_int s 1 tk) F.entry_int_rmul (F.args_int_rmul_2 _ _) (int_rmul_tuple 1 tk a vs.toArray cn kd ksl) ⟨geta, rfl, ⟨_, geta, rfl⟩, call_meets F.slot_tuple_mul ⟨_, geta, rfl⟩ F.entry_tuple_mul (F.args_tuple_mul_2 _ _) (tup_once a vs.toArray cn kd ksl tk) ⟨geta, ?_⟩⟩)
    exact ⟨.ref a, H, I, rfl, q1 rfl⟩
  · have nil_ : vs ≠ [] := fun e => some_ (List.eq_nil_of_length_eq_zero (by rw [← len_, e]; rfl))
    have em : vs.toArray.isEmpty = false := by cases vs with
      | nil => exact absurd rfl nil_
      | cons a b => rfl
    have szA : vs.toArray.size = xs.length := by rw [List.size_toArray, len_]
    have below : ((vs.toArray.size : Nat) : Int) * k ≤ 1000000 := by
      rw [szA]
      have := Int.mul_le_mul_of_nonneg_right (show ((xs.length : Nat) : Int) ≤ 1000 by omega) (show 0 ≤ k by omega)
      omega
    have below2 : k.toNat * xs.length ≤ 1000 * 1000 := Nat.mul_le_mul (by omega) few
    have out_ : (List.replicate k.toNat vs).flatten.length ≤ sizeLine := by rw [PyProof.Rows.lm_len_rep_flat, len_, sizeLine_eq]; omega
    refine wpAny_binaryOp_repeat_ref (T := "tuple") (U := "int") (by decide) ⟨_, geta, rfl⟩ (fun s' => typeIs_int s' k tk) noFill_tuple_mul F.fills_int_mul F.slot_int_rmul repeat_tuple F.slot_int_index.lookup
      (call_meets F.slot_int_rmul (typeIs_int s k tk) F.entry_int_rmul (F.args_int_rmul_2 _ _) (int_rmul_tuple k tk a vs.toArray cn kd ksl) ⟨geta, rfl, ⟨_, geta, rfl⟩, call_meets F.slot_tuple_mul ⟨_, geta, rfl⟩ F.entry_tuple_mul (F.args_tuple_mul_2 _ _)
        (tuple_mulW a vs.toArray cn kd ksl k tk (by simp; omega) (by rw [em, Bool.false_or]; exact beq_eq_false_iff_ne.mpr one_) (by rw [em, Bool.or_false]; exact decide_eq_false (by omega)) (by omega) (by unfold Builtin.Tuple.tupleTooMany; rw [sizeLine_eq]; exact decide_eq_false (by omega)) (by rw [size_rep, List.size_toArray]; exact out_)) ⟨geta, ?_⟩⟩)
    rw [size_rep]
    exact newTup I (by rw [PyProof.Rows.lm_len_rep_flat, sizeLine_eq]; omega) (rv.rep k.toNat) (q2 one_)
end
section
variable {c : Cz} {ρ ρ1 ρ2 ρ3 : List Sl} {ta tb te tx : TE} {d d1 d2 d3 : PyData} {T : Tm} {H H' : Hp} {σ : L2.St}
theorem ed_repT {α : Type} {f : α → PyData} {l : List α} {k : Int} (ha : Ed c ρ ta (.tuple (l.map f)) ρ1) (hb : Ed c ρ1 tb (.int k) ρ2) (hl : l ≠ [] ∧ l.length ≤ 1000) (hk : 1 ≤ k ∧ k ≤ 1000) : Ed c ρ (tOp (rRepF c.K) ta tb) (.tuple ((List.replicate k.toNat l).flatten.map f)) ρ2 :=
  ed_op ha hb fun T σ H x y W hx hy Q q => by
    obtain ⟨a, xs, rfl, hs, h2⟩ := dp_tup hx
    have hn := dpa_length h2
    rw [List.length_map] at hn
    have e : (List.replicate k.toNat l).flatten.map f = (List.replicate k.toNat (l.map f)).flatten := by rw [List.map_flatten, List.map_replicate]
    refine ⟨a, k, xs, rfl, dp_int hy, (ex_p (hide_ex _ _) hs).sq, fun z => hl.1 (List.eq_nil_of_length_eq_zero (by rw [← hn, z]; rfl)), hk.1, hk.2, by omega, fun h1 => ?_, fun _ p o z hp => ?_⟩
    · subst h1
      have e1 : (List.replicate (1 : Int).toNat l).flatten = l := by show ([l]).flatten = l; simp
      rw [e1] at q
      exact q _ H (W.push hx)
    · rw [e] at q
      exact q _ _ (tup_new W (dpa_rep h2 _) z hp)
theorem ed_notX {b : Bool} (h : Ed c ρ te d ρ1) (e : truD d = b) (ok : truOk d = true) : Ed c ρ (tNotT c.K te) (.bool (!b)) ρ1 := fun T σ H W Q q => h T σ H W _ fun v H1 W1 => by
  subst e
  exact ⟨_, tru_dp (dpm (hide_ex _ _) W1.dp) ok, q _ H1 (W1.pop.push (.bl _))⟩
theorem ed_notL {α : Type} {f : α → PyData} {l : List α} (h : Ed c ρ te (.list (l.map f)) ρ1) : Ed c ρ (tNotT c.K te) (.bool (!(!l.isEmpty))) ρ1 := ed_notX h (by show (!(l.map f).isEmpty) = _; cases l <;> rfl) rfl
theorem ed_notTu {α : Type} {f : α → PyData} {l : List α} (h : Ed c ρ te (.tuple (l.map f)) ρ1) : Ed c ρ (tNotT c.K te) (.bool (!(!l.isEmpty))) ρ1 := ed_notX h (by show (!(l.map f).isEmpty) = _; cases l <;> rfl) rfl
theorem s_par3W {α β γ : Type} {f : α → PyData} {g : β → PyData} {e : γ → PyData} {P : α → Prop} {P2 : β → Prop} {P3 : γ → Prop} {te1 te2 te3 : TE} {nx bk ct : L2.St → Hp → Prop} {rt : VK} {i j l : Nat} (h : Ew c ρ te1 f P ρ1) (h2 : Ew c ρ1 te2 g P2 ρ2) (h3 : Ew c ρ2 te3 e P3 ρ3)
    (k : ∀ x y z, P x → P2 y → P3 z → Sk c T (((ρ3.set i (.da (f x))).set j (.da (g y))).set l (.da (e z))) nx) : Ss c T ρ (tPar3 i j l (tCons te1 (tCons te2 (tCons te3 tNil)))) ⟨nx, rt, bk, ct⟩ := fun σ H W =>
  h T σ H W _ fun x u H1 px W1 => h2 _ σ H1 W1 _ fun y v H2 py W2 => h3 _ σ H2 W2 _ fun z w H3 pz W3 => by
    refine ⟨u, v, w, rfl, ?_⟩
    have W4 := W3.setD i W3.pop.pop.dp
    have W5 := W4.setD j W4.pop.dp
    have W6 := W5.setD l W5.dp
    exact k x y z px py pz _ _ W6.pop.pop.pop
end
end Nz

set_option exponentiation.threshold 10000
/-! trees: the mathematics -/
namespace Nz
open PySem PySem.Spec PyProof.Rows L2 RZ
theorem rng_get {n i x : Nat} (h : (List.range n)[i]? = some x) : x = i ∧ i < n := by
  have hi := (List.getElem?_eq_some_iff.mp h).1
  rw [List.length_range] at hi
  rw [List.getElem?_range hi] at h
  cases h
  exact ⟨rfl, hi⟩
theorem all_id {α : Type} {l : List α} {f : α → Bool} (h : ∀ x ∈ l, f x = true) : (l.map f).all id = true := by
  rw [List.all_map, List.all_eq_true]
  exact h
theorem inb {n : Nat} {i : Int} (h : 0 ≤ i ∧ i < n) : InB n i := ⟨by omega, h.2⟩
theorem small_lt {a : Int} (h : -(2 ^ 64) < a ∧ a < 2 ^ 64) : a.natAbs < 2 ^ 8999 := Nat.lt_of_lt_of_le (show a.natAbs < 2 ^ 64 by omega) (Nat.pow_le_pow_right (by decide) (by decide))
theorem divI (a b : Int) : Rat.divInt a b = (a : Rat) / (b : Rat) := Rat.divInt_eq_div a b
theorem less_q {a b c d : Rat} (hb : 0 < b) (hd : 0 < d) : (a * d < c * b) ↔ (a / b < c / d) := by
  have e : c / d * b = (c * b) / d := by grind
  rw [Rat.div_lt_iff hb, e, Rat.lt_div_iff hd]
theorem less_i {a b c d : Int} (hb : 0 < b) (hd : 0 < d) : (a * d < c * b) ↔ (qv (a, b) < qv (c, d)) := by
  unfold qv
  rw [divI, divI]
  show _ ↔ (a : Rat) / (b : Rat) < (c : Rat) / (d : Rat)
  rw [← less_q (Rat.intCast_lt_intCast.mpr hb) (Rat.intCast_lt_intCast.mpr hd), ← Rat.intCast_mul, ← Rat.intCast_mul, Rat.intCast_lt_intCast]
/-- below, of pairs with a positive second part -/
theorem less_iff {a b c d : Int} (hb : 0 < b) (hd : 0 < d) : decide (a * d < c * b) = decide (qv (a, b) < qv (c, d)) := by
  have e := less_i (a := a) (c := c) hb hd
  by_cases h : a * d < c * b
  · rw [decide_eq_true h, decide_eq_true (e.mp h)]
  · rw [decide_eq_false h, decide_eq_false fun z => h (e.mpr z)]
theorem pow_succ' (r : Rat) (n : Nat) : r ^ (n + 1) = r ^ n * r := Rat.pow_succ ..
theorem Qk_pow {k : Nat} {r : Rat} (h : Qk k r) : ∀ n, Qk (k * n) (r ^ n)
  | 0 => by rw [Rat.pow_zero]; exact Qk_one _
  | n + 1 => by rw [pow_succ', Nat.mul_succ]; exact Qk_mul (Qk_pow h n) h
theorem Q_gcd (r : Rat) : Nat.gcd r.num.natAbs r.den = 1 := r.reduced
/-! ### markets -/
abbrev Mk := Rat × Rat × Rat × Rat
def FacOk (r : Rat) : Prop := 1 ≤ r.num ∧ r.num ≤ 1000 ∧ r.den ≤ 1000
/-- price, up, down, rate -/
def MkOk (m : Mk) : Prop := (FacOk m.1 ∧ FacOk m.2.1 ∧ FacOk m.2.2.1 ∧ FacOk m.2.2.2) ∧ m.2.2.1 < m.2.2.2 ∧ m.2.2.2 < m.2.1
theorem FacOk.qk {r : Rat} (h : FacOk r) : Qk 10 r := by
  obtain ⟨h1, h2, h3⟩ := h
  exact ⟨by omega, by omega⟩
def share (m : Mk) : Rat := (m.2.2.2 - m.2.2.1) / (m.2.1 - m.2.2.1)
def nodeP (m : Mk) (step ups : Int) : Rat := m.1 * (m.2.1 ^ ups.toNat * m.2.2.1 ^ (step - ups).toNat)
theorem mk_du {m : Mk} (h : MkOk m) : qv (qp m.2.2.1) < qv (qp m.2.1) := by rw [qv_qp, qv_qp]; exact Std.lt_trans h.2.1 h.2.2
theorem mk_fac {m : Mk} (h : MkOk m) {r : Rat} (hr : r ∈ [m.1, m.2.1, m.2.2.1, m.2.2.2]) : FacOk r := by
  simp only [List.mem_cons, List.not_mem_nil, or_false] at hr
  rcases hr with rfl | rfl | rfl | rfl
  · exact h.1.1
  · exact h.1.2.1
  · exact h.1.2.2.1
  · exact h.1.2.2.2
theorem den_pos (r : Rat) : 0 < (qp r).2 := by have := r.den_pos; show (0 : Int) < (r.den : Int); omega
theorem mk_ne {m : Mk} (h : MkOk m) : m.2.1 - m.2.2.1 ≠ 0 := fun q => by
  have h1 : m.2.2.1 < m.2.1 := Std.lt_trans h.2.1 h.2.2
  grind
theorem Qk_add {j k : Nat} {r q : Rat} (h1 : Qk j r) (h2 : Qk k q) : Qk (j + k + 1) (r + q) := by
  rw [← q_add]
  have := r.den_nz
  have := q.den_nz
  have a1 : (r.num * (q.den : Int)).natAbs ≤ 2 ^ (j + k) := by rw [Int.natAbs_mul, Nat.pow_add]; exact Nat.mul_le_mul h1.1 h2.2
  have a2 : (q.num * (r.den : Int)).natAbs ≤ 2 ^ (j + k) := by rw [Int.natAbs_mul, Nat.pow_add, Nat.mul_comm]; exact Nat.mul_le_mul h1.2 h2.1
  refine Qk_divInt (Int.mul_pos (by omega) (by omega)) ?_ ?_
  · refine Nat.le_trans (Int.natAbs_add_le _ _) ?_
    rw [Nat.pow_succ]; omega
  · rw [Int.natAbs_mul, Nat.pow_succ, Nat.pow_add]
    have : (r.den : Int).natAbs * (q.den : Int).natAbs ≤ 2 ^ j * 2 ^ k := Nat.mul_le_mul h1.2 h2.2
    omega
theorem Qk_neg {k : Nat} {r : Rat} (h : Qk k r) : Qk k (-r) := ⟨by rw [Rat.neg_num, Int.natAbs_neg]; exact h.1, by rw [Rat.neg_den]; exact h.2⟩
theorem Qk_sub {j k : Nat} {r q : Rat} (h1 : Qk j r) (h2 : Qk k q) : Qk (j + k + 1) (r - q) := by
  rw [Rat.sub_eq_add_neg]; exact Qk_add h1 (Qk_neg h2)
/-! ### claims -/
/-- a triangle of amounts -/
def ClOk (claim : List (List Int)) : Prop := 1 ≤ claim.length ∧ claim.length ≤ 13 ∧ ∀ (i : Nat) (row : List Int), claim[i]? = some row → row.length = i + 1 ∧ ∀ x ∈ row, 0 ≤ x ∧ x ≤ 1000000
theorem en_get {α : Type} {l : List α} {i : Nat} {p : α × Nat} (h : l.zipIdx[i]? = some p) : p.2 = i ∧ l[i]? = some p.1 ∧ i < l.length := by
  rw [List.getElem?_zipIdx] at h
  cases e : l[i]? with
  | none => rw [e] at h; cases h
  | some a =>
    rw [e] at h
    cases h
    exact ⟨by simp, rfl, (List.getElem?_eq_some_iff.mp e).1⟩
theorem cl_row {claim : List (List Int)} (h : ClOk claim) {i : Nat} {p : List Int × Nat} (hp : claim.zipIdx[i]? = some p) : p.2 = i ∧ p.1.length = p.2 + 1 ∧ ∀ x ∈ p.1, 0 ≤ x ∧ x ≤ 1000000 := by
  obtain ⟨h1, h2, h3⟩ := en_get hp
  have := h.2.2 i p.1 h2
  exact ⟨h1, by rw [h1]; exact this.1, this.2⟩
/-! ### nodes -/
abbrev Nd := Rat × Rat × Rat
def heldS (m : Mk) (high low price : Rat) : Rat := (high - low) / (price * (m.2.1 - m.2.2.1))
def heldM (m : Mk) (high low price : Rat) : Rat := (high - heldS m high low price * (price * m.2.1)) / m.2.2.2
def heldF (m : Mk) (high low price : Rat) : Nd := (heldS m high low price * price + heldM m high low price, heldS m high low price, heldM m high low price)
def anyS : Str := Str.ofString "any"
def nodeStep (m : Mk) (kind : Str) (claim : List (List Int)) (later : List Nd) (step : Int) (ups : Nat) : Nd :=
  let h := heldF m (ixG later ((ups : Int) + 1)).1 (ixG later (ups : Int)).1 (nodeP m step (ups : Int))
  if (decide (kind = anyS) && decide (h.1 < ((ixG (ixG claim step) (ups : Int) : Int) : Rat))) = true then (((ixG (ixG claim step) (ups : Int) : Int) : Rat), h.2.1, h.2.2) else h
def lastRow (claim : List (List Int)) : List Nd := (ixG claim (-1)).map fun (p : Int) => (((p : Int) : Rat), (0 : Rat), (0 : Rat))
def rowsDn (m : Mk) (kind : Str) (claim : List (List Int)) : Nat → List (List Nd)
  | 0 => [lastRow claim]
  | k + 1 => rowsDn m kind claim k ++ [(List.range ((claim.length : Int) - 2 - (k : Int) + 1).toNat).map (nodeStep m kind claim (ixG (rowsDn m kind claim k) (-1)) ((claim.length : Int) - 2 - (k : Int)))]
def nodesOf (m : Mk) (kind : Str) (claim : List (List Int)) : List (List Nd) := (rowsDn m kind claim (claim.length - 1)).reverse
theorem num_pos1 {r : Rat} (h : 0 < r) : 0 < r.num := Rat.intCast_pos.mp h
theorem num_pos2 {r : Rat} (h : 0 < r.num) : 0 < r := by
  rcases (show 0 < r ∨ 0 = r ∨ r < 0 by grind) with q | q | q
  · exact q
  · rw [← q] at h; exact absurd h (by decide)
  · have z : 0 < -r := by grind
    have := num_pos1 z
    rw [Rat.neg_num] at this
    omega
theorem mk_pos {m : Mk} (h : MkOk m) : (0 < m.1 ∧ 0 < m.2.1) ∧ 0 < m.2.2.1 ∧ 0 < m.2.2.2 := by
  have z : ∀ {r : Rat}, FacOk r → 0 < r := fun {r} hr => num_pos2 (by have := hr.1; omega)
  exact ⟨⟨z h.1.1, z h.1.2.1⟩, z h.1.2.2.1, z h.1.2.2.2⟩
theorem pos_ne {r : Rat} (h : 0 < r) : r ≠ 0 := fun e => by rw [e] at h; exact absurd h (by decide +kernel)
theorem Qk_div {j k : Nat} {r q : Rat} (h1 : Qk j r) (h2 : Qk k q) (h : 0 < q) : Qk (j + k) (r / q) := by
  rw [← q_div]
  have hn := num_pos1 h
  have := r.den_nz
  refine Qk_divInt (Int.mul_pos (by omega) hn) ?_ ?_
  · rw [Int.natAbs_mul, Nat.pow_add]; exact Nat.mul_le_mul h1.1 h2.2
  · rw [Int.natAbs_mul, Nat.pow_add]; exact Nat.mul_le_mul h1.2 h2.1
theorem mk_gap {m : Mk} (h : MkOk m) : 0 < m.2.1 - m.2.2.1 := by
  have h1 : m.2.2.1 < m.2.1 := Std.lt_trans h.2.1 h.2.2
  grind
/-- what a pair of later worths is bounded by -/
def Hb (high low : Rat) : Prop := Qk 1300 high ∧ Qk 1300 low ∧ Qk 1300 (high - low)
section
variable {m : Mk} {high low price : Rat}
theorem heldS_qk (hm : MkOk m) (hp : 0 < price ∧ Qk 260 price) (h : Hb high low) : Qk 1590 (heldS m high low price) := by
  have g := Rat.mul_pos hp.1 (mk_gap hm)
  exact (Qk_div h.2.2 (Qk_mul hp.2 (Qk_sub hm.1.2.1.qk hm.1.2.2.1.qk)) g).mono (by decide)
theorem heldM_qk (hm : MkOk m) (hp : 0 < price ∧ Qk 260 price) (h : Hb high low) : Qk 3200 (heldM m high low price) :=
  (Qk_div (Qk_sub h.1 (Qk_mul (heldS_qk hm hp h) (Qk_mul hp.2 hm.1.2.1.qk))) hm.1.2.2.2.qk (mk_pos hm).2.2).mono (by decide)
end
theorem rngDn_get {a b x : Int} {i : Nat} (h : (rngDn a b)[i]? = some x) : x = a - (i : Int) ∧ (i : Int) < a - b := by
  unfold rngDn at h
  rw [List.getElem?_map] at h
  cases e : (List.range (a - b).toNat)[i]? with
  | none => rw [e] at h; cases h
  | some j =>
    rw [e] at h
    cases h
    have := rng_get e
    exact ⟨by rw [this.1], by omega⟩
theorem ixG_snoc {α : Type} [Inhabited α] (l : List α) (x : α) : ixG (l ++ [x]) (-(1 : Int)) = x := ixG_last l x
theorem qv_1 (k : Int) : qv (k, 1) = (k : Rat) := by unfold qv; rw [divI]; show (k : Rat) / ((1 : Int) : Rat) = _; grind
section
variable {m : Mk} {kind : Str} {claim : List (List Int)} {later : List Nd} {step : Int} {i : Nat}
abbrev hN (m : Mk) (later : List Nd) (step : Int) (i : Nat) : Nd := heldF m (ixG later ((i : Int) + 1)).1 (ixG later (i : Int)).1 (nodeP m step (i : Int))
theorem node_no (hc : (decide (kind = anyS) && decide ((ixG ((List.range i).map (nodeStep m kind claim later step) ++ [hN m later step i]) (-(1 : Int))).1 < qv ((ixG (ixG claim step) (i : Int)), (1 : Int)))) = false) :
    (List.range i).map (nodeStep m kind claim later step) ++ [hN m later step i] = (List.range (i + 1)).map (nodeStep m kind claim later step) := by
  rw [ixG_snoc, qv_1] at hc
  rw [List.range_succ, List.map_append]
  congr 1
  show [_] = [nodeStep m kind claim later step i]
  unfold nodeStep
  rw [if_neg (by rw [hc]; decide)]
theorem node_yes (hc : (decide (kind = anyS) && decide ((ixG ((List.range i).map (nodeStep m kind claim later step) ++ [hN m later step i]) (-(1 : Int))).1 < qv ((ixG (ixG claim step) (i : Int)), (1 : Int)))) = true) {n : Nat} (hn : n = ((List.range i).map (nodeStep m kind claim later step) ++ [hN m later step i]).length - 1) :
    ((List.range i).map (nodeStep m kind claim later step) ++ [hN m later step i]).set n ((((ixG (ixG claim step) (i : Int) : Int) : Rat), (ixG ((List.range i).map (nodeStep m kind claim later step) ++ [hN m later step i]) (-(1 : Int))).2.1, (ixG ((List.range i).map (nodeStep m kind claim later step) ++ [hN m later step i]) (-(1 : Int))).2.2)) = (List.range (i + 1)).map (nodeStep m kind claim later step) := by
  subst hn
  rw [ixG_snoc] at hc ⊢
  rw [qv_1] at hc
  rw [List.range_succ, List.map_append]
  have e : ((List.range i).map (nodeStep m kind claim later step) ++ [hN m later step i]).length - 1 = ((List.range i).map (nodeStep m kind claim later step)).length := by simp
  rw [e, List.set_append_right _ _ (Nat.le_refl _), Nat.sub_self]
  congr 1
  show [_] = [nodeStep m kind claim later step i]
  unfold nodeStep
  rw [if_pos hc]
end
/-! ### what nodes are bounded by -/
def wC1 (m : Mk) : Rat := (m.2.2.2 - m.2.2.1) / ((m.2.1 - m.2.2.1) * m.2.2.2)
def wC2 (m : Mk) : Rat := (m.2.1 - m.2.2.2) / ((m.2.1 - m.2.2.1) * m.2.2.2)
def D0 (m : Mk) : Nat := (wC1 m).den * (wC2 m).den
theorem held_val {m : Mk} (h : MkOk m) {high low price : Rat} (hp : 0 < price) : (heldF m high low price).1 = wC1 m * high + wC2 m * low := by
  have g := pos_ne (mk_gap h)
  have r := pos_ne (mk_pos h).2.2
  have p := pos_ne hp
  show heldS m high low price * price + heldM m high low price = _
  unfold heldM heldS wC1 wC2
  obtain ⟨a, u, d, r0⟩ := m
  dsimp only at *
  clear h hp
  grind
theorem wC_qk {m : Mk} (h : MkOk m) : Qk 52 (wC1 m) ∧ Qk 52 (wC2 m) := by
  have g := Rat.mul_pos (mk_gap h) (mk_pos h).2.2
  have q := Qk_mul (Qk_sub h.1.2.1.qk h.1.2.2.1.qk) h.1.2.2.2.qk
  exact ⟨(Qk_div (Qk_sub h.1.2.2.2.qk h.1.2.2.1.qk) q g).mono (by decide), (Qk_div (Qk_sub h.1.2.1.qk h.1.2.2.2.qk) q g).mono (by decide)⟩
theorem wC_bd {m : Mk} (h : MkOk m) : Bd (2 ^ 104) (D0 m) (wC1 m) ∧ Bd (2 ^ 104) (D0 m) (wC2 m) := by
  obtain ⟨⟨a1, a2⟩, b1, b2⟩ := wC_qk h
  have p1 := (wC1 m).den_pos
  have p2 := (wC2 m).den_pos
  have hp : 0 < D0 m := Nat.mul_pos p1 p2
  refine ⟨⟨hp, (wC1 m).num * (wC2 m).den, ?_, ?_⟩, ⟨hp, (wC1 m).den * (wC2 m).num, ?_, ?_⟩⟩
  · rw [Int.natAbs_mul, show 104 = 52 + 52 by rfl, Nat.pow_add]; exact Nat.mul_le_mul a1 b2
  · unfold D0
    rw [Int.natCast_mul, Rat.divInt_mul_right (by omega), Rat.num_divInt_den]
  · rw [Int.natAbs_mul, show 104 = 52 + 52 by rfl, Nat.pow_add]; exact Nat.mul_le_mul a2 b1
  · unfold D0
    rw [Int.natCast_mul, Rat.divInt_mul_left (by omega), Rat.num_divInt_den]
theorem D0_le {m : Mk} (h : MkOk m) : 0 < D0 m ∧ D0 m ≤ 2 ^ 104 := by
  obtain ⟨⟨a1, a2⟩, b1, b2⟩ := wC_qk h
  refine ⟨Nat.mul_pos (wC1 m).den_pos (wC2 m).den_pos, ?_⟩
  unfold D0
  rw [show 104 = 52 + 52 by rfl, Nat.pow_add]; exact Nat.mul_le_mul a2 b2
def WB (m : Mk) (k : Nat) (r : Rat) : Prop := Bd (2 ^ (20 + 105 * k)) (D0 m ^ k) r
theorem WB_claim {m : Mk} (h : MkOk m) {c : Int} (hc : 0 ≤ c ∧ c ≤ 1000000) (k : Nat) : WB m k ((c : Int) : Rat) := by
  obtain ⟨d1, d2⟩ := D0_le h
  have hp : 0 < D0 m ^ k := Nat.pow_pos d1
  refine ⟨hp, c * ((D0 m ^ k : Nat) : Int), ?_, ?_⟩
  · rw [Int.natAbs_mul, Int.natAbs_natCast, Nat.pow_add]
    refine Nat.mul_le_mul (show c.natAbs ≤ 2 ^ 20 by omega) ?_
    calc D0 m ^ k ≤ (2 ^ 104) ^ k := Nat.pow_le_pow_left d2 k
      _ = 2 ^ (104 * k) := by rw [← Nat.pow_mul]
      _ ≤ 2 ^ (105 * k) := Nat.pow_le_pow_right (by decide) (by omega)
  · rw [divI, Rat.intCast_mul]
    have ne : (((D0 m ^ k : Nat) : Int) : Rat) ≠ 0 := fun q => absurd (show ((D0 m ^ k : Nat) : Int) = 0 by exact_mod_cast q) (by omega)
    grind
theorem WB_next {m : Mk} (h : MkOk m) {k : Nat} {a b : Rat} (ha : WB m k a) (hb : WB m k b) : WB m (k + 1) (wC1 m * a + wC2 m * b) := by
  obtain ⟨w1, w2⟩ := wC_bd h
  have z := Bd_add (Bd_mul w1 ha) (Bd_mul w2 hb)
  unfold WB
  rw [show D0 m ^ (k + 1) = D0 m * D0 m ^ k by rw [Nat.pow_succ, Nat.mul_comm]]
  refine z.mono ?_
  rw [← Nat.pow_add, ← Nat.two_mul, show 2 * 2 ^ (104 + (20 + 105 * k)) = 2 ^ (104 + (20 + 105 * k) + 1) by rw [Nat.pow_succ, Nat.mul_comm]]
  exact Nat.pow_le_pow_right (by decide) (by omega)
theorem WB_qk {m : Mk} (h : MkOk m) {k : Nat} (hk : k ≤ 12) {r : Rat} (hr : WB m k r) : Qk 1290 r := by
  obtain ⟨d1, d2⟩ := D0_le h
  refine hr.qk (Nat.pow_le_pow_right (by decide) (by omega)) ?_
  calc D0 m ^ k ≤ (2 ^ 104) ^ k := Nat.pow_le_pow_left d2 k
    _ = 2 ^ (104 * k) := by rw [← Nat.pow_mul]
    _ ≤ 2 ^ 1290 := Nat.pow_le_pow_right (by decide) (by omega)
theorem WB_hb {m : Mk} (h : MkOk m) {k : Nat} (hk : k ≤ 12) {a b : Rat} (ha : WB m k a) (hb : WB m k b) : Hb a b := by
  obtain ⟨d1, d2⟩ := D0_le h
  refine ⟨(WB_qk h hk ha).mono (by decide), (WB_qk h hk hb).mono (by decide), ?_⟩
  have hn : Bd (2 ^ (20 + 105 * k)) (D0 m ^ k) (-b) := by
    obtain ⟨h0, n, hn, e⟩ := hb
    exact ⟨h0, -n, by rw [Int.natAbs_neg]; exact hn, by rw [e, Rat.neg_divInt]⟩
  have z := Bd_add ha hn
  rw [← Rat.sub_eq_add_neg] at z
  refine z.qk ?_ ?_
  · rw [← Nat.two_mul, show 2 * 2 ^ (20 + 105 * k) = 2 ^ (20 + 105 * k + 1) by rw [Nat.pow_succ, Nat.mul_comm]]
    exact Nat.pow_le_pow_right (by decide) (by omega)
  · calc D0 m ^ k ≤ (2 ^ 104) ^ k := Nat.pow_le_pow_left d2 k
      _ = 2 ^ (104 * k) := by rw [← Nat.pow_mul]
      _ ≤ 2 ^ 1300 := Nat.pow_le_pow_right (by decide) (by omega)
theorem held_wb {m : Mk} (h : MkOk m) {k : Nat} {a b price : Rat} (hp : 0 < price) (ha : WB m k a) (hb : WB m k b) : WB m (k + 1) (heldF m a b price).1 := by rw [held_val h hp]; exact WB_next h ha hb
/-! ### rows -/
theorem ixG_mem {α : Type} [Inhabited α] {l : List α} {i : Int} (h : 0 ≤ i ∧ i < l.length) : ixG l i ∈ l := by
  have e : l[i.toNat]? = some (l[i.toNat]'(by omega)) := List.getElem?_eq_getElem (by omega)
  have := ixG_nat e
  rw [show ((i.toNat : Nat) : Int) = i by omega] at this
  rw [this]; exact List.getElem_mem _
theorem cl_ix {claim : List (List Int)} (h : ClOk claim) {s : Int} (hs : 0 ≤ s ∧ s < claim.length) : (ixG claim s).length = s.toNat + 1 ∧ ∀ x ∈ ixG claim s, 0 ≤ x ∧ x ≤ 1000000 := by
  have e : claim[s.toNat]? = some (claim[s.toNat]'(by omega)) := List.getElem?_eq_getElem (by omega)
  have := ixG_nat e
  rw [show ((s.toNat : Nat) : Int) = s by omega] at this
  rw [this]
  exact h.2.2 _ _ e
theorem ixG_neg {α : Type} [Inhabited α] {l : List α} (h : 0 < l.length) : ixG l (-1) = ixG l ((l.length : Int) - 1) := by
  have e : l[l.length - 1]? = some (l[l.length - 1]'(by omega)) := List.getElem?_eq_getElem (by omega)
  have h1 := ixG_nat e
  rw [show ((l.length - 1 : Nat) : Int) = (l.length : Int) - 1 by omega] at h1
  rw [h1]
  unfold ixG atI ixN
  rw [if_neg (by decide), if_pos (by omega)]
  show (l[((-1 : Int) + l.length).toNat]?).getD _ = _
  rw [show ((-1 : Int) + (l.length : Int)).toNat = l.length - 1 by omega, e]; rfl
theorem nodeP_ok {m : Mk} (h : MkOk m) {step ups : Int} (hs : 0 ≤ ups ∧ ups ≤ step ∧ step ≤ 12) : 0 < nodeP m step ups ∧ Qk 260 (nodeP m step ups) := by
  obtain ⟨⟨p1, p2⟩, p3, p4⟩ := mk_pos h
  refine ⟨Rat.mul_pos p1 (Rat.mul_pos (Rat.pow_pos p2) (Rat.pow_pos p3)), ?_⟩
  exact (Qk_mul h.1.1.qk (Qk_mul (Qk_pow h.1.2.1.qk _) (Qk_pow h.1.2.2.1.qk _))).mono (by omega)
theorem rows_inv {m : Mk} {kind : Str} {claim : List (List Int)} (hm : MkOk m) (hc : ClOk claim) : ∀ k : Nat, k + 1 ≤ claim.length →
    (rowsDn m kind claim k).length = k + 1 ∧ (ixG (rowsDn m kind claim k) (-(1 : Int))).length = claim.length - k ∧ ∀ nd ∈ ixG (rowsDn m kind claim k) (-(1 : Int)), WB m k nd.1
  | 0, h => by
    have h1 := hc.1
    have e : ixG claim (-1) = ixG claim ((claim.length : Int) - 1) := ixG_neg (by omega)
    obtain ⟨l1, l2⟩ := cl_ix hc (s := (claim.length : Int) - 1) (by omega)
    have er : ixG (rowsDn m kind claim 0) (-(1 : Int)) = lastRow claim := ixG_snoc [] (lastRow claim)
    rw [er]
    refine ⟨rfl, ?_, fun nd hnd => ?_⟩
    · unfold lastRow; rw [List.length_map, e, l1]; omega
    · unfold lastRow at hnd
      obtain ⟨p, hp, rfl⟩ := List.mem_map.mp hnd
      rw [e] at hp
      exact WB_claim hm (l2 p hp) 0
  | k + 1, h => by
    obtain ⟨i1, i2, i3⟩ := rows_inv hm hc k (by omega)
    have hl := hc.2.1
    have er : ixG (rowsDn m kind claim (k + 1)) (-(1 : Int)) = (List.range ((claim.length : Int) - 2 - (k : Int) + 1).toNat).map (nodeStep m kind claim (ixG (rowsDn m kind claim k) (-1)) ((claim.length : Int) - 2 - (k : Int))) := ixG_snoc _ _
    rw [er]
    refine ⟨by show (rowsDn m kind claim k ++ [_]).length = _; rw [List.length_append, i1]; rfl, by rw [List.length_map, List.length_range]; omega, fun nd hnd => ?_⟩
    obtain ⟨j, hj, rfl⟩ := List.mem_map.mp hnd
    have hj := List.mem_range.mp hj
    obtain ⟨l1, l2⟩ := cl_ix hc (s := (claim.length : Int) - 2 - (k : Int)) (by omega)
    unfold nodeStep
    dsimp only
    split
    · exact WB_claim hm (l2 _ (ixG_mem (by omega))) _
    · rw [held_val hm (nodeP_ok hm (by omega)).1]
      exact WB_next hm (i3 _ (ixG_mem (by rw [i2]; omega))) (i3 _ (ixG_mem (by rw [i2]; omega)))
theorem rngDn_len {a b : Int} : (rngDn a b).length = (a - b).toNat := by unfold rngDn; rw [List.length_map, List.length_range]
theorem rows_step {m : Mk} {kind : Str} {claim : List (List Int)} {i : Nat} {x : Int} (hx : x = (claim.length : Int) - 2 - (i : Int)) {n : Nat} (hn : n = (x + 1).toNat) :
    rowsDn m kind claim i ++ [(List.range n).map (nodeStep m kind claim (ixG (rowsDn m kind claim i) (-(1 : Int))) x)] = rowsDn m kind claim (i + 1) := by
  subst hx; subst hn; rfl
theorem rows_mem {m : Mk} {kind : Str} {claim : List (List Int)} (hm : MkOk m) (hc : ClOk claim) : ∀ k : Nat, k + 1 ≤ claim.length → ∀ row ∈ rowsDn m kind claim k, row.length ≤ claim.length
  | 0, h, row, hr => by
    have e : row = lastRow claim := List.mem_singleton.mp hr
    have q := (rows_inv (kind := kind) hm hc 0 h).2.1
    have er : ixG (rowsDn m kind claim 0) (-(1 : Int)) = lastRow claim := ixG_snoc [] (lastRow claim)
    rw [er] at q; rw [e]; omega
  | k + 1, h, row, hr => by
    have q := (rows_inv (kind := kind) hm hc (k + 1) h).2.1
    have er : ixG (rowsDn m kind claim (k + 1)) (-(1 : Int)) = (List.range ((claim.length : Int) - 2 - (k : Int) + 1).toNat).map (nodeStep m kind claim (ixG (rowsDn m kind claim k) (-1)) ((claim.length : Int) - 2 - (k : Int))) := ixG_snoc _ _
    rcases List.mem_append.mp hr with g | g
    · exact rows_mem hm hc k (by omega) row g
    · rw [er] at q; rw [List.mem_singleton.mp g, q]; omega
theorem nodes_mem {m : Mk} {kind : Str} {claim : List (List Int)} (hm : MkOk m) (hc : ClOk claim) {row : List Nd} (hr : row ∈ nodesOf m kind claim) : row.length ≤ claim.length :=
  rows_mem hm hc _ (by have := hc.1; omega) row (List.mem_reverse.mp hr)
theorem nodes_len {m : Mk} {kind : Str} {claim : List (List Int)} (hm : MkOk m) (hc : ClOk claim) : (nodesOf m kind claim).length = claim.length := by
  unfold nodesOf; rw [List.length_reverse, (rows_inv hm hc _ (by have := hc.1; omega)).1]; have := hc.1; omega
/-! ### the claim at the end, by ways -/
def uad (m : Mk) (claim : List (List Int)) (n : Nat) : Nat → Rat × Int
  | 0 => (0, 1)
  | k + 1 => ((uad m claim n k).1 + share m ^ k * (1 - share m) ^ (n - k) * ((((uad m claim n k).2 * ixG (ixG claim (-(1 : Int))) (k : Int) : Int)) : Rat), (uad m claim n k).2 * ((n : Int) - (k : Int)) / ((k : Int) + 1))
theorem uad_ways {m : Mk} {claim : List (List Int)} {n : Nat} (hn : n ≤ 12) : ∀ k : Nat, k ≤ n + 1 → 0 ≤ (uad m claim n k).2 ∧ (uad m claim n k).2 ≤ ((12 ^ k : Nat) : Int)
  | 0, _ => ⟨show (0 : Int) ≤ 1 by decide, show (1 : Int) ≤ ((12 ^ 0 : Nat) : Int) by decide⟩
  | k + 1, h => by
    obtain ⟨i1, i2⟩ := uad_ways hn k (by omega)
    have a : (uad m claim n k).2 * ((n : Int) - (k : Int)) ≤ ((12 ^ k : Nat) : Int) * 12 := Int.mul_le_mul i2 (by omega) (by omega) (by omega)
    have b : 0 ≤ (uad m claim n k).2 * ((n : Int) - (k : Int)) := Int.mul_nonneg i1 (by omega)
    refine ⟨Int.ediv_nonneg b (by omega), Int.le_trans (Int.ediv_le_self _ b) ?_⟩
    rw [Nat.pow_succ]; omega
theorem uad_small {m : Mk} {claim : List (List Int)} {n : Nat} (hn : n ≤ 12) {k : Nat} (hk : k ≤ n) : 0 ≤ (uad m claim n k).2 ∧ (uad m claim n k).2 ≤ 2 ^ 44 := by
  obtain ⟨a, b⟩ := uad_ways (m := m) (claim := claim) hn k (by omega)
  have : 12 ^ k ≤ 12 ^ 12 := Nat.pow_le_pow_right (by decide) (by omega)
  exact ⟨a, by omega⟩
theorem Bd_self {k : Nat} {r : Rat} (h : Qk k r) : Bd (2 ^ k) r.den r := ⟨r.den_pos, r.num, h.1, (Rat.num_divInt_den r).symm⟩
theorem Bd_neg {M D : Nat} {r : Rat} (h : Bd M D r) : Bd M D (-r) := by
  obtain ⟨h0, n, hn, e⟩ := h
  exact ⟨h0, -n, by rw [Int.natAbs_neg]; exact hn, by rw [e, Rat.neg_divInt]⟩
theorem Bd_one {D : Nat} (h : 0 < D) : Bd D D 1 := by
  refine ⟨h, (D : Int), Nat.le_of_eq (Int.natAbs_natCast D), ?_⟩
  have z : ((D : Int) : Rat) ≠ 0 := by exact_mod_cast (by omega : D ≠ 0)
  rw [Rat.divInt_eq_div]
  grind
theorem Bd_pow {M D : Nat} {r : Rat} (h : Bd M D r) : ∀ n : Nat, Bd (M ^ n) (D ^ n) (r ^ n)
  | 0 => by rw [Rat.pow_zero, Nat.pow_zero, Nat.pow_zero]; exact Bd_one (by decide)
  | n + 1 => by rw [pow_succ', Nat.pow_succ, Nat.pow_succ]; exact Bd_mul (Bd_pow h n) h
theorem Bd_int {M : Nat} {x : Int} (h : x.natAbs ≤ M) : Bd M 1 (x : Rat) := ⟨by decide, x, h, by rw [Rat.divInt_eq_div]; grind⟩
theorem share_qk {m : Mk} (h : MkOk m) : Qk 42 (share m) := Qk_div (Qk_sub h.1.2.2.2.qk h.1.2.2.1.qk) (Qk_sub h.1.2.1.qk h.1.2.2.1.qk) (mk_gap h)
theorem cosh_bd {m : Mk} (h : MkOk m) : Bd (2 ^ 43) (share m).den (1 - share m) := by
  have a := Bd_add (Bd_one (share m).den_pos) (Bd_neg (Bd_self (share_qk h)))
  rw [← Rat.sub_eq_add_neg] at a
  exact a.mono (by have := (share_qk h).2; omega)
theorem term_bd {m : Mk} (h : MkOk m) {n k : Nat} (hk : k ≤ n) {x : Int} (hx : x.natAbs ≤ 2 ^ 64) : Bd (2 ^ (43 * n + 64)) ((share m).den ^ n) (share m ^ k * (1 - share m) ^ (n - k) * (x : Rat)) := by
  have a := Bd_mul (Bd_mul (Bd_pow ((Bd_self (share_qk h)).mono (Nat.pow_le_pow_right (by decide) (show 42 ≤ 43 by decide))) k) (Bd_pow (cosh_bd h) (n - k))) (Bd_int hx)
  rw [← Nat.pow_add, ← Nat.pow_add, Nat.add_sub_cancel' hk, Nat.mul_one, ← Nat.pow_mul, ← Nat.pow_add] at a
  exact a
theorem uad_bd {m : Mk} (h : MkOk m) {claim : List (List Int)} {n : Nat} (hn : n ≤ 12) (hc : ∀ x ∈ ixG claim (-(1 : Int)), 0 ≤ x ∧ x ≤ 1000000) (hl : (ixG claim (-(1 : Int))).length = n + 1) : ∀ k : Nat, k ≤ n + 1 → Bd (k * 2 ^ (43 * n + 64)) ((share m).den ^ n) (uad m claim n k).1
  | 0, _ => Bd_zero (Nat.pow_pos (share m).den_pos)
  | k + 1, hk => by
    have w := uad_small (m := m) (claim := claim) hn (k := k) (by omega)
    have c := hc _ (ixG_mem (l := ixG claim (-(1 : Int))) (i := (k : Int)) (by omega))
    have q : (uad m claim n k).2 * ixG (ixG claim (-(1 : Int))) (k : Int) ≤ 2 ^ 44 * 1000000 := Int.mul_le_mul w.2 c.2 c.1 (by decide)
    have q0 := Int.mul_nonneg w.1 c.1
    rw [Nat.succ_mul]
    exact Bd_add (uad_bd h hn hc hl k (by omega)) (term_bd h (by omega) (by omega))
theorem uad_qk {m : Mk} (h : MkOk m) {claim : List (List Int)} (hc : ClOk claim) {n k : Nat} (hn : n + 1 = claim.length) (hk : k ≤ n + 1) : Qk 600 (uad m claim n k).1 := by
  have h1 := hc.2.1
  have e : ixG claim (-1) = ixG claim ((claim.length : Int) - 1) := ixG_neg (by omega)
  obtain ⟨l1, l2⟩ := cl_ix hc (s := (claim.length : Int) - 1) (by omega)
  refine (uad_bd h (by omega) (by rw [e]; exact l2) (by rw [e, l1]; omega) k hk).qk ?_ ?_
  · calc k * 2 ^ (43 * n + 64) ≤ 2 ^ 4 * 2 ^ (43 * n + 64) := Nat.mul_le_mul_right _ (by omega)
      _ = 2 ^ (4 + (43 * n + 64)) := (Nat.pow_add 2 4 (43 * n + 64)).symm
      _ ≤ 2 ^ 600 := Nat.pow_le_pow_right (by decide) (by omega)
  · calc (share m).den ^ n ≤ (2 ^ 42) ^ n := Nat.pow_le_pow_left (share_qk h).2 n
      _ = 2 ^ (42 * n) := by rw [← Nat.pow_mul]
      _ ≤ 2 ^ 600 := Nat.pow_le_pow_right (by decide) (by omega)
theorem cosh_qk {m : Mk} (h : MkOk m) : Qk 43 (1 - share m) := (cosh_bd h).qk (Nat.le_refl _) (Nat.le_trans (share_qk h).2 (by decide))
theorem int_qk {k : Nat} {x : Int} (h : x.natAbs ≤ 2 ^ k) : Qk k (x : Rat) := ⟨by simpa using h, by simpa using Nat.one_le_two_pow⟩
theorem way_le {m : Mk} {claim : List (List Int)} (hc : ClOk claim) {n k : Nat} (hn : n + 1 = claim.length) (hk : k ≤ n) : ((uad m claim n k).2 * ixG (ixG claim (-(1 : Int))) (k : Int)).natAbs ≤ 2 ^ 64 := by
  have h1 := hc.2.1
  have e : ixG claim (-1) = ixG claim ((claim.length : Int) - 1) := ixG_neg (by omega)
  obtain ⟨l1, l2⟩ := cl_ix hc (s := (claim.length : Int) - 1) (by omega)
  have w := uad_small (m := m) (claim := claim) (by omega : n ≤ 12) (k := k) (by omega)
  have c := l2 _ (ixG_mem (l := ixG claim ((claim.length : Int) - 1)) (i := (k : Int)) (by omega))
  rw [e]
  have q : (uad m claim n k).2 * ixG (ixG claim ((claim.length : Int) - 1)) (k : Int) ≤ 2 ^ 44 * 1000000 := Int.mul_le_mul w.2 c.2 c.1 (by decide)
  have q0 := Int.mul_nonneg w.1 c.1
  omega
theorem last_len {claim : List (List Int)} (hc : ClOk claim) : (ixG claim (-1)).length = claim.length := by
  have h1 := hc.1
  rw [ixG_neg (by omega), (cl_ix hc (s := (claim.length : Int) - 1) (by omega)).1]; omega
theorem uad_s1 {m : Mk} {claim : List (List Int)} {n i : Nat} {L : Int} (hL : L = (n : Int)) : (uad m claim n i).1 + share m ^ ((i : Int)).toNat * (1 - share m) ^ (L - (i : Int)).toNat * ((((uad m claim n i).2 * ixG (ixG claim (-1)) (i : Int) : Int)) : Rat) = (uad m claim n (i + 1)).1 := by
  subst hL
  rw [show ((n : Int) - (i : Int)).toNat = n - i by omega]
  rfl
theorem uad_s2 {m : Mk} {claim : List (List Int)} {n i : Nat} {L : Int} (hL : L = (n : Int)) : (uad m claim n i).2 * (L - (i : Int)) / ((i : Int) + 1) = (uad m claim n (i + 1)).2 := by
  subst hL; rfl
/-! ### 1 - r and 1 / r as pairs -/
theorem co_cop (r : Rat) : Nat.gcd ((r.den : Int) - r.num).natAbs r.den = 1 := by
  have h := r.reduced
  have e : Int.gcd ((r.den : Int) - r.num) (r.den : Int) = Int.gcd r.num (r.den : Int) := by simp
  exact e.trans h
theorem co_rat (r : Rat) : (⟨(r.den : Int) - r.num, r.den, r.den_nz, co_cop r⟩ : Rat) = 1 - r := by
  rw [Rat.mk_eq_divInt, Rat.divInt_eq_div]
  have z : (((r.den : Int)) : Rat) ≠ 0 := by exact_mod_cast r.den_nz
  have q : r = ((r.num : Int) : Rat) / (((r.den : Int)) : Rat) := by rw [← Rat.divInt_eq_div, Rat.num_divInt_den]
  have c : ((((r.den : Int) - r.num : Int)) : Rat) = (((r.den : Int)) : Rat) - ((r.num : Int) : Rat) := by push_cast; rfl
  rw [c]
  generalize (((r.den : Int)) : Rat) = D at *
  generalize ((r.num : Int) : Rat) = N at *
  rw [q]; clear q c
  grind
theorem co_pair (r : Rat) : [PyData.int ((r.den : Int) - r.num), PyData.int r.den] = [PyData.int (1 - r).num, PyData.int (1 - r).den] := by
  rw [← co_rat]
theorem inv_pair {r : Rat} (h : 0 < r) : [PyData.int r.den, PyData.int r.num] = [PyData.int (r⁻¹).num, PyData.int (r⁻¹).den] := by
  have hn := num_pos1 h
  have e : r⁻¹ = (⟨(r.den : Int), r.num.natAbs, by omega, by rw [Int.natAbs_natCast, Nat.coprime_comm]; exact r.reduced⟩ : Rat) := by
    rw [Rat.mk_eq_divInt, Rat.divInt_eq_div]
    have q : r = ((r.num : Int) : Rat) / (((r.den : Int)) : Rat) := by rw [← Rat.divInt_eq_div, Rat.num_divInt_den]
    have z : (((r.den : Int)) : Rat) ≠ 0 := by exact_mod_cast r.den_nz
    have y : ((r.num : Int) : Rat) ≠ 0 := by exact_mod_cast (by omega : r.num ≠ 0)
    rw [show ((r.num.natAbs : Nat) : Int) = r.num by omega]
    generalize (((r.den : Int)) : Rat) = D at *
    generalize ((r.num : Int) : Rat) = N at *
    rw [q]; clear q
    grind
  rw [e]
  show _ = [PyData.int (r.den : Int), PyData.int ((r.num.natAbs : Nat) : Int)]
  rw [show ((r.num.natAbs : Nat) : Int) = r.num by omega]
theorem inv_qk {m : Mk} (h : MkOk m) : Qk 10 (m.2.2.2)⁻¹ := by
  have hf := h.1.2.2.2.qk
  have hn := num_pos1 (mk_pos h).2.2
  have e := inv_pair (mk_pos h).2.2
  injection e with e1 e2
  injection e2 with e2 _
  injection e1 with e1
  injection e2 with e2
  exact ⟨by have := hf.2; omega, by have := hf.1; omega⟩
end Nz

set_option exponentiation.threshold 10000
/-! trees: worths as a plain recursion, backwards from the end -/
namespace Nz
open PySem PySem.Spec PyProof.Rows L2 RZ
/-- k steps before the end, at so many ups -/
def fW (any : Bool) (a b : Rat) (c : Nat → Nat → Rat) : Nat → Nat → Rat
  | 0, j => c 0 j
  | k + 1, j => if (any && decide (a * fW any a b c k (j + 1) + b * fW any a b c k j < c (k + 1) j)) = true then c (k + 1) j else a * fW any a b c k (j + 1) + b * fW any a b c k j
section
variable {any : Bool} {a b : Rat} {c c' : Nat → Nat → Rat} {n : Nat}
theorem fW_ge (k j : Nat) : c k j ≤ fW true a b c k j := by
  cases k with
  | zero => exact Rat.le_refl
  | succ k =>
    unfold fW
    split
    · exact Rat.le_refl
    · rename_i h
      simp at h
      exact Rat.not_lt.mp h
theorem fW_low (ha : 0 ≤ a) (hb : 0 ≤ b) (k j : Nat) : a * fW any a b c k (j + 1) + b * fW any a b c k j ≤ fW any a b c (k + 1) j := by
  rw [fW]
  split
  · rename_i h
    simp at h
    exact Std.le_of_lt h.2
  · exact Rat.le_refl
theorem mul_mono {a x y : Rat} (ha : 0 ≤ a) (h : x ≤ y) : a * x ≤ a * y := Rat.mul_le_mul_of_nonneg_left h ha
theorem comb_mono {a b x y x' y' : Rat} (ha : 0 ≤ a) (hb : 0 ≤ b) (h : x ≤ x') (h' : y ≤ y') : a * x + b * y ≤ a * x' + b * y' := by
  have h1 := mul_mono ha h
  have h2 := mul_mono hb h'
  grind
theorem fW_mono (ha : 0 ≤ a) (hb : 0 ≤ b) (h : ∀ k j, k + j ≤ n → c k j ≤ c' k j) : ∀ k j, k + j ≤ n → fW any a b c k j ≤ fW any a b c' k j
  | 0, j, hk => by rw [fW, fW]; exact h 0 j hk
  | k + 1, j, hk => by
    have e := comb_mono ha hb (fW_mono ha hb h k (j + 1) (by omega)) (fW_mono ha hb h k j (by omega))
    rw [fW]
    split
    · rename_i q
      simp at q
      have q2 := q.1
      subst q2
      exact Rat.le_trans (h _ _ hk) (fW_ge _ _)
    · exact Rat.le_trans e (fW_low ha hb _ _)
theorem fW_end (ha : 0 ≤ a) (hb : 0 ≤ b) : ∀ k j, fW false a b c k j ≤ fW true a b c k j
  | 0, j => Rat.le_refl
  | k + 1, j => by
    rw [fW]
    refine Rat.le_trans ?_ (fW_low ha hb _ _)
    exact comb_mono ha hb (fW_end ha hb k (j + 1)) (fW_end ha hb k j)
theorem fW_sub (ha : 0 ≤ a) (hb : 0 ≤ b) {d : Nat → Nat → Rat} (hd : ∀ k j, k + j ≤ n → d k j = c k j + c' k j) : ∀ k j, k + j ≤ n → fW true a b d k j ≤ fW true a b c k j + fW true a b c' k j
  | 0, j, hk => by rw [fW, fW, fW, hd 0 j hk]; exact Rat.le_refl
  | k + 1, j, hk => by
    have e1 := fW_sub ha hb hd k (j + 1) (by omega)
    have e2 := fW_sub ha hb hd k j (by omega)
    rw [fW]
    split
    · rw [hd _ _ hk]
      have q1 := fW_ge (a := a) (b := b) (c := c) (k + 1) j
      have q2 := fW_ge (a := a) (b := b) (c := c') (k + 1) j
      grind
    · have q1 := fW_low (any := true) (c := c) ha hb k j
      have q2 := fW_low (any := true) (c := c') ha hb k j
      have q3 := comb_mono ha hb e1 e2
      grind
theorem fW_lin {d : Nat → Nat → Rat} {f : Rat} (hd : ∀ k j, k + j ≤ n → d k j = c k j + f * c' k j) : ∀ k j, k + j ≤ n → fW false a b d k j = fW false a b c k j + f * fW false a b c' k j
  | 0, j, hk => by rw [fW, fW, fW, hd 0 j hk]
  | k + 1, j, hk => by
    rw [fW, fW, fW, fW_lin hd k (j + 1) (by omega), fW_lin hd k j (by omega)]
    simp only [Bool.false_and, Bool.false_eq_true, if_false]
    grind
theorem fW_flat {x : Rat} (hd : ∀ k j, k + j ≤ n → c k j = x) : ∀ k j, k + j ≤ n → fW false a b c k j = x * (a + b) ^ k
  | 0, j, hk => by rw [fW, hd 0 j hk, Rat.pow_zero, Rat.mul_one]
  | k + 1, j, hk => by
    rw [fW, fW_flat hd k (j + 1) (by omega), fW_flat hd k j (by omega), pow_succ']
    simp only [Bool.false_and, Bool.false_eq_true, if_false]
    grind
theorem fW_cut {u : Nat} (hd : ∀ k j, k + j ≤ n → c' k j = c k (j + u)) : ∀ k j, k + j ≤ n → fW any a b c' k j = fW any a b c k (j + u)
  | 0, j, hk => by rw [fW, fW, hd 0 j hk]
  | k + 1, j, hk => by
    rw [fW, fW, fW_cut hd k (j + 1) (by omega), fW_cut hd k j (by omega), hd _ _ hk, show j + 1 + u = j + u + 1 by omega]
end
/-! the same by ways -/
def sumTo (f : Nat → Rat) : Nat → Rat
  | 0 => 0
  | n + 1 => sumTo f n + f n
theorem sumTo_eq {f g : Nat → Rat} : ∀ {n : Nat}, (∀ i, i < n → f i = g i) → sumTo f n = sumTo g n
  | 0, _ => rfl
  | n + 1, h => by rw [sumTo, sumTo, sumTo_eq fun i hi => h i (by omega), h n (by omega)]
theorem sumTo_mul {f : Nat → Rat} {x : Rat} : ∀ n : Nat, sumTo (fun i => x * f i) n = x * sumTo f n
  | 0 => by rw [sumTo, sumTo, Rat.mul_zero]
  | n + 1 => by rw [sumTo, sumTo, sumTo_mul n]; grind
theorem sumTo_add {f g : Nat → Rat} : ∀ n : Nat, sumTo (fun i => f i + g i) n = sumTo f n + sumTo g n
  | 0 => by rw [sumTo, sumTo, sumTo]; grind
  | n + 1 => by rw [sumTo, sumTo, sumTo, sumTo_add n]; grind
def bCh : Nat → Nat → Nat
  | _, 0 => 1
  | 0, _ + 1 => 0
  | n + 1, k + 1 => bCh n k + bCh n (k + 1)
theorem bCh_zero (n : Nat) : bCh n 0 = 1 := by cases n <;> rfl
theorem bCh_gt : ∀ {n k : Nat}, n < k → bCh n k = 0
  | _, 0, h => by omega
  | 0, k + 1, _ => rfl
  | n + 1, k + 1, h => by rw [bCh, bCh_gt (n := n) (k := k) (by omega), bCh_gt (n := n) (k := k + 1) (by omega)]
theorem bCh_mul : ∀ n k : Nat, bCh n (k + 1) * (k + 1) = bCh n k * (n - k)
  | 0, 0 => rfl
  | 0, k + 1 => by rw [bCh_gt (by omega), bCh_gt (n := 0) (k := k + 1) (by omega)]; simp
  | n + 1, 0 => by
    have := bCh_mul n 0
    rw [bCh_zero, Nat.zero_add] at this
    rw [bCh_zero (n + 1)]
    show (bCh n 0 + bCh n 1) * 1 = _
    rw [bCh_zero]
    omega
  | n + 1, k + 1 => by
    have h1 := bCh_mul n (k + 1)
    have h2 := bCh_mul n k
    rw [bCh, bCh, Nat.add_mul, h1, show n + 1 - (k + 1) = n - k by omega, Nat.add_mul]
    rcases Nat.lt_or_ge k n with h | h
    · rw [show n - k = (n - (k + 1)) + 1 by omega] at h2 ⊢
      generalize bCh n (k + 1) = x at *
      generalize bCh n k = y at *
      generalize n - (k + 1) = z at *
      have e : x * (k + 1 + 1) = x * (k + 1) + x := by rw [Nat.mul_add, Nat.mul_one]
      have e2 : x * (z + 1) = x * z + x := by rw [Nat.mul_add, Nat.mul_one]
      omega
    · rw [bCh_gt (n := n) (k := k + 1) (by omega), show n - k = 0 by omega]
      simp
theorem bCh_div {n k : Nat} (h : k ≤ n) : ((bCh n k : Nat) : Int) * ((n : Int) - (k : Int)) / ((k : Int) + 1) = ((bCh n (k + 1) : Nat) : Int) := by
  have e := bCh_mul n k
  have e2 : ((bCh n k : Nat) : Int) * ((n : Int) - (k : Int)) = ((bCh n (k + 1) : Nat) : Int) * ((k : Int) + 1) := by
    rw [show (n : Int) - (k : Int) = ((n - k : Nat) : Int) by omega]
    exact_mod_cast e.symm
  rw [e2]
  exact Int.mul_ediv_cancel _ (by omega)
/-- the term of so many ups, of n steps -/
def bT (q p : Rat) (n i : Nat) : Rat := ((bCh n i : Nat) : Rat) * (q ^ i * p ^ (n - i))
theorem bT_gt {q p : Rat} {n i : Nat} (h : n < i) : bT q p n i = 0 := by unfold bT; rw [bCh_gt h]; grind
theorem bT_zero (q p : Rat) (n : Nat) : bT q p (n + 1) 0 = p * bT q p n 0 := by
  unfold bT
  rw [bCh_zero, bCh_zero, Nat.sub_zero, Nat.sub_zero, pow_succ', Rat.pow_zero]
  grind
theorem bT_succ (q p : Rat) (n i : Nat) : bT q p (n + 1) (i + 1) = q * bT q p n i + p * bT q p n (i + 1) := by
  have e : ((bCh (n + 1) (i + 1) : Nat) : Rat) = ((bCh n i : Nat) : Rat) + ((bCh n (i + 1) : Nat) : Rat) := by rw [bCh]; push_cast; rfl
  rcases Nat.lt_or_ge i n with h | h
  · unfold bT
    rw [e, show n + 1 - (i + 1) = (n - (i + 1)) + 1 by omega, show n - i = (n - (i + 1)) + 1 by omega, pow_succ', pow_succ']
    grind
  · rw [bT_gt (q := q) (p := p) (n := n) (i := i + 1) (by omega)]
    unfold bT
    rw [e, bCh_gt (n := n) (k := i + 1) (by omega), show n + 1 - (i + 1) = n - i by omega, pow_succ']
    grind
theorem bT_split (q p : Rat) (n : Nat) (f : Nat → Rat) : ∀ N : Nat, sumTo (fun i => bT q p (n + 1) i * f i) (N + 1) = q * sumTo (fun i => bT q p n i * f (i + 1)) N + p * sumTo (fun i => bT q p n i * f i) (N + 1)
  | 0 => by
    rw [sumTo, sumTo, sumTo, sumTo, sumTo, bT_zero]
    grind
  | N + 1 => by
    rw [sumTo, bT_split q p n f N, sumTo, bT_succ]
    rw [show sumTo (fun i => bT q p n i * f (i + 1)) (N + 1) = sumTo (fun i => bT q p n i * f (i + 1)) N + bT q p n N * f (N + 1) from rfl]
    rw [show sumTo (fun i => bT q p n i * f i) (N + 1 + 1) = (sumTo (fun i => bT q p n i * f i) N + bT q p n N * f N) + bT q p n (N + 1) * f (N + 1) from rfl]
    grind
theorem bT_walk (q p : Rat) (n : Nat) (f : Nat → Rat) : sumTo (fun i => bT q p (n + 1) i * f i) (n + 2) = q * sumTo (fun i => bT q p n i * f (i + 1)) (n + 1) + p * sumTo (fun i => bT q p n i * f i) (n + 1) := by
  rw [bT_split q p n f (n + 1)]
  rw [show sumTo (fun i => bT q p n i * f i) (n + 1 + 1) = sumTo (fun i => bT q p n i * f i) (n + 1) + bT q p n (n + 1) * f (n + 1) from rfl]
  rw [bT_gt (q := q) (p := p) (n := n) (i := n + 1) (by omega)]
  grind
/-- the worth of a claim that pays at the end, by ways -/
theorem fW_ways {a b : Rat} {c : Nat → Nat → Rat} : ∀ k j, fW false a b c k j = sumTo (fun i => bT a b k i * c 0 (j + i)) (k + 1)
  | 0, j => by
    rw [fW, sumTo, sumTo]
    unfold bT
    rw [bCh_zero, Rat.pow_zero, Rat.pow_zero, Nat.add_zero]
    grind
  | k + 1, j => by
    rw [fW, bT_walk a b k fun i => c 0 (j + i), fW_ways k (j + 1), fW_ways k j]
    simp only [Bool.false_and, Bool.false_eq_true, if_false]
    congr 2
    refine sumTo_eq fun i _ => ?_
    rw [show j + 1 + i = j + (i + 1) by omega]
theorem mul_powQ (x y : Rat) : ∀ n : Nat, (x * y) ^ n = x ^ n * y ^ n
  | 0 => by rw [Rat.pow_zero, Rat.pow_zero, Rat.pow_zero, Rat.mul_one]
  | n + 1 => by rw [pow_succ', pow_succ', pow_succ', mul_powQ x y n]; grind
theorem pow_addQ (x : Rat) (m : Nat) : ∀ n : Nat, x ^ (m + n) = x ^ m * x ^ n
  | 0 => by rw [Rat.pow_zero, Rat.mul_one]; rfl
  | n + 1 => by rw [show m + (n + 1) = (m + n) + 1 by omega, pow_succ', pow_succ', pow_addQ x m n, Rat.mul_assoc]
theorem bT_scale {q p r : Rat} (n : Nat) {i : Nat} (hi : i ≤ n) : bT (r * q) (r * p) n i = r ^ n * bT q p n i := by
  unfold bT
  rw [mul_powQ, mul_powQ, show r ^ n = r ^ i * r ^ (n - i) by rw [← pow_addQ]; congr 1; omega]
  grind
end Nz

set_option exponentiation.threshold 10000
/-! trees: rows of nodes as functions -/
namespace Nz
open PySem PySem.Spec PyProof.Rows L2 RZ
abbrev Claim := List (List Int)
def cellQ (claim : Claim) (s j : Nat) : Rat := ((ixG (ixG claim (s : Int)) (j : Int) : Int) : Rat)
def cK (claim : Claim) (k j : Nat) : Rat := cellQ claim (claim.length - 1 - k) j
def nv (m : Mk) (kind : Str) (claim : Claim) : Nat → Nat → Nd
  | 0, j => (cK claim 0 j, 0, 0)
  | k + 1, j =>
    let h := heldF m (nv m kind claim k (j + 1)).1 (nv m kind claim k j).1 (nodeP m ((claim.length : Int) - 2 - (k : Int)) (j : Int))
    if (decide (kind = anyS) && decide (h.1 < cK claim (k + 1) j)) = true then (cK claim (k + 1) j, h.2.1, h.2.2) else h
theorem list_rng {α : Type} [Inhabited α] (l : List α) : (List.range l.length).map (fun (j : Nat) => ixG l (j : Int)) = l := by
  apply List.ext_getElem?
  intro i
  rw [List.getElem?_map]
  by_cases h : i < l.length
  · rw [List.getElem?_range h, List.getElem?_eq_getElem h]
    exact congrArg some (ixG_nat (List.getElem?_eq_getElem h))
  · rw [List.getElem?_eq_none (by simpa using h), List.getElem?_eq_none (by simpa using h)]; rfl
theorem ixG_rng {β : Type} [Inhabited β] {f : Nat → β} {n j : Nat} (h : j < n) : ixG ((List.range n).map f) (j : Int) = f j :=
  ixG_nat (by rw [List.getElem?_map, List.getElem?_range h]; rfl)
section
variable {m : Mk} {kind : Str} {claim : Claim}
theorem row_is (hc : ClOk claim) : ∀ k : Nat, k + 1 ≤ claim.length → ixG (rowsDn m kind claim k) (-(1 : Int)) = (List.range (claim.length - k)).map (nv m kind claim k)
  | 0, h => by
    have h1 := hc.1
    have er : ixG (rowsDn m kind claim 0) (-(1 : Int)) = lastRow claim := ixG_snoc [] (lastRow claim)
    rw [er]
    unfold lastRow
    have e : ixG claim (-1) = ixG claim ((claim.length - 1 : Nat) : Int) := by rw [ixG_neg (by omega)]; congr 1; omega
    have hl := last_len hc
    rw [← list_rng (ixG claim (-1)), hl, List.map_map, Nat.sub_zero, e]
    rfl
  | k + 1, h => by
    have er : ixG (rowsDn m kind claim (k + 1)) (-(1 : Int)) = (List.range ((claim.length : Int) - 2 - (k : Int) + 1).toNat).map (nodeStep m kind claim (ixG (rowsDn m kind claim k) (-1)) ((claim.length : Int) - 2 - (k : Int))) := ixG_snoc _ _
    rw [er, row_is hc k (by omega), show ((claim.length : Int) - 2 - (k : Int) + 1).toNat = claim.length - (k + 1) by omega]
    refine List.map_congr_left fun j hj => ?_
    have hj := List.mem_range.mp hj
    unfold nodeStep
    rw [nv]
    rw [show ((j : Int) + 1) = ((j + 1 : Nat) : Int) by omega, ixG_rng (by omega), ixG_rng (by omega)]
    have e : ((ixG (ixG claim ((claim.length : Int) - 2 - (k : Int))) (j : Int) : Int) : Rat) = cK claim (k + 1) j := by
      unfold cK cellQ
      rw [show ((claim.length - 1 - (k + 1) : Nat) : Int) = (claim.length : Int) - 2 - (k : Int) by omega]
    dsimp only
    rw [e]
theorem rows_are (hc : ClOk claim) : ∀ k : Nat, k + 1 ≤ claim.length → rowsDn m kind claim k = (List.range (k + 1)).map fun i => (List.range (claim.length - i)).map (nv m kind claim i)
  | 0, h => by
    have q := row_is (m := m) (kind := kind) hc 0 h
    have er : ixG (rowsDn m kind claim 0) (-(1 : Int)) = lastRow claim := ixG_snoc [] (lastRow claim)
    rw [er] at q
    show [lastRow claim] = _
    rw [q]; rfl
  | k + 1, h => by
    have q := row_is (m := m) (kind := kind) hc (k + 1) h
    have er : ixG (rowsDn m kind claim (k + 1)) (-(1 : Int)) = (List.range ((claim.length : Int) - 2 - (k : Int) + 1).toNat).map (nodeStep m kind claim (ixG (rowsDn m kind claim k) (-1)) ((claim.length : Int) - 2 - (k : Int))) := ixG_snoc _ _
    rw [er] at q
    rw [List.range_succ, List.map_append, ← rows_are hc k (by omega)]
    show rowsDn m kind claim k ++ [_] = _
    rw [q]; rfl
theorem rev_rng {β : Type} (f : Nat → β) (n : Nat) : ((List.range n).map f).reverse = (List.range n).map fun s => f (n - 1 - s) := by
  apply List.ext_getElem?
  intro i
  by_cases h : i < n
  · rw [List.getElem?_reverse (by simpa using h), List.getElem?_map, List.getElem?_map, List.length_map, List.length_range, List.getElem?_range h, List.getElem?_range (by omega)]
    rfl
  · rw [List.getElem?_eq_none (by simpa using h), List.getElem?_eq_none (by simpa using h)]
theorem nodes_are (hc : ClOk claim) : nodesOf m kind claim = (List.range claim.length).map fun s => (List.range (s + 1)).map (nv m kind claim (claim.length - 1 - s)) := by
  have h1 := hc.1
  unfold nodesOf
  rw [rows_are hc _ (by omega), rev_rng, show claim.length - 1 + 1 = claim.length by omega]
  refine List.map_congr_left fun s hs => ?_
  have hs := List.mem_range.mp hs
  rw [show claim.length - (claim.length - 1 - s) = s + 1 by omega]
theorem nodeP_pos (hm : MkOk m) (s u : Int) : 0 < nodeP m s u := by
  obtain ⟨⟨p1, p2⟩, p3, p4⟩ := mk_pos hm
  exact Rat.mul_pos p1 (Rat.mul_pos (Rat.pow_pos p2) (Rat.pow_pos p3))
theorem nv_w (hm : MkOk m) : ∀ k j : Nat, (nv m kind claim k j).1 = fW (decide (kind = anyS)) (wC1 m) (wC2 m) (cK claim) k j
  | 0, j => rfl
  | k + 1, j => by
    rw [nv, fW, ← nv_w hm k (j + 1), ← nv_w hm k j]
    have e := held_val hm (high := (nv m kind claim k (j + 1)).1) (low := (nv m kind claim k j).1) (nodeP_pos hm ((claim.length : Int) - 2 - (k : Int)) (j : Int))
    rw [← e]
    split <;> rfl
/-- the node behind so many steps, at so many ups -/
theorem node_at (hc : ClOk claim) {s j : Nat} (hs : s < claim.length) (hj : j ≤ s) : ixG (ixG (nodesOf m kind claim) (s : Int)) (j : Int) = nv m kind claim (claim.length - 1 - s) j := by
  rw [nodes_are hc, ixG_rng hs, ixG_rng (by omega)]
theorem node_row (hc : ClOk claim) {s : Nat} (hs : s < claim.length) : (ixG (nodesOf m kind claim) (s : Int)).length = s + 1 := by
  rw [nodes_are hc, ixG_rng hs, List.length_map, List.length_range]
def wOf (m : Mk) (kind : Str) (claim : Claim) : List (List Rat) := (nodesOf m kind claim).map fun row => row.map fun nd => nd.1
theorem w_are (hc : ClOk claim) : wOf m kind claim = (List.range claim.length).map fun s => (List.range (s + 1)).map fun j => (nv m kind claim (claim.length - 1 - s) j).1 := by
  unfold wOf
  rw [nodes_are hc, List.map_map]
  refine List.map_congr_left fun s _ => ?_
  show List.map _ (List.map _ _) = _
  rw [List.map_map]; rfl
theorem w_at (hc : ClOk claim) {s j : Nat} (hs : s < claim.length) (hj : j ≤ s) : ixG (ixG (wOf m kind claim) (s : Int)) (j : Int) = (nv m kind claim (claim.length - 1 - s) j).1 := by
  rw [w_are hc, ixG_rng hs, ixG_rng (by omega)]
theorem w_len (hc : ClOk claim) : (wOf m kind claim).length = claim.length := by rw [w_are hc, List.length_map, List.length_range]
theorem w_row (hc : ClOk claim) {s : Nat} (hs : s < claim.length) : (ixG (wOf m kind claim) (s : Int)).length = s + 1 := by rw [w_are hc, ixG_rng hs, List.length_map, List.length_range]
end
theorem div_posQ {x y : Rat} (h : 0 < x) (h2 : 0 < y) : 0 < x / y := by rw [Rat.div_def]; exact Rat.mul_pos h (Rat.inv_pos.mpr h2)
theorem inv_powQ {r : Rat} (h : r ≠ 0) : ∀ n : Nat, (r⁻¹) ^ n = (r ^ n)⁻¹
  | 0 => by rw [Rat.pow_zero, Rat.pow_zero]; decide +kernel
  | n + 1 => by rw [pow_succ', pow_succ', inv_powQ h n, Rat.inv_mul_rev, Rat.mul_comm]
theorem wC_pos {m : Mk} (h : MkOk m) : 0 ≤ wC1 m ∧ 0 ≤ wC2 m := by
  have g := Rat.mul_pos (mk_gap h) (mk_pos h).2.2
  have h1 : 0 < m.2.2.2 - m.2.2.1 := by have := h.2.1; grind
  have h2 : 0 < m.2.1 - m.2.2.2 := by have := h.2.2; grind
  exact ⟨Std.le_of_lt (div_posQ h1 g), Std.le_of_lt (div_posQ h2 g)⟩
theorem wC_scale {m : Mk} (h : MkOk m) : wC1 m = (m.2.2.2)⁻¹ * share m ∧ wC2 m = (m.2.2.2)⁻¹ * (1 - share m) := by
  have g := pos_ne (mk_gap h)
  have r := pos_ne (mk_pos h).2.2
  unfold wC1 wC2 share
  obtain ⟨a, u, d, r0⟩ := m
  dsimp only at *
  clear h
  constructor <;> grind
theorem wC_sum {m : Mk} (h : MkOk m) : wC1 m + wC2 m = (m.2.2.2)⁻¹ := by
  obtain ⟨a, b⟩ := wC_scale h
  rw [a, b]; grind
theorem uad_bin {m : Mk} {claim : Claim} {n : Nat} : ∀ k : Nat, k ≤ n + 1 → (uad m claim n k).2 = ((bCh n k : Nat) : Int)
  | 0, _ => by rw [uad, bCh_zero]; rfl
  | k + 1, h => by rw [uad, uad_bin k (by omega)]; exact bCh_div (by omega)
theorem uad_sum {m : Mk} {claim : Claim} {n : Nat} (hc : ClOk claim) (hn : n + 1 = claim.length) : ∀ k : Nat, k ≤ n + 1 → (uad m claim n k).1 = sumTo (fun i => bT (share m) (1 - share m) n i * cK claim 0 i) k
  | 0, _ => by rw [uad, sumTo]
  | k + 1, h => by
    rw [uad, sumTo, uad_sum hc hn k (by omega), uad_bin k (by omega)]
    have e : ((ixG (ixG claim (-(1 : Int))) (k : Int) : Int) : Rat) = cK claim 0 k := by
      unfold cK cellQ
      rw [ixG_neg (by omega), show ((claim.length - 1 - 0 : Nat) : Int) = (claim.length : Int) - 1 by omega]
    dsimp only
    rw [Rat.intCast_mul, e]
    unfold bT
    rw [Rat.intCast_natCast]
    grind
/-- the worth at the beginning, by ways -/
theorem end_val {m : Mk} (hm : MkOk m) {claim : Claim} (hc : ClOk claim) : fW false (wC1 m) (wC2 m) (cK claim) (claim.length - 1) 0 = (uad m claim (claim.length - 1) claim.length).1 / m.2.2.2 ^ (claim.length - 1) := by
  have h1 := hc.1
  have r := pos_ne (Rat.pow_pos (n := claim.length - 1) (mk_pos hm).2.2)
  rw [fW_ways, uad_sum hc (by omega) claim.length (by omega), show claim.length - 1 + 1 = claim.length by omega]
  have e : sumTo (fun i => bT (wC1 m) (wC2 m) (claim.length - 1) i * cK claim 0 (0 + i)) claim.length = sumTo (fun i => ((m.2.2.2)⁻¹) ^ (claim.length - 1) * (bT (share m) (1 - share m) (claim.length - 1) i * cK claim 0 i)) claim.length := sumTo_eq fun i hi => by
    rw [(wC_scale hm).1, (wC_scale hm).2, bT_scale _ (by omega), Nat.zero_add, Rat.mul_assoc]
  rw [e, sumTo_mul, inv_powQ (pos_ne (mk_pos hm).2.2), Rat.div_def, Rat.mul_comm]
theorem end_inv {m : Mk} (hm : MkOk m) (x : Rat) (n : Nat) : x / m.2.2.2 ^ n = x * ((m.2.2.2)⁻¹) ^ n := by rw [inv_powQ (pos_ne (mk_pos hm).2.2), Rat.div_def]
end Nz

set_option exponentiation.threshold 10000
/-! trees: papers, first uses -/
namespace Nz
open PySem PySem.Spec PyProof.Rows L2 RZ
abbrev Tab := List (List Nd)
def ndA (t : Tab) (s j : Nat) : Nd := ixG (ixG t (s : Int)) (j : Int)
def SzOk (x : Nd) : Prop := Qk 1700 x.1 ∧ Qk 1700 x.2.1 ∧ Qk 1700 x.2.2
def TabOk (n : Nat) (t : Tab) : Prop := t.length = n ∧ ∀ s : Nat, s < n → (ixG t (s : Int)).length = s + 1 ∧ ∀ j : Nat, j ≤ s → SzOk (ndA t s j)
def NodeOk (m : Mk) (t : Tab) (s j : Nat) : Prop :=
  (ndA t s j).2.1 * nodeP m s j + (ndA t s j).2.2 ≤ (ndA t s j).1 ∧
  (ndA t (s + 1) (j + 1)).1 ≤ (ndA t s j).2.1 * (nodeP m s j * m.2.1) + (ndA t s j).2.2 * m.2.2.2 ∧
  (ndA t (s + 1) j).1 ≤ (ndA t s j).2.1 * (nodeP m s j * m.2.2.1) + (ndA t s j).2.2 * m.2.2.2
theorem pair_of {a b : Rat} {x y : Int} {p : Rat × Int} (h : p ∈ [((a, x), (b, y)).1, ((a, x), (b, y)).2]) : p = (a, x) ∨ p = (b, y) := by simpa using h
theorem nlt {a b : Rat} (h : b ≤ a) : decide (a < b) = false := decide_eq_false (Rat.not_lt.mpr h)
theorem pay_le {claim : Claim} {t : Tab} (h : ∀ s j : Nat, s < claim.length → j ≤ s → cellQ claim s j ≤ (ndA t s j).1) {s j : Nat} (hs : s < claim.length) (hj : j ≤ s) : decide ((ndA t s j).1 < ((ixG (ixG claim (s : Int)) (j : Int) : Int) : Rat)) = false := nlt (h s j hs hj)
/-- what is read in an enumerated row -/
theorem en_nd {t : Tab} {i : Nat} {x : List Nd × Nat} (h : t.zipIdx[i]? = some x) {k : Nat} {y : Nd × Nat} (h2 : x.1.zipIdx[k]? = some y) : y.1 = ndA t x.2 y.2 ∧ x.2 < t.length ∧ y.2 < x.1.length ∧ x.1 = ixG t (x.2 : Int) := by
  obtain ⟨a1, a2, a3⟩ := en_get h
  obtain ⟨b1, b2, b3⟩ := en_get h2
  have e : ixG t (x.2 : Int) = x.1 := by rw [a1]; exact ixG_nat a2
  refine ⟨?_, by omega, by omega, e.symm⟩
  unfold ndA
  rw [e, b1]; exact (ixG_nat b2).symm
theorem en_row {t : Tab} {i : Nat} {x : List Nd × Nat} (h : t.zipIdx[i]? = some x) : x.2 < t.length ∧ x.1 = ixG t (x.2 : Int) := by
  obtain ⟨a1, a2, a3⟩ := en_get h
  exact ⟨by omega, by rw [a1]; exact (ixG_nat a2).symm⟩
/-! ### first uses -/
section
variable (m : Mk) (claim : Claim)
def fuT (s : Nat) (b : List (Int × Int) × List (Int × Bool)) (u : Int) : List (Int × Int) × List (Int × Bool) :=
  if decide ((ixG (ixG (nodesOf m anyS claim) (s : Int)) u).1 = ((ixG (ixG claim (s : Int)) u : Int) : Rat)) = true then (b.1 ++ [((s : Int), u)], b.2) else (b.1, putP (putP b.2 u true) (u + 1) true)
def fuI (s : Nat) (found : List (Int × Int)) (open_ : List Int) : List (Int × Int) × List (Int × Bool) := open_.foldl (fuT m claim s) (found, [])
def fuS : Nat → List (Int × Int) × List Int
  | 0 => ([], [0])
  | s + 1 => ((fuI m claim s (fuS s).1 (fuS s).2).1, sortI ((fuI m claim s (fuS s).1 (fuS s).2).2.map Prod.fst))
end
section
variable {m : Mk} {claim : Claim}
theorem fu_step {s : Nat} {found : List (Int × Int)} {l : List Int} {i : Nat} {u : Int} (h : l[i]? = some u) : fuI m claim s found (l.take (i + 1)) = fuT m claim s (fuI m claim s found (l.take i)) u := by
  unfold fuI
  rw [List.take_add_one, h, List.foldl_append]; rfl
theorem asc_len : ∀ {l : List Int} {a b : Int}, l.Pairwise (· < ·) → (∀ x ∈ l, a ≤ x ∧ x ≤ b) → a ≤ b + 1 → (l.length : Int) ≤ b + 1 - a
  | [], a, b, _, _, h => by simp; omega
  | x :: l, a, b, h, hx, _ => by
    rw [List.pairwise_cons] at h
    have h1 := hx x (List.mem_cons_self ..)
    have := asc_len (l := l) (a := x + 1) (b := b) h.2 (fun y hy => ⟨by have := h.1 y hy; omega, (hx y (List.mem_cons_of_mem _ hy)).2⟩) (by omega)
    rw [List.length_cons]; push_cast; omega
/-- what stands in the loops -/
def FoundOk (m : Mk) (claim : Claim) (n : Nat) (l : List (Int × Int)) : Prop := l.length ≤ n * 100 ∧ ∀ p ∈ l, ∃ s u : Nat, p = ((s : Int), (u : Int)) ∧ s < claim.length ∧ u ≤ s ∧ (nv m anyS claim (claim.length - 1 - s) u).1 = cellQ claim s u
def KeysOk (n : Nat) (l : List (Int × Bool)) : Prop := (l.map Prod.fst).Nodup ∧ ∀ k ∈ l.map Prod.fst, 0 ≤ k ∧ k ≤ n
theorem putP_nodup {α : Type} {l : List (Int × α)} {k : Int} {x : α} (h : (l.map Prod.fst).Nodup) : ((putP l k x).map Prod.fst).Nodup := by
  unfold putP
  split
  · rw [List.map_map]
    have e : (Prod.fst ∘ fun p : Int × α => if p.1 = k then (p.1, x) else p) = Prod.fst := by funext p; show (if p.1 = k then (p.1, x) else p).1 = p.1; split <;> rfl
    rw [e]; exact h
  · rename_i q
    rw [List.map_append]
    refine List.nodup_append.mpr ⟨h, by simp, fun a ha b hb => ?_⟩
    rw [List.map_cons, List.map_nil, List.mem_singleton] at hb
    subst hb
    intro e
    subst e
    obtain ⟨p, hp, e⟩ := List.mem_map.mp ha
    have := List.any_eq_false.mp q p hp
    exact this (decide_eq_true e)
theorem keys_put {n : Nat} {l : List (Int × Bool)} (h : KeysOk n l) {k : Int} (hk : 0 ≤ k ∧ k ≤ n) : KeysOk n (putP l k true) := ⟨putP_nodup h.1, fun j hj => by
  rcases putP_keys.mp hj with rfl | hj
  · exact hk
  · exact h.2 j hj⟩
theorem keys_asc {n : Nat} {l : List (Int × Bool)} (h : KeysOk n l) : (sortI (l.map Prod.fst)).Pairwise (· < ·) ∧ (∀ k ∈ sortI (l.map Prod.fst), 0 ≤ k ∧ k ≤ n) ∧ l.length ≤ n + 1 := by
  have h1 := asc_strict (sortI_asc (l.map Prod.fst)) ((sortI_perm _).nodup_iff.mpr h.1)
  have h2 : ∀ k ∈ sortI (l.map Prod.fst), 0 ≤ k ∧ k ≤ n := fun k hk => h.2 k (sortI_mem.mp hk)
  have h3 := asc_len h1 h2 (by omega)
  rw [sortI_len, List.length_map] at h3
  exact ⟨h1, h2, by omega⟩
theorem fuT_ok (hc : ClOk claim) {s : Nat} (hs : s < claim.length) {n : Nat} {b : List (Int × Int) × List (Int × Bool)} (h1 : FoundOk m claim n b.1) (hl : b.1.length ≤ n * 100) (h2 : KeysOk (s + 1) b.2) {u : Int} (hu : 0 ≤ u ∧ u ≤ s) :
    (∀ p ∈ (fuT m claim s b u).1, ∃ s u : Nat, p = ((s : Int), (u : Int)) ∧ s < claim.length ∧ u ≤ s ∧ (nv m anyS claim (claim.length - 1 - s) u).1 = cellQ claim s u) ∧ (fuT m claim s b u).1.length ≤ b.1.length + 1 ∧ KeysOk (s + 1) (fuT m claim s b u).2 := by
  unfold fuT
  split
  · rename_i q
    refine ⟨fun p hp => ?_, by simp, h2⟩
    rcases List.mem_append.mp hp with hp | hp
    · exact h1.2 p hp
    · have q := of_decide_eq_true q
      rw [show u = ((u.toNat : Nat) : Int) by omega, node_at hc hs (by omega)] at q
      exact ⟨s, u.toNat, by rw [List.mem_singleton.mp hp, show ((u.toNat : Nat) : Int) = u by omega], hs, by omega, q⟩
  · exact ⟨h1.2, Nat.le_succ _, keys_put (keys_put h2 (by omega)) (by omega)⟩
theorem fuI_ok (hc : ClOk claim) {s : Nat} (hs : s < claim.length) : ∀ {l : List Int} {b : List (Int × Int) × List (Int × Bool)} {n : Nat}, FoundOk m claim n b.1 → KeysOk (s + 1) b.2 → (∀ u ∈ l, 0 ≤ u ∧ u ≤ s) →
    (∀ p ∈ (l.foldl (fuT m claim s) b).1, ∃ s u : Nat, p = ((s : Int), (u : Int)) ∧ s < claim.length ∧ u ≤ s ∧ (nv m anyS claim (claim.length - 1 - s) u).1 = cellQ claim s u) ∧ (l.foldl (fuT m claim s) b).1.length ≤ b.1.length + l.length ∧ KeysOk (s + 1) (l.foldl (fuT m claim s) b).2
  | [], b, n, h1, h2, _ => ⟨h1.2, Nat.le_refl _, h2⟩
  | u :: l, b, n, h1, h2, hl => by
    obtain ⟨a1, a2, a3⟩ := fuT_ok hc hs h1 h1.1 h2 (hl u (List.mem_cons_self ..))
    obtain ⟨b1, b2, b3⟩ := fuI_ok hc hs (l := l) (b := fuT m claim s b u) (n := n + 1) ⟨by have := h1.1; omega, a1⟩ a3 fun v hv => hl v (List.mem_cons_of_mem _ hv)
    exact ⟨b1, by rw [List.length_cons, List.foldl_cons]; omega, b3⟩
theorem keys_nil (n : Nat) : KeysOk n [] := ⟨.nil, fun k hk => by cases hk⟩
theorem fuS_ok (hc : ClOk claim) : ∀ s : Nat, s ≤ claim.length → FoundOk m claim s (fuS m claim s).1 ∧ (fuS m claim s).2.Pairwise (· < ·) ∧ (∀ u ∈ (fuS m claim s).2, 0 ≤ u ∧ u ≤ s) ∧ (fuS m claim s).2.length ≤ s + 1
  | 0, _ => ⟨⟨Nat.zero_le _, fun p hp => by cases hp⟩, by unfold fuS; simp, fun u hu => by unfold fuS at hu; simp at hu; omega, Nat.le_refl _⟩
  | s + 1, h => by
    have hl := hc.2.1
    obtain ⟨i1, i2, i3, i4⟩ := fuS_ok hc s (by omega)
    obtain ⟨b1, b2, b3⟩ := fuI_ok hc (s := s) (by omega) (l := (fuS m claim s).2) (b := ((fuS m claim s).1, [])) (n := s) i1 (keys_nil _) i3
    obtain ⟨c1, c2, c3⟩ := keys_asc b3
    refine ⟨⟨?_, b1⟩, c1, c2, ?_⟩
    · have := i1.1
      show (((fuS m claim s).2).foldl (fuT m claim s) ((fuS m claim s).1, [])).1.length ≤ _
      have e : ((fuS m claim s).1, ([] : List (Int × Bool))).1.length = (fuS m claim s).1.length := rfl
      omega
    · show (sortI _).length ≤ _
      rw [sortI_len, List.length_map]; exact c3
/-- within the inner loop -/
theorem fuI_at (hc : ClOk claim) {s : Nat} (hs : s < claim.length) (i : Nat) : (fuI m claim s (fuS m claim s).1 ((fuS m claim s).2.take i)).1.length < 2000 ∧ KeysOk (s + 1) (fuI m claim s (fuS m claim s).1 ((fuS m claim s).2.take i)).2 ∧ (fuI m claim s (fuS m claim s).1 ((fuS m claim s).2.take i)).2.length ≤ s + 2 := by
  have hl := hc.2.1
  obtain ⟨i1, i2, i3, i4⟩ := fuS_ok (m := m) hc s (by omega)
  obtain ⟨b1, b2, b3⟩ := fuI_ok (m := m) hc (s := s) (by omega) (l := (fuS m claim s).2.take i) (b := ((fuS m claim s).1, [])) (n := s) i1 (keys_nil _) fun u hu => i3 u (List.mem_of_mem_take hu)
  have e : ((fuS m claim s).1, ([] : List (Int × Bool))).1.length = (fuS m claim s).1.length := rfl
  have e2 : ((fuS m claim s).2.take i).length ≤ (fuS m claim s).2.length := by rw [List.length_take]; omega
  have := i1.1
  exact ⟨by show (((fuS m claim s).2.take i).foldl (fuT m claim s) ((fuS m claim s).1, [])).1.length < _; omega, b3, by have := (keys_asc b3).2.2; exact Nat.le_trans this (by omega)⟩
theorem fu_yes {s : Nat} {found : List (Int × Int)} {l : List Int} {i : Nat} {u : Int} (h : l[i]? = some u) (hq : decide ((ixG (ixG (nodesOf m anyS claim) (s : Int)) u).1 = ((ixG (ixG claim (s : Int)) u : Int) : Rat)) = true) :
    (fuI m claim s found (l.take i)).1 ++ [((s : Int), u)] = (fuI m claim s found (l.take (i + 1))).1 ∧ (fuI m claim s found (l.take i)).2 = (fuI m claim s found (l.take (i + 1))).2 := by
  rw [fu_step h]; unfold fuT; rw [if_pos hq]; exact ⟨rfl, rfl⟩
theorem fu_no {s : Nat} {found : List (Int × Int)} {l : List Int} {i : Nat} {u : Int} (h : l[i]? = some u) (hq : decide ((ixG (ixG (nodesOf m anyS claim) (s : Int)) u).1 = ((ixG (ixG claim (s : Int)) u : Int) : Rat)) = false) :
    (fuI m claim s found (l.take i)).1 = (fuI m claim s found (l.take (i + 1))).1 ∧ putP (putP (fuI m claim s found (l.take i)).2 u true) (u + 1) true = (fuI m claim s found (l.take (i + 1))).2 := by
  rw [fu_step h]; unfold fuT; rw [if_neg (by rw [hq]; decide)]; exact ⟨rfl, rfl⟩
end
end Nz

set_option exponentiation.threshold 10000
/-! trees: what is drawn; what the law asks -/
namespace Nz
open PySem PySem.Spec PyProof.Rows L2 RZ
theorem Fa.get {α β : Type} {R : α → β → Prop} {l : List α} {m : List β} (h : Fa R l m) : ∀ {i : Nat} {b : β}, m[i]? = some b → ∃ a, l[i]? = some a ∧ R a b := by
  induction h with
  | nil => intro i b hb; simp at hb
  | cons r _ ih =>
    intro i b hb
    cases i with
    | zero => cases hb; exact ⟨_, rfl, r⟩
    | succ i => exact ih (by simpa using hb)
/-! ### the market -/
def PartsOk (l : List Int) : Prop := l.Pairwise (· < ·) ∧ (∀ x ∈ l, 2 ≤ x ∧ x ≤ 13) ∧ 3 ≤ l.length
def PartsRaw (l : List Int) : Prop := ∃ x y, Fa (fun (_ : Nat) z => ∃ x3 y4, x3 = (2 : Int) ∧ (0 ≤ y4 ∧ y4 < (12 : Int)) ∧ z = 2 + y4) (List.range ((6 : Int)).toNat) x ∧ y = [(3 : Int), (7 : Int), (11 : Int)] ∧ l = x ++ [(3 : Int), (7 : Int), (11 : Int)]
theorem parts_few {l : List Int} (h : PartsRaw l) : l.length < 64 := by
  obtain ⟨x, y, h1, _, rfl⟩ := h
  have := h1.len
  simp at this
  simp; omega
theorem parts_len {v : List Int} (h : ∃ l, PartsRaw l ∧ v = sortU l) : v.length < 64 := by
  obtain ⟨l, h, rfl⟩ := h
  exact Nat.lt_of_le_of_lt (sortU_len l) (parts_few h)
theorem parts_ok {v : List Int} (h : ∃ l, PartsRaw l ∧ v = sortU l) : PartsOk v := by
  obtain ⟨l, ⟨x, y, h1, _, rfl⟩, rfl⟩ := h
  have h3 : ∀ k ∈ [(3 : Int), 7, 11], k ∈ sortU (x ++ [(3 : Int), (7 : Int), (11 : Int)]) := fun k hk => sortU_mem.mpr (List.mem_append_right _ hk)
  refine ⟨sortU_asc _, fun k hk => ?_, ?_⟩
  · rcases List.mem_append.mp (sortU_mem.mp hk) with q | q
    · obtain ⟨_, _, a, b, ha, hb, e⟩ := h1.mem k q
      omega
    · simp at q; omega
  · have a3 := h3 3 (by simp)
    have a7 := h3 7 (by simp)
    have a11 := h3 11 (by simp)
    generalize sortU (x ++ [(3 : Int), (7 : Int), (11 : Int)]) = s at *
    match s, a3, a7, a11 with
    | [], a3, _, _ => simp at a3
    | [u], a3, a7, _ => simp at a3 a7; omega
    | [u, v], a3, a7, a11 => simp at a3 a7 a11; omega
    | _ :: _ :: _ :: _, _, _, _ => simp
theorem asc_ix : ∀ {l : List Int} {i j : Nat} {a b : Int}, l.Pairwise (· < ·) → l[i]? = some a → l[j]? = some b → i < j → a < b
  | [], i, j, a, b, _, h, _, _ => by simp at h
  | x :: l, 0, j + 1, a, b, h, h1, h2, _ => by
    rw [List.pairwise_cons] at h
    have e : x = a := by simpa using h1
    rw [← e]
    exact h.1 b (List.mem_of_getElem? (by simpa using h2))
  | x :: l, i + 1, j + 1, a, b, h, h1, h2, hij => by
    rw [List.pairwise_cons] at h
    exact asc_ix h.2 (by simpa using h1) (by simpa using h2) (by omega)
theorem ixG_some {α : Type} [Inhabited α] {l : List α} {i : Int} (h : 0 ≤ i ∧ i < l.length) : l[i.toNat]? = some (ixG l i) := by
  have e : l[i.toNat]? = some (l[i.toNat]'(by omega)) := List.getElem?_eq_getElem (by omega)
  have := ixG_nat e
  rw [show ((i.toNat : Nat) : Int) = i by omega] at this
  rw [e, this]
theorem fac_ok {a b : Int} (ha : 1 ≤ a ∧ a ≤ 1000) (hb : 1 ≤ b ∧ b ≤ 1000) : FacOk (Rat.divInt a b) := by
  obtain ⟨h1, h2⟩ := divInt_le a b (by omega)
  have hp : 0 < Rat.divInt a b := by
    rw [divI]
    exact div_posQ (Rat.intCast_pos.mpr (by omega)) (Rat.intCast_pos.mpr (by omega))
  have := num_pos1 hp
  exact ⟨by omega, by omega, by omega⟩
theorem div_lt {a b c : Int} (h : a < b) (hc : 0 < c) : Rat.divInt a c < Rat.divInt b c := (less_i (a := a) (b := c) (c := b) (d := c) hc hc).mp (Int.mul_lt_mul_of_pos_right h hc)
theorem one_ne {x : Int} {n : Int} (h : ∃ a b : Int, a = 1 ∧ (0 ≤ b ∧ b < n) ∧ x = 1 + b) : x ≠ 0 := by
  obtain ⟨a, b, _, hb, e⟩ := h; omega
theorem one_lt {x : Int} {n : Int} (h : ∃ a b : Int, a = 1 ∧ (0 ≤ b ∧ b < n) ∧ x = 1 + b) (hn : n < 1000) : x.natAbs < 2 ^ 8999 := by
  obtain ⟨a, b, _, hb, e⟩ := h; exact small_lt (by omega)
theorem market_made {parts : List Int} {at_ low : Int} {q : Mk} (hp : PartsOk parts) (ha : 0 ≤ at_ ∧ at_ < (parts.length : Int) - 2) (hl : low = 1 ∨ low = 5 ∨ low = 7)
    (h : (∃ x : Int × Int × Unit, ((∃ a b : Int, a = 1 ∧ (0 ≤ b ∧ b < 50) ∧ x.1 = 1 + b) ∧ (∃ a b : Int, a = 1 ∧ (0 ≤ b ∧ b < 3) ∧ x.2.1 = 1 + b) ∧ True) ∧ q.1 = Rat.divInt x.1 x.2.1) ∧ q.2.1 = Rat.divInt (ixG parts (at_ + 2)) low ∧ q.2.2.1 = Rat.divInt (ixG parts at_) low ∧ q.2.2.2 = Rat.divInt (ixG parts (at_ + 1)) low) : MkOk q := by
  obtain ⟨⟨x, ⟨⟨a1, b1, _, hb1, e1⟩, ⟨a2, b2, _, hb2, e2⟩, _⟩, h1⟩, h2, h3, h4⟩ := h
  have m : ∀ i : Int, 0 ≤ i → i < parts.length → 2 ≤ ixG parts i ∧ ixG parts i ≤ 13 := fun i h0 h1 => hp.2.1 _ (ixG_mem ⟨h0, h1⟩)
  have m0 := m at_ (by omega) (by omega)
  have m1 := m (at_ + 1) (by omega) (by omega)
  have m2 := m (at_ + 2) (by omega) (by omega)
  have l1 := asc_ix hp.1 (ixG_some (i := at_) (by omega)) (ixG_some (l := parts) (i := at_ + 1) (by omega)) (by omega)
  have l2 := asc_ix hp.1 (ixG_some (i := at_ + 1) (by omega)) (ixG_some (l := parts) (i := at_ + 2) (by omega)) (by omega)
  unfold MkOk
  rw [h1, h2, h3, h4]
  exact ⟨⟨fac_ok (by omega) (by omega), fac_ok (by omega) (by omega), fac_ok (by omega) (by omega), fac_ok (by omega) (by omega)⟩, div_lt l1 (by omega), div_lt l2 (by omega)⟩
/-! ### claims -/
def ClB (steps top : Int) (z : Claim) : Prop := (z.length : Int) = steps + 1 ∧ ∀ (i : Nat) (row : List Int), z[i]? = some row → row.length = i + 1 ∧ ∀ x ∈ row, 0 ≤ x ∧ x ≤ top
theorem claim_made {steps top : Int} {z : Claim} (hs : 0 ≤ steps) (h : Fa (fun (x1 : Nat) z => Fa (fun (_ : Nat) z => 0 ≤ z ∧ z < top + (1 : Int)) (List.range ((x1 : Int) + 1).toNat) z) (List.range (steps + 1).toNat) z) : ClB steps top z := by
  refine ⟨by have := h.len; rw [List.length_range] at this; omega, fun i row hr => ?_⟩
  obtain ⟨a, ha, hf⟩ := h.get hr
  have e := (rng_get ha).1
  subst e
  have hl := hf.len
  rw [List.length_range] at hl
  exact ⟨by omega, fun x hx => by obtain ⟨_, _, q⟩ := hf.mem x hx; omega⟩
theorem ClB.ok {steps top : Int} {z : Claim} (h : ClB steps top z) (hs : 0 ≤ steps ∧ steps ≤ 12) (ht : top ≤ 1000000) : ClOk z :=
  ⟨by have := h.1; omega, by have := h.1; omega, fun i row hr => ⟨(h.2 i row hr).1, fun x hx => by have := (h.2 i row hr).2 x hx; omega⟩⟩
def tog (one other : Claim) (f : Int) : Claim := (List.range one.length).map fun (n : Nat) => (List.range (n + 1)).map fun (k : Nat) => ixG (ixG one (n : Int)) (k : Int) + f * ixG (ixG other (n : Int)) (k : Int)
theorem tog_at {one other : Claim} {f : Int} {n k : Nat} (hn : n < one.length) (hk : k ≤ n) : ixG (ixG (tog one other f) (n : Int)) (k : Int) = ixG (ixG one (n : Int)) (k : Int) + f * ixG (ixG other (n : Int)) (k : Int) := by
  unfold tog
  rw [ixG_rng hn, ixG_rng (by omega)]
theorem tog_len {one other : Claim} {f : Int} : (tog one other f).length = one.length := by unfold tog; rw [List.length_map, List.length_range]
theorem cl_cell {claim : Claim} (h : ClOk claim) {s j : Nat} (hs : s < claim.length) (hj : j ≤ s) : 0 ≤ ixG (ixG claim (s : Int)) (j : Int) ∧ ixG (ixG claim (s : Int)) (j : Int) ≤ 1000000 := by
  obtain ⟨a, b⟩ := cl_ix h (s := (s : Int)) (by omega)
  exact b _ (ixG_mem (by rw [a]; omega))
theorem clB_cell {steps top : Int} {claim : Claim} (h : ClB steps top claim) {s j : Nat} (hs : s < claim.length) (hj : j ≤ s) : 0 ≤ ixG (ixG claim (s : Int)) (j : Int) ∧ ixG (ixG claim (s : Int)) (j : Int) ≤ top := by
  have e : claim[s]? = some (ixG claim (s : Int)) := by have := ixG_some (l := claim) (i := (s : Int)) (by omega); simpa using this
  obtain ⟨a, b⟩ := h.2 s _ e
  exact b _ (ixG_mem (by rw [a]; omega))
theorem tog_ok {steps top : Int} {one other : Claim} {f : Int} (hs : 0 ≤ steps ∧ steps ≤ 12) (h1 : ClB steps top one) (ht : top ≤ 1000) (h2 : ClB steps 50 other) (hf : 0 ≤ f ∧ f ≤ 10) : ClOk (tog one other f) := by
  refine ⟨by rw [tog_len]; have := h1.1; omega, by rw [tog_len]; have := h1.1; omega, fun i row hr => ?_⟩
  have hi : i < one.length := by have := (List.getElem?_eq_some_iff.mp hr).1; rw [tog_len] at this; exact this
  unfold tog at hr
  rw [List.getElem?_map, List.getElem?_range hi] at hr
  cases hr
  refine ⟨by rw [List.length_map, List.length_range], fun x hx => ?_⟩
  obtain ⟨k, hk, rfl⟩ := List.mem_map.mp hx
  have hk := List.mem_range.mp hk
  have a := clB_cell h1 (s := i) (j := k) hi (by omega)
  have hol : i < other.length := by have := h1.1; have := h2.1; omega
  have b := clB_cell h2 (s := i) (j := k) hol (by omega)
  have c : f * ixG (ixG other (i : Int)) (k : Int) ≤ 10 * 50 := Int.mul_le_mul hf.2 b.2 b.1 (by decide)
  have d := Int.mul_nonneg hf.1 b.1
  omega
theorem tog_ck {one other : Claim} {f : Int} {k j : Nat} (hl : other.length = one.length) (h : k + j ≤ one.length - 1) (h0 : 1 ≤ one.length) : cK (tog one other f) k j = cK one k j + (f : Rat) * cK other k j := by
  unfold cK cellQ
  rw [tog_len, tog_at (by omega) (by omega), hl]
  push_cast; rfl
/-! ### ends -/
def uadV (m : Mk) (claim : Claim) : Rat := (uad m claim (claim.length - 1) claim.length).1 / m.2.2.2 ^ (claim.length - 1)
theorem uadV_f {m : Mk} (hm : MkOk m) {claim : Claim} (hc : ClOk claim) : uadV m claim = fW false (wC1 m) (wC2 m) (cK claim) (claim.length - 1) 0 := (end_val hm hc).symm
theorem uadV_inv {m : Mk} (hm : MkOk m) (claim : Claim) : (uad m claim (claim.length - 1) claim.length).1 * ((m.2.2.2)⁻¹) ^ (claim.length - 1) = uadV m claim := (end_inv hm _ _).symm
theorem uadV_qk {m : Mk} (hm : MkOk m) {claim : Claim} (hc : ClOk claim) : Qk 800 (uadV m claim) := by
  have h1 := hc.1
  have h2 := hc.2.1
  exact (Qk_div (uad_qk hm hc (n := claim.length - 1) (k := claim.length) (by omega) (by omega)) (Qk_pow hm.1.2.2.2.qk _) (Rat.pow_pos (mk_pos hm).2.2)).mono (by omega)
theorem uadV_tog {m : Mk} (hm : MkOk m) {one other : Claim} {f : Int} (h1 : ClOk one) (h2 : ClOk other) (hl : other.length = one.length) (h3 : ClOk (tog one other f)) : uadV m (tog one other f) = uadV m one + (f : Rat) * uadV m other := by
  have hp := h1.1
  rw [uadV_f hm h3, uadV_f hm h1, uadV_f hm h2, tog_len, hl]
  exact fW_lin (n := one.length - 1) (fun k j hk => tog_ck hl hk hp) _ _ (by omega)
theorem worth_end {m : Mk} (hm : MkOk m) {claim : Claim} (hc : ClOk claim) : ixG (ixG (wOf m (Str.ofString "end") claim) (0 : Int)) (0 : Int) = uadV m claim := by
  have hp := hc.1
  have := w_at (m := m) (kind := Str.ofString "end") hc (s := 0) (j := 0) (by omega) (by omega)
  rw [uadV_f hm hc]
  refine Eq.trans this ?_
  rw [nv_w hm]
  congr 1
/-- a claim that pays the same everywhere -/
theorem uadV_flat {m : Mk} (hm : MkOk m) {claim : Claim} (hc : ClOk claim) {x : Int} (h : ∀ s j : Nat, s < claim.length → j ≤ s → ixG (ixG claim (s : Int)) (j : Int) = x) : uadV m claim = (x : Rat) * ((m.2.2.2)⁻¹) ^ (claim.length - 1) := by
  have hp := hc.1
  rw [uadV_f hm hc, fW_flat (n := claim.length - 1) (x := (x : Rat)) (fun k j hk => by unfold cK cellQ; rw [h _ _ (by omega) (by omega)]) _ _ (by omega), wC_sum hm]
end Nz

set_option exponentiation.threshold 10000
/-! trees: claims that may be used at any node; papers put together -/
namespace Nz
open PySem PySem.Spec PyProof.Rows L2 RZ
abbrev anyL : Str := Str.ofString "any"
abbrev endL : Str := Str.ofString "end"
theorem any_d : decide (anyL = anyS) = true := decide_eq_true rfl
theorem end_d : decide (endL = anyS) = false := by decide +kernel
theorem two_pow (x : Nat) : 2 ^ x + 2 ^ x = 2 ^ (x + 1) := by rw [Nat.pow_succ]; omega
section
variable {m : Mk} {kind : Str} {claim one other : Claim} {s j : Nat}
theorem nv_wb (hm : MkOk m) (hc : ClOk claim) : ∀ k j : Nat, k + j + 1 ≤ claim.length → WB m k (nv m kind claim k j).1
  | 0, j, h => by
    have := cl_cell hc (s := claim.length - 1 - 0) (j := j) (by omega) (by omega)
    exact WB_claim hm this 0
  | k + 1, j, h => by
    rw [nv]
    split
    · exact WB_claim hm (cl_cell hc (s := claim.length - 1 - (k + 1)) (j := j) (by omega) (by omega)) _
    · rw [held_val hm (nodeP_pos hm _ _)]
      exact WB_next hm (nv_wb hm hc k (j + 1) (by omega)) (nv_wb hm hc k j (by omega))
theorem wv_qk (hm : MkOk m) (hc : ClOk claim) (hs : s < claim.length) (hj : j ≤ s) : Qk 1290 (ixG (ixG (wOf m kind claim) (s : Int)) (j : Int)) := by
  have h2 := hc.2.1
  rw [w_at hc hs hj]
  exact WB_qk hm (by omega) (nv_wb hm hc _ _ (by omega))
/-- two worths of like denominators -/
theorem wv_add (hm : MkOk m) {k : Nat} (hk : k ≤ 12) {a b : Rat} (ha : WB m k a) (hb : WB m k b) : Qk 1290 (a + b) := by
  obtain ⟨d1, d2⟩ := D0_le hm
  refine (Bd_add ha hb).qk ?_ ?_
  · rw [← Nat.two_mul, show 2 * 2 ^ (20 + 105 * k) = 2 ^ (20 + 105 * k + 1) by rw [Nat.pow_succ, Nat.mul_comm]]
    exact Nat.pow_le_pow_right (by decide) (by omega)
  · calc D0 m ^ k ≤ (2 ^ 104) ^ k := Nat.pow_le_pow_left d2 k
      _ = 2 ^ (104 * k) := by rw [← Nat.pow_mul]
      _ ≤ 2 ^ 1290 := Nat.pow_le_pow_right (by decide) (by omega)
theorem any_ge_end (hm : MkOk m) (hc : ClOk claim) (hs : s < claim.length) (hj : j ≤ s) : ixG (ixG (wOf m endL claim) (s : Int)) (j : Int) ≤ ixG (ixG (wOf m anyL claim) (s : Int)) (j : Int) := by
  rw [w_at hc hs hj, w_at hc hs hj, nv_w hm, nv_w hm, any_d, end_d]
  exact fW_end (wC_pos hm).1 (wC_pos hm).2 _ _
theorem any_ge_pay (hm : MkOk m) (hc : ClOk claim) (hs : s < claim.length) (hj : j ≤ s) : ((ixG (ixG claim (s : Int)) (j : Int) : Int) : Rat) ≤ ixG (ixG (wOf m anyL claim) (s : Int)) (j : Int) := by
  rw [w_at hc hs hj, nv_w hm, any_d]
  have := fW_ge (a := wC1 m) (b := wC2 m) (c := cK claim) (claim.length - 1 - s) j
  unfold cK cellQ at this
  rw [show claim.length - 1 - (claim.length - 1 - s) = s by omega] at this
  exact this
theorem any_grow (hm : MkOk m) (h1 : ClOk one) (h2 : ClOk other) (hl : one.length = other.length) (h3 : ClOk (tog one other 1)) (hs : s < one.length) (hj : j ≤ s) : ixG (ixG (wOf m anyL one) (s : Int)) (j : Int) ≤ ixG (ixG (wOf m anyL (tog one other 1)) (s : Int)) (j : Int) := by
  have hp := h1.1
  rw [w_at h1 hs hj, w_at h3 (by rw [tog_len]; exact hs) hj, nv_w hm, nv_w hm, tog_len]
  refine fW_mono (n := one.length - 1) (wC_pos hm).1 (wC_pos hm).2 (fun k i hk => ?_) _ _ (by omega)
  rw [tog_ck hl.symm hk hp]
  have a := cl_cell h2 (s := other.length - 1 - k) (j := i) (by omega) (by omega)
  have b : (0 : Rat) ≤ cK other k i := by unfold cK cellQ; exact Rat.intCast_nonneg.mpr a.1
  have c : ((1 : Int) : Rat) = 1 := rfl
  rw [c]; grind
theorem any_sub (hm : MkOk m) (h1 : ClOk one) (h2 : ClOk other) (hl : one.length = other.length) (h3 : ClOk (tog one other 1)) (hs : s < one.length) (hj : j ≤ s) : ixG (ixG (wOf m anyL (tog one other 1)) (s : Int)) (j : Int) ≤ ixG (ixG (wOf m anyL one) (s : Int)) (j : Int) + ixG (ixG (wOf m anyL other) (s : Int)) (j : Int) := by
  have hp := h1.1
  rw [w_at h1 hs hj, w_at h2 (by omega) hj, w_at h3 (by rw [tog_len]; exact hs) hj, nv_w hm, nv_w hm, nv_w hm, tog_len, ← hl, any_d]
  refine fW_sub (n := one.length - 1) (wC_pos hm).1 (wC_pos hm).2 (fun k i hk => ?_) _ _ (by omega)
  rw [tog_ck hl.symm hk hp]
  have c : ((1 : Int) : Rat) = 1 := rfl
  rw [c]; grind
end
/-! ### what is left of a claim -/
def subC (claim : Claim) (step ups : Int) : Claim := (rngX step (claim.length : Int)).map fun (n : Int) => cutX (ixG claim n) (some ups) (some (ups + n - step + 1))
theorem cut_mid {α : Type} (l : List α) {a b : Int} (h : 0 ≤ a ∧ a ≤ b ∧ b ≤ l.length) : cutX l (some a) (some b) = (l.drop a.toNat).take (b.toNat - a.toNat) := by
  have h1 : ∀ d, HT.sIx l.length d (some a) = a.toNat := fun d => by
    show (if a < 0 then _ else min a.toNat l.length) = _
    rw [if_neg (by omega)]; omega
  have h2 : ∀ d, HT.sIx l.length d (some b) = b.toNat := fun d => by
    show (if b < 0 then _ else min b.toNat l.length) = _
    rw [if_neg (by omega)]; omega
  unfold cutX
  rw [h1, h2]
section
variable {m : Mk} {claim : Claim} {step ups : Int}
theorem subC_len (h : step ≤ claim.length) : (subC claim step ups).length = ((claim.length : Int) - step).toNat := by unfold subC rngX; rw [List.length_map, List.length_map, List.length_range]
theorem subC_row (hc : ClOk claim) (h : 0 ≤ ups ∧ ups ≤ step ∧ step < claim.length) {i : Nat} (hi : (i : Int) < claim.length - step) : (subC claim step ups)[i]? = some (((ixG claim (step + (i : Int))).drop ups.toNat).take (i + 1)) ∧ (ixG claim (step + (i : Int))).length = (step + (i : Int)).toNat + 1 := by
  obtain ⟨l1, l2⟩ := cl_ix hc (s := step + (i : Int)) (by omega)
  refine ⟨?_, l1⟩
  unfold subC rngX
  rw [List.getElem?_map, List.getElem?_map, List.getElem?_range (by omega)]
  show some (cutX (ixG claim (step + (i : Int))) (some ups) (some (ups + (step + (i : Int)) - step + 1))) = _
  rw [cut_mid _ (by rw [l1]; omega)]
  congr 2
  omega
theorem subC_ok (hc : ClOk claim) (h : 0 ≤ ups ∧ ups ≤ step ∧ step < claim.length) : ClOk (subC claim step ups) := by
  have hl := hc.2.1
  have e := subC_len (claim := claim) (step := step) (ups := ups) (by omega)
  refine ⟨by omega, by omega, fun i row hr => ?_⟩
  have hi : i < (subC claim step ups).length := (List.getElem?_eq_some_iff.mp hr).1
  obtain ⟨g1, g2⟩ := subC_row hc h (i := i) (by omega)
  rw [g1] at hr
  cases hr
  refine ⟨by rw [List.length_take, List.length_drop, g2]; omega, fun x hx => ?_⟩
  have := (cl_ix hc (s := step + (i : Int)) (by omega)).2
  exact this x (List.mem_of_mem_drop (List.mem_of_mem_take hx))
theorem subC_cell (hc : ClOk claim) (h : 0 ≤ ups ∧ ups ≤ step ∧ step < claim.length) {i j : Nat} (hi : (i : Int) < claim.length - step) (hj : j ≤ i) : cellQ (subC claim step ups) i j = cellQ claim (step.toNat + i) (j + ups.toNat) := by
  obtain ⟨g1, g2⟩ := subC_row hc h (i := i) hi
  unfold cellQ
  rw [ixG_nat g1]
  have e : (((ixG claim (step + (i : Int))).drop ups.toNat).take (i + 1))[j]? = some (ixG (ixG claim (step + (i : Int))) ((j + ups.toNat : Nat) : Int)) := by
    rw [List.getElem?_take_of_lt (by omega), List.getElem?_drop]
    have := ixG_some (l := ixG claim (step + (i : Int))) (i := ((j + ups.toNat : Nat) : Int)) (by rw [g2]; omega)
    rw [← this]
    congr 1
    omega
  rw [ixG_nat e, show ((step.toNat + i : Nat) : Int) = step + (i : Int) by omega]
theorem sub_worth (hm : MkOk m) (hc : ClOk claim) (h : 0 ≤ ups ∧ ups ≤ step ∧ step < claim.length) : ixG (ixG (wOf m anyL (subC claim step ups)) (0 : Int)) (0 : Int) = ixG (ixG (wOf m anyL claim) step) ups := by
  have hs := subC_ok hc h
  have e := subC_len (claim := claim) (step := step) (ups := ups) (by omega)
  have a := w_at (m := m) (kind := anyL) hs (s := 0) (j := 0) (by omega) (by omega)
  have b := w_at (m := m) (kind := anyL) hc (s := step.toNat) (j := ups.toNat) (by omega) (by omega)
  rw [show ((step.toNat : Nat) : Int) = step by omega, show ((ups.toNat : Nat) : Int) = ups by omega] at b
  rw [b]
  refine Eq.trans a ?_
  rw [nv_w hm, nv_w hm]
  have key := fW_cut (any := decide (anyL = anyS)) (a := wC1 m) (b := wC2 m) (c := cK claim) (c' := cK (subC claim step ups)) (n := (subC claim step ups).length - 1) (u := ups.toNat) (fun k j hk => by
    unfold cK
    rw [subC_cell hc h (by omega) (by omega)]
    congr 1
    omega) ((subC claim step ups).length - 1 - 0) 0 (by omega)
  rw [key]
  congr 1 <;> omega
end
/-! ### papers put together -/
def addN (x y : Nd) : Nd := (x.1 + y.1, x.2.1 + y.2.1, x.2.2 + y.2.2)
def togT (m : Mk) (one other : Claim) : Tab := (List.range one.length).map fun (n : Nat) => (List.range (n + 1)).map fun (k : Nat) => addN (ndA (nodesOf m anyL one) n k) (ndA (nodesOf m anyL other) n k)
theorem held_eqs {m : Mk} (hm : MkOk m) {high low price : Rat} (hp : 0 < price) : (heldF m high low price).2.1 * price + (heldF m high low price).2.2 = (heldF m high low price).1 ∧
    (heldF m high low price).2.1 * (price * m.2.1) + (heldF m high low price).2.2 * m.2.2.2 = high ∧ (heldF m high low price).2.1 * (price * m.2.2.1) + (heldF m high low price).2.2 * m.2.2.2 = low := by
  have g := pos_ne (mk_gap hm)
  have r := pos_ne (mk_pos hm).2.2
  have p := pos_ne hp
  unfold heldF heldM heldS
  obtain ⟨a, u, d, r0⟩ := m
  dsimp only at *
  clear hm hp
  refine ⟨rfl, ?_, ?_⟩ <;> grind
/-- what is held is bounded by the pieces of the price -/
def hB (m : Mk) (price : Rat) : Rat := 1 / (price * (m.2.1 - m.2.2.1))
def hC1 (m : Mk) : Rat := m.2.2.1 / ((m.2.1 - m.2.2.1) * m.2.2.2)
def hC2 (m : Mk) : Rat := m.2.1 / ((m.2.1 - m.2.2.1) * m.2.2.2)
theorem held_S {m : Mk} (hm : MkOk m) (high low price : Rat) : (heldF m high low price).2.1 = (high - low) * hB m price := by
  unfold heldF heldS hB
  dsimp only
  rw [Rat.div_def, Rat.div_def, Rat.one_mul]
theorem held_M {m : Mk} (hm : MkOk m) {high low price : Rat} (hp : 0 < price) : (heldF m high low price).2.2 = hC2 m * low - hC1 m * high := by
  have g := pos_ne (mk_gap hm)
  have r := pos_ne (mk_pos hm).2.2
  have p := pos_ne hp
  unfold heldF heldM heldS hC1 hC2
  obtain ⟨a, u, d, r0⟩ := m
  dsimp only at *
  clear hm hp
  grind
theorem hB_qk {m : Mk} (hm : MkOk m) {price : Rat} (hp : 0 < price ∧ Qk 260 price) : Qk 300 (hB m price) :=
  (Qk_div (Qk_one 1) (Qk_mul hp.2 (Qk_sub hm.1.2.1.qk hm.1.2.2.1.qk)) (Rat.mul_pos hp.1 (mk_gap hm))).mono (by decide)
theorem hC_qk {m : Mk} (hm : MkOk m) : Qk 52 (hC1 m) ∧ Qk 52 (hC2 m) := by
  have g := Rat.mul_pos (mk_gap hm) (mk_pos hm).2.2
  have q := Qk_mul (Qk_sub hm.1.2.1.qk hm.1.2.2.1.qk) hm.1.2.2.2.qk
  exact ⟨(Qk_div hm.1.2.2.1.qk q g).mono (by decide), (Qk_div hm.1.2.1.qk q g).mono (by decide)⟩
section
variable {m : Mk} {one other : Claim}
/-- shares and money of both, told by both sums of later worths -/
theorem wb_sub (hm : MkOk m) {k : Nat} (hk : k ≤ 12) {a b a' b' : Rat} (ha : WB m k a) (hb : WB m k b) (ha' : WB m k a') (hb' : WB m k b') : Qk 1300 ((a + a') - (b + b')) := by
  obtain ⟨d1, d2⟩ := D0_le hm
  have z := Bd_add (Bd_add ha ha') (Bd_neg (Bd_add hb hb'))
  rw [← Rat.sub_eq_add_neg] at z
  refine z.qk ?_ ?_
  · rw [two_pow, two_pow]
    exact Nat.pow_le_pow_right (by decide) (by omega)
  · calc D0 m ^ k ≤ (2 ^ 104) ^ k := Nat.pow_le_pow_left d2 k
      _ = 2 ^ (104 * k) := by rw [← Nat.pow_mul]
      _ ≤ 2 ^ 1300 := Nat.pow_le_pow_right (by decide) (by omega)
theorem nv_held {kind : Str} {claim : Claim} (k j : Nat) : (nv m kind claim (k + 1) j).2 = (heldF m (nv m kind claim k (j + 1)).1 (nv m kind claim k j).1 (nodeP m ((claim.length : Int) - 2 - (k : Int)) (j : Int))).2 := by
  rw [nv]; split <;> rfl
theorem nv_cost (hm : MkOk m) {claim : Claim} (k j : Nat) : (heldF m (nv m anyL claim k (j + 1)).1 (nv m anyL claim k j).1 (nodeP m ((claim.length : Int) - 2 - (k : Int)) (j : Int))).1 ≤ (nv m anyL claim (k + 1) j).1 := by
  rw [nv]
  split
  · rename_i h
    simp at h
    exact Std.le_of_lt h.2
  · exact Rat.le_refl
theorem togT_at {n k : Nat} (hn : n < one.length) (hk : k ≤ n) (h1 : ClOk one) (h2 : ClOk other) (hl : one.length = other.length) : ndA (togT m one other) n k = addN (nv m anyL one (one.length - 1 - n) k) (nv m anyL other (one.length - 1 - n) k) := by
  unfold togT
  unfold ndA
  rw [ixG_rng hn, ixG_rng (by omega)]
  show addN (ixG (ixG _ _) _) (ixG (ixG _ _) _) = _
  rw [node_at h1 hn hk, node_at h2 (by omega) hk, ← hl]
theorem togT_ok (hm : MkOk m) (h1 : ClOk one) (h2 : ClOk other) (hl : one.length = other.length) : TabOk one.length (togT m one other) := by
  have hb := h1.2.1
  refine ⟨by unfold togT; rw [List.length_map, List.length_range], fun s hs => ⟨by unfold togT; rw [ixG_rng hs, List.length_map, List.length_range], fun j hj => ?_⟩⟩
  rw [togT_at hs hj h1 h2 hl]
  have q : Qk 1700 (addN (nv m anyL one (one.length - 1 - s) j) (nv m anyL other (one.length - 1 - s) j)).1 := (wv_add hm (by omega) (nv_wb (kind := anyL) hm h1 (one.length - 1 - s) j (by omega)) (nv_wb (kind := anyL) hm h2 (one.length - 1 - s) j (by omega))).mono (by decide)
  refine ⟨q, ?_⟩
  cases hk : one.length - 1 - s with
  | zero =>
    refine ⟨?_, ?_⟩
    · show Qk 1700 ((0 : Rat) + 0); rw [Rat.add_zero]; exact Qk_zero _
    · show Qk 1700 ((0 : Rat) + 0); rw [Rat.add_zero]; exact Qk_zero _
  | succ k =>
    have w1 := nv_wb (kind := anyL) hm h1 k (j + 1) (by omega)
    have w2 := nv_wb (kind := anyL) hm h1 k j (by omega)
    have w3 := nv_wb (kind := anyL) hm h2 k (j + 1) (by omega)
    have w4 := nv_wb (kind := anyL) hm h2 k j (by omega)
    have hP := nodeP_ok hm (step := (one.length : Int) - 2 - (k : Int)) (ups := (j : Int)) (by omega)
    unfold addN
    dsimp only
    rw [nv_held, nv_held, ← hl]
    refine ⟨?_, ?_⟩
    · rw [held_S hm, held_S hm, ← Rat.add_mul]
      have e := Qk_mul (wb_sub hm (by omega) w1 w2 w3 w4) (hB_qk hm hP)
      have e2 : (nv m anyL one k (j + 1)).1 - (nv m anyL one k j).1 + ((nv m anyL other k (j + 1)).1 - (nv m anyL other k j).1) = (nv m anyL one k (j + 1)).1 + (nv m anyL other k (j + 1)).1 - ((nv m anyL one k j).1 + (nv m anyL other k j).1) := by grind
      rw [e2]
      exact e.mono (by decide)
    · rw [held_M hm hP.1, held_M hm hP.1]
      have b1 := (Bd_self (hC_qk hm).1)
      have b2 := (Bd_self (hC_qk hm).2)
      obtain ⟨d1, d2⟩ := D0_le hm
      have hp1 := (hC1 m).den_pos
      have hp2 := (hC2 m).den_pos
      have c1 := (hC_qk hm).1.2
      have c2 := (hC_qk hm).2.2
      have k1 : D0 m ^ k ≤ 2 ^ 1150 := by
        calc D0 m ^ k ≤ (2 ^ 104) ^ k := Nat.pow_le_pow_left d2 k
          _ = 2 ^ (104 * k) := by rw [← Nat.pow_mul]
          _ ≤ 2 ^ 1150 := Nat.pow_le_pow_right (by decide) (by omega)
      -- both over the product of all denominators
      have hD : Bd (2 ^ 104 * (2 ^ (20 + 105 * k) + 2 ^ (20 + 105 * k)) + 2 ^ 104 * (2 ^ (20 + 105 * k) + 2 ^ (20 + 105 * k))) ((hC2 m).den * (hC1 m).den * D0 m ^ k) (hC2 m * ((nv m anyL one k j).1 + (nv m anyL other k j).1) + -(hC1 m * ((nv m anyL one k (j + 1)).1 + (nv m anyL other k (j + 1)).1))) := by
        have f2 : Bd (2 ^ 104) ((hC2 m).den * (hC1 m).den) (hC2 m) := by
          refine ⟨Nat.mul_pos hp2 hp1, (hC2 m).num * (hC1 m).den, ?_, ?_⟩
          · rw [Int.natAbs_mul, show 104 = 52 + 52 by rfl, Nat.pow_add]; exact Nat.mul_le_mul (hC_qk hm).2.1 c1
          · rw [Int.natCast_mul, Rat.divInt_mul_right (by omega), Rat.num_divInt_den]
        have f1 : Bd (2 ^ 104) ((hC2 m).den * (hC1 m).den) (hC1 m) := by
          refine ⟨Nat.mul_pos hp2 hp1, (hC2 m).den * (hC1 m).num, ?_, ?_⟩
          · rw [Int.natAbs_mul, show 104 = 52 + 52 by rfl, Nat.pow_add]; exact Nat.mul_le_mul c2 (hC_qk hm).1.1
          · rw [Int.natCast_mul, Rat.divInt_mul_left (by omega), Rat.num_divInt_den]
        exact Bd_add (Bd_mul f2 (Bd_add w2 w4)) (Bd_neg (Bd_mul f1 (Bd_add w1 w3)))
      have e2 : hC2 m * (nv m anyL one k j).1 - hC1 m * (nv m anyL one k (j + 1)).1 + (hC2 m * (nv m anyL other k j).1 - hC1 m * (nv m anyL other k (j + 1)).1) = hC2 m * ((nv m anyL one k j).1 + (nv m anyL other k j).1) + -(hC1 m * ((nv m anyL one k (j + 1)).1 + (nv m anyL other k (j + 1)).1)) := by grind
      rw [e2]
      refine (hD.qk (k := 1450) ?_ ?_).mono (by decide)
      · rw [two_pow, ← Nat.pow_add, two_pow]
        exact Nat.pow_le_pow_right (by decide) (by omega)
      · calc (hC2 m).den * (hC1 m).den * D0 m ^ k ≤ 2 ^ 52 * 2 ^ 52 * 2 ^ 1150 := Nat.mul_le_mul (Nat.mul_le_mul c2 c1) k1
          _ = 2 ^ (52 + 52 + 1150) := by rw [Nat.pow_add, Nat.pow_add]
          _ ≤ 2 ^ 1450 := Nat.pow_le_pow_right (by decide) (by decide)
theorem togT_pay (hm : MkOk m) (h1 : ClOk one) (h2 : ClOk other) (hl : one.length = other.length) {s j : Nat} (hs : s < (tog one other 1).length) (hj : j ≤ s) : cellQ (tog one other 1) s j ≤ (ndA (togT m one other) s j).1 := by
  rw [tog_len] at hs
  rw [togT_at hs hj h1 h2 hl]
  unfold addN cellQ
  rw [tog_at hs hj]
  have a := any_ge_pay hm h1 hs hj
  have b := any_ge_pay (claim := other) hm h2 (hl ▸ hs) hj
  rw [w_at h1 hs hj] at a
  rw [w_at h2 (hl ▸ hs) hj, ← hl] at b
  push_cast
  grind
theorem togT_node (hm : MkOk m) (h1 : ClOk one) (h2 : ClOk other) (hl : one.length = other.length) {s j : Nat} (hs : s + 1 < (tog one other 1).length) (hj : j ≤ s) : NodeOk m (togT m one other) s j := by
  rw [tog_len] at hs
  unfold NodeOk
  rw [togT_at (by omega) hj h1 h2 hl, togT_at (n := s + 1) (k := j + 1) hs (by omega) h1 h2 hl, togT_at (n := s + 1) (k := j) hs (by omega) h1 h2 hl]
  have ek : one.length - 1 - s = (one.length - 1 - (s + 1)) + 1 := by omega
  rw [ek]
  generalize hk : one.length - 1 - (s + 1) = k
  have es : (one.length : Int) - 2 - (k : Int) = (s : Int) := by omega
  have es2 : (other.length : Int) - 2 - (k : Int) = (s : Int) := by omega
  have c1 := nv_cost (claim := one) hm k j
  have c2 := nv_cost (claim := other) hm k j
  rw [es] at c1
  rw [es2] at c2
  have g1 := nv_held (m := m) (kind := anyL) (claim := one) k j
  have g2 := nv_held (m := m) (kind := anyL) (claim := other) k j
  rw [es] at g1
  rw [es2] at g2
  have p := nodeP_pos hm (s : Int) (j : Int)
  have q1 := held_eqs hm (high := (nv m anyL one k (j + 1)).1) (low := (nv m anyL one k j).1) p
  have q2 := held_eqs hm (high := (nv m anyL other k (j + 1)).1) (low := (nv m anyL other k j).1) p
  rw [← g1] at q1
  rw [← g2] at q2
  unfold addN
  dsimp only
  obtain ⟨a1, a2, a3⟩ := q1
  obtain ⟨b1, b2, b3⟩ := q2
  refine ⟨?_, ?_, ?_⟩
  · rw [Rat.add_mul]; grind
  · rw [Rat.add_mul, Rat.add_mul]; grind
  · rw [Rat.add_mul, Rat.add_mul]; grind
end
end Nz

set_option exponentiation.threshold 10000
/-! trees: what the law's own functions ask -/
namespace Nz
open PySem PySem.Spec PyProof.Rows L2 RZ
theorem mem3 {α : Type} {a b c x : α} (h : x ∈ [a, b, c]) : x = a ∨ x = b ∨ x = c := by simpa using h
theorem wv_sum {m : Mk} {one other : Claim} (hm : MkOk m) (h1 : ClOk one) (h2 : ClOk other) (hl : one.length = other.length) {s j : Nat} (hs : s < one.length) (hj : j ≤ s) : Qk 1290 (ixG (ixG (wOf m anyL one) (s : Int)) (j : Int) + ixG (ixG (wOf m anyL other) (s : Int)) (j : Int)) := by
  have h3 := h1.2.1
  rw [w_at h1 hs hj, w_at h2 (hl ▸ hs) hj, ← hl]
  exact wv_add hm (by omega) (nv_wb hm h1 _ _ (by omega)) (nv_wb hm h2 _ _ (by omega))
theorem uses_ix {m : Mk} {one : Claim} (h1 : ClOk one) {x : Int × Int} (hx : x ∈ (fuS m one one.length).1) : ∃ s u : Nat, x = ((s : Int), (u : Int)) ∧ s < one.length ∧ u ≤ s := by
  obtain ⟨s, u, e, hs, hu, _⟩ := (fuS_ok (m := m) h1 _ (Nat.le_refl _)).1.2 x hx
  exact ⟨s, u, e, hs, hu⟩
theorem uses_w {m : Mk} {one : Claim} (h1 : ClOk one) {x : Int × Int} (hx : x ∈ (fuS m one one.length).1) : InB (wOf m anyL one).length x.1 ∧ InB (ixG (wOf m anyL one) x.1).length x.2 ∧ InB one.length x.1 ∧ InB (ixG one x.1).length x.2 := by
  obtain ⟨s, u, rfl, hs, hu⟩ := uses_ix h1 hx
  refine ⟨inb (by rw [w_len h1]; dsimp only; omega), inb ?_, inb (by dsimp only; omega), inb ?_⟩
  · dsimp only; rw [w_row h1 hs]; omega
  · dsimp only; rw [(cl_ix h1 (s := (s : Int)) (by omega)).1]; omega
theorem uses_few {m : Mk} {one : Claim} (h1 : ClOk one) : (fuS m one one.length).1.length ≤ 100000 := by
  have := (fuS_ok (m := m) h1 _ (Nat.le_refl _)).1.1
  have := h1.2.1
  omega
theorem uses_none {m : Mk} {one : Claim} (h1 : ClOk one) : (!(!((((fuS m one one.length).1).filter fun (x : Int × Int) => (!decide ((ixG (ixG (wOf m anyL one) x.1) x.2) = ((ixG (ixG one x.1) x.2 : Int) : Rat)))).map fun x => x).isEmpty)) = true := by
  have e : (((fuS m one one.length).1).filter fun (x : Int × Int) => (!decide ((ixG (ixG (wOf m anyL one) x.1) x.2) = ((ixG (ixG one x.1) x.2 : Int) : Rat)))) = [] := by
    rw [List.filter_eq_nil_iff]
    intro x hx
    obtain ⟨s, u, rfl, hs, hu, e⟩ := (fuS_ok (m := m) h1 _ (Nat.le_refl _)).1.2 x hx
    have e : (nv m anyL one (one.length - 1 - s) u).1 = cellQ one s u := e
    dsimp only
    rw [w_at h1 hs hu, e]
    unfold cellQ
    simp
  rw [e]; rfl
theorem any_same {m : Mk} {one : Claim} (hm : MkOk m) (h1 : ClOk one) {step ups : Int} (h : 0 ≤ ups ∧ ups ≤ step ∧ step < one.length) :
    [nodeP m step ups, ixG (ixG (wOf m anyL (subC one step ups)) (0 : Int)) (0 : Int)] = [m.1 * (m.2.1 ^ ups.toNat * m.2.2.1 ^ (step - ups).toNat), ixG (ixG (wOf m anyL one) step) ups] := by
  rw [sub_worth hm h1 h]; rfl
theorem gd_two {a b : Rat} {k : Nat} (ha : Qk k a) (hb : Qk k b) (hk : k < 1900) : Gd 20 15000000 (eL eQ [a, b]) := by
  refine (gd_L (k := 1) (len := 1209) (n := 2) (fun x hx => ?_) (Nat.le_refl _)).mono (by decide) (by decide)
  rcases List.mem_cons.mp hx with rfl | hx
  · exact ha.gd hk
  · rw [List.mem_singleton.mp hx]; exact hb.gd hk
theorem any_gd {m : Mk} {one : Claim} (hm : MkOk m) (h1 : ClOk one) {step ups : Int} (h : 0 ≤ ups ∧ ups ≤ step ∧ step < one.length) : Gd 20 15000000 (eL eQ [nodeP m step ups, ixG (ixG (wOf m anyL (subC one step ups)) (0 : Int)) (0 : Int)]) := by
  have hl := h1.2.1
  have hs := subC_ok h1 h
  have w := wv_qk (kind := anyL) hm hs (s := 0) (j := 0) (by have := hs.1; omega) (Nat.le_refl _)
  exact gd_two ((nodeP_ok hm (by omega)).2.mono (by decide)) w (by decide)
end Nz

set_option exponentiation.threshold 10000
/-! trees: the law itself -/
namespace Nz
open PySem PySem.Spec PyProof.Rows L2 RZ
theorem mem2 {α : Type} {a b x : α} (h : x ∈ [a, b]) : x = a ∨ x = b := by simpa using h
def flatC (n : Int) : Claim := (List.range (n + 1).toNat).map fun (k : Nat) => (List.replicate ((k : Int) + 1).toNat [(7 : Int)]).flatten
theorem flat_row (k : Nat) : (List.replicate ((k : Int) + 1).toNat [(7 : Int)]).flatten = List.replicate (k + 1) 7 := by
  rw [show ((k : Int) + 1).toNat = k + 1 by omega]
  generalize k + 1 = j
  induction j with
  | zero => rfl
  | succ j ih => rw [List.replicate_succ, List.flatten_cons, ih, List.replicate_succ]; rfl
theorem flat_ok {n : Int} (h : 0 ≤ n ∧ n ≤ 12) : ClOk (flatC n) ∧ ((flatC n).length : Int) = n + 1 := by
  have e : (flatC n).length = (n + 1).toNat := by unfold flatC; rw [List.length_map, List.length_range]
  refine ⟨⟨by omega, by omega, fun i row hr => ?_⟩, by omega⟩
  have hi : i < (flatC n).length := (List.getElem?_eq_some_iff.mp hr).1
  unfold flatC at hr
  rw [List.getElem?_map, List.getElem?_range (by omega)] at hr
  have hr := Option.some.inj hr
  dsimp only at hr
  rw [flat_row] at hr
  subst hr
  exact ⟨List.length_replicate .., fun x hx => by rw [List.eq_of_mem_replicate hx]; decide⟩
theorem flat_val {m : Mk} (hm : MkOk m) {n : Int} (h : 0 ≤ n ∧ n ≤ 12) : uadV m (flatC n) = qv ((7 : Int), (1 : Int)) * (m.2.2.2)⁻¹ ^ n.toNat := by
  obtain ⟨a, b⟩ := flat_ok h
  rw [uadV_flat hm a (x := 7) (fun s j hs hj => ?_), qv_1, show (flatC n).length - 1 = n.toNat by omega]
  unfold flatC
  rw [ixG_rng (by omega), flat_row]
  exact ixG_nat (by rw [List.getElem?_replicate, if_pos (by omega)])
def togR (m : Mk) (one other : Claim) (n : Nat) : List Nd := (List.range (n + 1)).map fun (k : Nat) => addN (ndA (nodesOf m anyL one) n k) (ndA (nodesOf m anyL other) n k)
theorem togR_step (m : Mk) (one other : Claim) (i : Nat) {row : List Nd} (h : row = togR m one other i := by rfl) : (List.range i).map (togR m one other) ++ [row] = (List.range (i + 1)).map (togR m one other) := by
  subst h
  rw [List.range_succ, List.map_append]; rfl
theorem togR_row (m : Mk) (one other : Claim) (i : Nat) : ((List.range ((i : Int) + 1).toNat).map fun (k : Nat) => addN (ixG (ixG (nodesOf m anyL one) (i : Int)) (k : Int)) (ixG (ixG (nodesOf m anyL other) (i : Int)) (k : Int))) = togR m one other i := by
  rw [show ((i : Int) + 1).toNat = i + 1 by omega]; rfl
theorem togT_is {m : Mk} {one other : Claim} {n : Nat} (h : n = one.length) : (List.range n).map (togR m one other) = togT m one other := by subst h; rfl
theorem nd_pb {m : Mk} {claim : Claim} (hm : MkOk m) (hc : ClOk claim) {n k j : Nat} (hn : n < claim.length) (hk : k ∈ List.range ((n : Int) + 1).toNat) (hj : j ∈ List.range ((3 : Int)).toNat) :
    Pb (qp (ixG [(ixG (ixG (nodesOf m anyL claim) (n : Int)) (k : Int)).1, (ixG (ixG (nodesOf m anyL claim) (n : Int)) (k : Int)).2.1, (ixG (ixG (nodesOf m anyL claim) (n : Int)) (k : Int)).2.2] (j : Int))) := by
  have hb := hc.2.1
  have hk := List.mem_range.mp hk
  have hj := List.mem_range.mp hj
  rw [node_at hc hn (by omega)]
  have q1 : Qk 3300 (nv m anyL claim (claim.length - 1 - n) k).1 := (WB_qk hm (by omega) (nv_wb (kind := anyL) hm hc (claim.length - 1 - n) k (by omega))).mono (by decide)
  have q2 : Qk 3300 (nv m anyL claim (claim.length - 1 - n) k).2.1 ∧ Qk 3300 (nv m anyL claim (claim.length - 1 - n) k).2.2 := by
    cases e : claim.length - 1 - n with
    | zero => exact ⟨Qk_zero _, Qk_zero _⟩
    | succ i =>
      have hP := nodeP_ok hm (step := (claim.length : Int) - 2 - (i : Int)) (ups := (k : Int)) (by omega)
      have b := WB_hb hm (k := i) (by omega) (nv_wb (kind := anyL) hm hc i (k + 1) (by omega)) (nv_wb (kind := anyL) hm hc i k (by omega))
      rw [nv_held]
      exact ⟨(heldS_qk hm hP b).mono (by decide), (heldM_qk hm hP b).mono (by decide)⟩
  have z : ∀ x ∈ [(nv m anyL claim (claim.length - 1 - n) k).1, (nv m anyL claim (claim.length - 1 - n) k).2.1, (nv m anyL claim (claim.length - 1 - n) k).2.2], Qk 3300 x := fun x hx => by
    rcases mem3 hx with rfl | rfl | rfl
    · exact q1
    · exact q2.1
    · exact q2.2
  exact ((z _ (ixG_mem (by show (0 : Int) ≤ (j : Int) ∧ (j : Int) < ((3 : Nat) : Int); have : ((3 : Int)).toNat = 3 := rfl; omega))).qb (by decide)).pb
theorem uadV_due {m : Mk} (hm : MkOk m) {one other : Claim} {f : Int} (h1 : ClOk one) (h2 : ClOk other) (hl : one.length = other.length) (h3 : ClOk (tog one other f)) : uadV m (tog one other f) = uadV m one + uadV m other * qv (f, (1 : Int)) := by
  rw [uadV_tog hm h1 h2 hl.symm h3, qv_1, Rat.mul_comm]
theorem flat_pb {m : Mk} (hm : MkOk m) {n : Int} (h : 0 ≤ n ∧ n ≤ 12) : Pb (qp ((m.2.2.2)⁻¹ ^ n.toNat)) := ((Qk_pow (inv_qk hm) n.toNat).qb (by omega)).pb
theorem in_rows {i n : Nat} (h : i ∈ List.range ((n : Int) + 1).toNat) : i ≤ n := by have := List.mem_range.mp h; omega
end Nz

/-! the law's own head, for promises that hold where no repr is on the way -/
namespace Nz
open PySem PySem.Spec PyProof.Rows L2 RZ
/-- what a law's def promises -/
def R_top : List PyData → PyData → Prop := fun ds d => ∃ script : List Int, ds = [eL PyData.int script] ∧ script.length ≤ 100000 ∧ d = PyData.bool true
theorem hide_nil (H : Hp) : hide [] H = H := by
  funext b
  unfold hide
  rw [if_neg (fun m => nomatch m)]
theorem top_sp {K : PySem.W.Frag} {H : Hp} {a : Addr} {ns : List Int} (hl : ns.length ≤ 100000) (hq : SqL K H a (ns.map V.int)) : SpP K R_top [.ref a] H (fun v _ => v = .bl true) E0 :=
  ⟨[], [eL PyData.int ns], .bool true, fun _ m => (nomatch m), by rw [hide_nil]; exact .cons (.lst hq (dpa_ints ns)) .nil, ⟨ns, rfl, hl, rfl⟩, fun v H' _ dz => dp_bl dz⟩
section
variable {P : Program} {w : World} {K : PySem.W.Frag} {mg mb : Str → Option Value} {k : Nat} {g a : Addr} {fd : FuncData} {x : Str} {s : Shared} {us : List Value} {ns : List Int}
/-- the heap that is tracked: the script alone, if it is no part of the module -/
def soleH (K : PySem.W.Frag) (a : Addr) (ob : Obj) (ns : List Int) : Hp := fun b => if b = a then (if (K.lookup a).isSome = true then none else some (.frz ob (.lst (ns.map V.int)))) else none
theorem law_callG (inK : K.In s.heap) (nsG : s.heap.Ns mainGlobals mg) (nsB : s.heap.Ns builtinsNs mb) (bb : ∀ y : Str, y ≠ "__name__" → mb y = bootBuiltins y) (lim : s.heap.NoLimit) (gn : s.gens = #[])
    (at_a : s.heap.get? a = some { cls := .type "list", data := .seq us.toArray }) (allI : IntsAre us ns) (short : ns.length ≤ 100000) (room : Room k callerA)
    (F : ∀ base : Heap, K.In base → base.Ns mainGlobals mg → FnG P w K mg base k g fd [x] (SpP K R_top)) (bnd : ∀ (s : Shared) (u : Value), BindsTo s fd ⟨[u], []⟩ [(x, u)]) :
    codeAny (model P w) callerA (.call (.ref g) ⟨[.ref a], []⟩) (fun r t => r = .ok (.ret (.bool true)) ∧ OldK s.heap t.heap ∧ t.os = s.os ∧ AllBare t.gens) s := by
  have vals := vals_ints allI
  have cnt := allI.length
  have size : ns.length ≤ sizeLine := Nat.le_trans short (by decide)
  let ob : Obj := { cls := .type "list", data := .seq us.toArray }
  let H := soleH K a ob ns
  have off : ∀ {b : Addr}, b ≠ a → H b = none := fun {b} ne => if_neg ne
  have isA : ∀ {b : Addr} {u : HO}, H b = some u → b = a ∧ u = .frz ob (.lst (ns.map V.int)) ∧ K.lookup a = none := fun {b u} e => by
    by_cases q : b = a
    · subst q
      have e : (if True then (if (K.lookup b).isSome = true then none else some (HO.frz ob (.lst (ns.map V.int)))) else none) = some u := by
        have e' := e
        show (if True then _ else _) = _
        rw [if_pos trivial]
        have : H b = (if (K.lookup b).isSome = true then none else some (HO.frz ob (.lst (ns.map V.int)))) := if_pos rfl
        rw [this] at e'; exact e'
      rw [if_pos trivial] at e
      cases z : K.lookup b with
      | some o => rw [z] at e; cases e
      | none => rw [z] at e; cases e; exact ⟨rfl, rfl, rfl⟩
    · rw [off q] at e; cases e
  have seq : SqL K H a (ns.map V.int) := by
    cases z : K.lookup a with
    | some o =>
      have e := inK a o z
      rw [at_a] at e
      cases e
      exact .inr ⟨_, us.toArray, _, z, rfl, rfl, rfl, by rw [List.size_toArray, cnt]; exact size, by simpa using vals⟩
    | none =>
      refine .inl (.inr ⟨ob, ?_⟩)
      show H a = _
      have : H a = (if (K.lookup a).isSome = true then none else some (HO.frz ob (.lst (ns.map V.int)))) := if_pos rfl
      rw [this, z]; rfl
  have hok : HOk P w H s.heap := fun b u e => by
    obtain ⟨rfl, rfl, _⟩ := isA e
    exact ⟨at_a, by rw [List.length_map]; exact size, us, _, vals, at_a⟩
  have back : ∀ {b : Addr} {o : Obj}, s.heap.get? b = some o → H b = none → (hidT s.heap H).get? b = some o := fun e n => hidT_get e n
  have dict : ∀ {b : Addr} {o : Obj} {es : Array DictEntry} {m : Nat}, s.heap.get? b = some o → o.data = .dict es m → H b = none := fun {b o es m} e d => by
    cases q : H b with
    | none => rfl
    | some u =>
      obtain ⟨rfl, _, _⟩ := isA q
      rw [at_a] at e
      cases e
      have d : Data.seq us.toArray _ = Data.dict es m := d
      cases d
  have nsOf : ∀ {b : Addr} {m : Str → Option Value}, s.heap.Ns b m → (hidT s.heap H).Ns b m := fun ⟨o, es, j, e, d, r⟩ => ⟨o, es, j, back e (dict e d), d, r⟩
  have inB : K.In (hidT s.heap H) := fun b o e => back (inK b o e) (by
    cases q : H b with
    | none => rfl
    | some u =>
      obtain ⟨rfl, _, z⟩ := isA q
      rw [z] at e; cases e)
  obtain ⟨mc, lim1, lim2⟩ := lim
  have env : Env0 P w K mg (hidT s.heap H) callerA [] s H := ⟨rfl, ⟨inB, nsOf nsG, ⟨mb, nsOf nsB, bb⟩, ⟨mc, nsOf lim1, lim2⟩⟩, fun _ _ e => of_hidT e, Nat.le_of_eq (hidT_size _ _), trivial, fun b m => absurd (show b ∈ ([] : List Addr) from m) (by simp), hok, .of_eq gn⟩
  have ran := (F _ inB (nsOf nsG)).run callerA [] s H ⟨[.ref a], []⟩ [.ref a] [.ref a] (fun v _ => v = .bl true) room rfl env (bnd s (.ref a)) (.cons rfl .nil) (top_sp short seq)
  refine codeAny_mono ran fun r t h => ?_
  match r, h with
  | .error _, h => exact h.elim
  | .ok .next, h => exact h.elim
  | .ok .brk, h => exact h.elim
  | .ok .cont, h => exact h.elim
  | .ok (.ret u), h =>
    obtain ⟨v, H', os, bare, un, hok', rv, q⟩ := h
    have q : v = .bl true := q
    subst q
    have rv : u = Value.bool true := rv
    subst rv
    refine ⟨rfl, OldK.of_keep fun b o e => ?_, os, bare⟩
    cases q : H b with
    | none => exact un.keep b o e q (fun z => absurd (show b ∈ ([] : List Addr) from z) (by simp)) (by simp)
    | some u =>
      obtain ⟨rfl, rfl, _⟩ := isA q
      have e1 := (hok b _ q).1
      have e2 := (hok' b _ (un.frzs b ob _ q)).1
      rw [e] at e1
      cases e1
      exact e2
end
/-- the goal that k_head leaves -/
theorem walk_ofG {l : PySem.W.OpenLaw} {n k : Nat} {q : Program} {loose : List Str} {XP : (Str → Option Value) → Heap → Prop} {YP : World → Heap → Prop} {d : DefRec} {K : Params → PySem.W.Frag} {x : Str}
    (most : l.most = some n) (small : n ≤ 100000) (none_ : d.params.defaults = []) (room : Room k callerA) (hY : ∀ (w : World) (h : Heap), YP w h → (K w.params).In h)
    (F : ∀ (w : World) (mg : Str → Option Value) (g : Addr) (h : Heap), (K w.params).In h → h.Ns mainGlobals mg → mg d.name = some (.ref g) →
      ∃ fd : FuncData, (∀ (s : Shared) (u : Value), BindsTo s fd ⟨[u], []⟩ [(x, u)]) ∧ ∀ base : Heap, (K w.params).In base → base.Ns mainGlobals mg → FnG l.prog w (K w.params) mg base k g fd [x] (SpP (K w.params) R_top)) :
    PySem.W.WalkO q loose XP YP l.row.toRowW d [] (fun f vs => PySem.call f vs) :=
  Att.attach_call most none_ fun w s₀ s₁ mg mb g o pm cd doc a vs ns G Y ho hd hcd hmg hobj hints hlen hg =>
    have inK := hY w _ Y
    have ⟨_, bnd, all⟩ := F w mg g _ inK G.T.g hmg
    law_callG inK G.T.g G.T.b G.T.builtins G.T.nolimit hg hobj hints (Nat.le_trans hlen small) room all bnd
end Nz

namespace Nz
open PySem PySem.Spec PyProof.Rows L2 RZ
def topS (i : Nat) : Stmt := PySem.Challenge.pw_nosurewin_k67_claims_added_and_scaled_on.main.body.getD i (.Pass ⟨0, 0, 0, 0⟩)
/-- what the top leaves of the names that are no defs -/
structure Gb (mg : Str → Option Value) : Prop where
  abs_ : mg "abs" = none
  all_ : mg "all" = none
  bool_ : mg "bool" = none
  enumerate_ : mg "enumerate" = none
  int_ : mg "int" = none
  isinstance_ : mg "isinstance" = none
  len_ : mg "len" = none
  list_ : mg "list" = none
  range_ : mg "range" = none
  repr_ : mg "repr" = none
  set_ : mg "set" = none
  sorted_ : mg "sorted" = none
  str_ : mg "str" = none
  tuple_ : mg "tuple" = none
  c_MAX_AMOUNT : ∃ t, mg "MAX_AMOUNT" = some (.int 1000000 t)
  c_MAX_PART : ∃ t, mg "MAX_PART" = some (.int 1000 t)
  c_MAX_STEPS : ∃ t, mg "MAX_STEPS" = some (.int 12 t)



/-! ### the law's own defs that touch the state -/
abbrev s_law_start : Stmt := topS 37
abbrev N_law_start : List Str := ["script", "seed", "cell"]
theorem sc_law_start : FnScope N_law_start ["script"] (defScope s_law_start) := ⟨rfl, rfl, rfl, by decide +kernel, rfl, by decide +kernel, by decide +kernel⟩
def R_law_start : List PyData → List PyData → Prop := fun ds es => ∃ script : List Int, ds = [eL .int script] ∧ script.length ≤ 100000 ∧ es = [.list (script.map .int), .int 0, .int 0, .int (seedOf script : Nat)]
theorem ok_law_start {P : Program} {w : World} {K : PySem.W.Frag} {mg : Str → Option Value} {base : Heap} (B : Gb mg) (F : Fd K mg "_law_start" s_law_start) : Cl P w K mg base 1 "_law_start" ["script"] (SpL K R_law_start) := by
  obtain ⟨f, fd, F, hm⟩ := F.ex
  refine ⟨f, fd, fnG_of (k := 0) F sc_law_start (spL_len fun ds d h => ?_) (fun cdv A outer s H hr hgd => ⟨_, (pss_cons (ps_set (i := 1) sc_law_start.nd rfl (Or.inl rfl) pe_int)
    (pss_cons (ps_for PassesOwn.never rfl (pi_list (pv 0)) (pg_name (i := 2) sc_law_start.nd rfl (Or.inl rfl)) (pss_one (ps_set (i := 1) sc_law_start.nd rfl (Or.inl rfl) (pe_op op_add (pe_op op_mod (pe_callTy call_int1 (by rfl) B.int_ PyProof.Rows.boot_int (pa_cons (pe_op op_add (pe_op op_mulG (pv 1) pe_int) (pv 2)) pa_nil)) pe_int) pe_int))))
    (pss_one (ps_ret (pe_lst (pa_cons (pe_callTy call_list_of (by rfl) B.list_ PyProof.Rows.boot_list (pa_cons (pv 0) pa_nil)) (pa_cons pe_int (pa_cons pe_int (pa_cons (pv 1) pa_nil))))))))), fun vs Q => fn_new (N := N_law_start) (fun ds d h => ?_) (fun B S ds d h D hR => ?_) vs H Q E0⟩), hm, F.kp, F.binds fun _ _ _ _ _ _ us hl => match us, hl with | [_], _ => rfl⟩
  · obtain ⟨script, rfl, h0, h1⟩ := h; rfl
  · obtain ⟨script, rfl, h0, h1⟩ := h; simp
  · obtain ⟨script, rfl, h0, h1⟩ := h
    subst h1
    show Ss _ _ [.da (eL .int script), .no, .no] _ _
    refine s_seq (s_asg ed_int (s_le (ρ1 := [.da (eL .int script), .da (.int ((seedOf [] : Nat) : Int)), .no]) (le_rfl rfl) ?_))
    refine s_seq (s_forX script (fun x => Itm.hard (PyData.int x)) (ei_listX (ed_var rfl)) (fun i => [.da (eL .int script), .da (.int ((seedOf (script.take i) : Nat) : Int)), .no]) (le_same (le_same (le_no le_nil))) (fun T' hT i x hx => ⟨_, [2], eg_name (by decide), ?_⟩) ?_)
    · show Ss _ _ [.da (eL .int script), .da (.int ((seedOf (script.take i) : Nat) : Int)), .da (.int x)] _ _
      refine s_asg (ed_I0 (ed_I (ed_intI (ed_I0 (ed_I (ed_var rfl) ed_int (mul_r (by omega) (by omega))) (ed_var rfl))) ed_int (by omega)) ed_int) (s_end (ρ1 := [.da (eL .int script), .da (.int ((seedOf (script.take (i + 1)) : Nat) : Int)), .no]) (le_same (le_da (congrArg PyData.int (seedOf_step hx).2) (le_no le_nil))))
    · refine s_retL (el_is (el_lst (ds := [eL .int script, .int 0, .int 0, .int ((seedOf (script.take script.length) : Nat) : Int)]) (ea_cons (ed_L (el_listOf (.inl (ed_var rfl)))) (ea_cons ed_int (ea_cons ed_int (ea_cons (ed_var rfl) ea_nil))))) (by rw [List.take_length])) hR
abbrev s_law_draw : Stmt := topS 38
abbrev N_law_draw : List Str := ["state", "many", "value"]
theorem sc_law_draw : FnScope N_law_draw ["state", "many"] (defScope s_law_draw) := ⟨rfl, rfl, rfl, by decide +kernel, rfl, by decide +kernel, by decide +kernel⟩
theorem ok_law_draw {P : Program} {w : World} {K : PySem.W.Frag} {mg : Str → Option Value} {base : Heap} (B : Gb mg) (F : Fd K mg "_law_draw" s_law_draw) : Cl P w K mg base 1 "_law_draw" ["state", "many"] (SpW K R_draw) := by
  obtain ⟨f, fd, F, hm⟩ := F.ex
  refine ⟨f, fd, fnG_of (k := 0) F sc_law_draw (spW_len fun ds d h => ?_) (fun cdv A outer s H hr hgd => ⟨_, (pss_cons (ps_if (PW.pt (pw_and (pt_cmpR (op_eqD hr.units) (pe_ix ix_list (pv 0) pe_int (fun _ _ => rfl)) pe_int (nomark _)) (pw_and1 (pt_cmpR op_ge (pe_ix ix_list (pv 0) pe_int (fun _ _ => rfl)) (pe_callB call_len_seq (by rfl) B.len_ PySem.boot_len (pa_cons (pe_ix ix_list (pv 0) pe_int (fun _ _ => rfl)) pa_nil)) (nomark _)))))
      (pss_cons (ps_asg (pe_op op_mod (pe_callTy call_int1 (by rfl) B.int_ PyProof.Rows.boot_int (pa_cons (pe_op op_add (pe_op op_mulG (pe_ix ix_list (pv 0) pe_int (fun _ _ => rfl)) pe_int) pe_int) pa_nil)) pe_int) (pg_sub (pv 0) pe_int set_list (fun _ => rfl)) rfl)
        (pss_one (ps_ret (pe_op op_mod (pe_callTy call_int1 (by rfl) B.int_ PyProof.Rows.boot_int (pa_cons (pe_op op_fdivG (pe_ix ix_list (pv 0) pe_int (fun _ _ => rfl)) pe_int) pa_nil)) (pv 1))))) pss_nil)
    (pss_cons (ps_if (pt_cmpR (op_eqD hr.units) (pe_ix ix_list (pv 0) pe_int (fun _ _ => rfl)) pe_int (nomark _))
      (pss_cons (ps_asg (pe_callB call_abs (by rfl) B.abs_ PyProof.Rows.boot_abs (pa_cons (pe_ix ix_list (pe_ix ix_list (pv 0) pe_int (fun _ _ => rfl)) (pe_ix ix_list (pv 0) pe_int (fun _ _ => rfl)) (fun _ _ => rfl)) pa_nil)) (pg_sub (pv 0) pe_int set_list (fun _ => rfl)) rfl)
        (pss_one (ps_asg (pe_op op_add (pe_ix ix_list (pv 0) pe_int (fun _ _ => rfl)) pe_int) (pg_sub (pv 0) pe_int set_list (fun _ => rfl)) rfl))) pss_nil)
    (pss_cons (ps_set (i := 2) sc_law_draw.nd rfl (Or.inl rfl) (pe_op op_mod (pe_callTy call_int1 (by rfl) B.int_ PyProof.Rows.boot_int (pa_cons (pe_ix ix_list (pv 0) pe_int (fun _ _ => rfl)) pa_nil)) (pv 1)))
    (pss_cons (ps_asg (pe_op op_fdivG (pe_ix ix_list (pv 0) pe_int (fun _ _ => rfl)) (pv 1)) (pg_sub (pv 0) pe_int set_list (fun _ => rfl)) rfl)
    (pss_one (ps_ret (pv 2))))))), fun vs Q => fn_draws (N := N_law_draw) (fun ds d h => ?_) (fun B S a ds Φ h D hR => ?_) vs H Q E0⟩), hm, F.kp, F.binds fun _ _ _ _ _ _ us hl => match us, hl with | [_, _], _ => rfl⟩
  · obtain ⟨many, rfl, h0, h1, h2⟩ := h; rfl
  · obtain ⟨many, rfl, h0, h1, h2⟩ := h; simp
  · obtain ⟨many, rfl, h0, h1, hΦ⟩ := h
    show Ss _ _ [.mu false a (.any StOk), .da (.int many), .no] _ _
    refine s_open (i := 0) rfl (fun ds hds => ?_)
    obtain ⟨l, cur, pos, seed, rfl⟩ := hds
    have fin : ∀ (l : List Int) (cur pos seed : Nat) (y : Int) (z : Sl), 0 ≤ y ∧ y < many → ∀ {te : TE} {T : Tm} {ρ : List Sl}, Ed ⟨K, B, [a], S⟩ ρ te (.int y) [.mu false a (.lst [.list (l.map .int), .int (cur : Int), .int (pos : Int), .int (seed : Int)]), .da (.int many), z] → Ss ⟨K, B, [a], S⟩ T ρ (tRet te) D := fun l cur pos seed y z hy te T ρ h σ H W =>
      h T σ H W _ fun v H1 W1 => by
        have W2 := W1.le (le_any (P := StOk) ⟨l, cur, pos, seed, rfl⟩ (le_same (le_same le_nil)))
        exact hR _ (hΦ y hy) v H1 W2.keep (fun p hp => by
          simp only [List.mem_singleton] at hp
          subst hp
          exact (W2.ok 0 _ rfl).2.2.mono hide_S0 rfl) (dpm hide_S0 W2.dp)
    have md : ∀ x : Int, 0 ≤ x % many ∧ x % many < many := fun x => ⟨Int.emod_nonneg _ (by omega), Int.emod_lt_of_pos _ h0⟩
    show Ss _ _ [.mu false a (.lst [.list (l.map .int), .int (cur : Int), .int (pos : Int), .int (seed : Int)]), .da (.int many), .no] _ _
    refine s_seq (s_if (b := decide ((cur : Int) = 0) && decide ((l.length : Int) ≤ (pos : Int))) (et_and (et_test (ed_eqI (ed_ixM ed_int rfl ⟨_, _, rfl⟩ rfl) ed_int)) (fun _ => et_test (ed_B0 (ed_ixM ed_int rfl ⟨_, _, rfl⟩ rfl) (ed_lenLX (ed_ixM ed_int rfl ⟨_, _, rfl⟩ rfl))))) (fun hc => ?_) (fun hc => ?_))
    · refine s_seq (s_setL (i := 0) (n := 3) (ed_I (ed_intI (ed_I0 (ed_I (ed_ixM ed_int rfl ⟨_, _, rfl⟩ rfl) ed_int (mul_r (by omega) (by omega))) ed_int)) ed_int (by omega)) ed_int ⟨_, _, rfl⟩ rfl rfl (s_le (ρ1 := [.mu false a (.lst [.list (l.map .int), .int (cur : Int), .int (pos : Int), .int ((((seed * 48271 + 69621) % 2147483629 : Nat)) : Int)]), .da (.int many), .no]) (le_rfl rfl) ?_))
      exact fin l cur pos ((seed * 48271 + 69621) % 2147483629) (((((seed * 48271 + 69621) % 2147483629 : Nat)) : Int) / 13 % many) .no (md _) (ed_I (ed_intI (ed_I (ed_ixM ed_int rfl ⟨_, _, rfl⟩ rfl) ed_int (div_small (by omega) (by omega)))) (ed_var rfl) h0)
    refine s_seq ?_
    refine s_next ?_
    have rest : ∀ (T : Tm) (cur pos : Nat), Sk ⟨K, B, [a], S⟩ T [.mu false a (.lst [.list (l.map .int), .int (cur : Int), .int (pos : Int), .int (seed : Int)]), .da (.int many), .no] (tSeq (tAsg (tOp (rI (fun _ j => 0 < j) fun i j => .int (i % j)) (tCB (fun xs H Q => (∃ i, xs = [.int i] ∧ Q (.int i) H) ∨ ∃ k, xs = [.bl k] ∧ Q (.int (if k then 1 else 0)) H) (tCons (tOp (rIxL K) (tVar 0) (tC (.int 1))) tNil)) (tVar 1)) (gName 2)) (tSeq (tAsg (tOp (rI CDivG fun i j => .int (i / j)) (tOp (rIxL K) (tVar 0) (tC (.int 1))) (tVar 1)) (gSub (tVar 0) (tC (.int 1)) rSetL)) (tRet (tVar 2))) D) := fun T cur pos => by
      refine s_seq (s_asg (ed_I (ed_intI (ed_ixM ed_int rfl ⟨_, _, rfl⟩ rfl)) (ed_var rfl) h0) (s_le (ρ1 := [.mu false a (.lst [.list (l.map .int), .int (cur : Int), .int (pos : Int), .int (seed : Int)]), .da (.int many), .da (.int ((cur : Int) % many))]) (le_rfl rfl) ?_))
      refine s_seq (s_setL (i := 0) (n := 1) (ed_I (ed_ixM ed_int rfl ⟨_, _, rfl⟩ rfl) (ed_var rfl) (div_small h0 (by omega))) ed_int ⟨_, _, rfl⟩ rfl rfl (s_le (ρ1 := [.mu false a (.lst [.list (l.map .int), .int ((cur / many.toNat : Nat) : Int), .int (pos : Int), .int (seed : Int)]), .da (.int many), .da (.int ((cur : Int) % many))]) (le_rfl ?_) ?_))
      · have e : ((cur / many.toNat : Nat) : Int) = (cur : Int) / many := by rw [Int.natCast_ediv, Int.toNat_of_nonneg (by omega)]
        rw [e]; rfl
      exact fin l _ pos seed _ _ (md _) (ed_var rfl)
    refine s_seq (s_if (b := decide ((cur : Int) = 0)) (et_test (ed_eqI (ed_ixM ed_int rfl ⟨_, _, rfl⟩ rfl) ed_int)) (fun hc2 => ?_) (fun hc2 => ?_))
    · have hp : pos < l.length := by simp only [hc2, Bool.true_and] at hc; have := of_decide_eq_false hc; omega
      refine s_seq (s_setL (i := 0) (n := 1) (ed_abs (ed_ixL (ed_ixM ed_int rfl ⟨_, _, rfl⟩ rfl) (ed_ixM ed_int rfl ⟨_, _, rfl⟩ rfl) (d := .int l[pos]) (by rw [atI_nat (v := PyData.int l[pos]) (by simp [hp])]))) ed_int ⟨_, _, rfl⟩ rfl rfl (s_le (ρ1 := [.mu false a (.lst [.list (l.map .int), .int (l[pos].natAbs : Int), .int (pos : Int), .int (seed : Int)]), .da (.int many), .no]) (le_rfl rfl) ?_))
      refine s_setL (i := 0) (n := 2) (ed_I0 (ed_ixM ed_int rfl ⟨_, _, rfl⟩ rfl) ed_int) ed_int ⟨_, _, rfl⟩ rfl rfl (s_le (ρ1 := [.mu false a (.lst [.list (l.map .int), .int (l[pos].natAbs : Int), .int ((pos + 1 : Nat) : Int), .int (seed : Int)]), .da (.int many), .no]) (le_rfl rfl) ?_)
      exact rest _ _ _
    · refine s_next ?_
      exact rest _ _ _
abbrev s_law_pick : Stmt := topS 39
abbrev N_law_pick : List Str := ["state", "some"]
theorem sc_law_pick : FnScope N_law_pick ["state", "some"] (defScope s_law_pick) := ⟨rfl, rfl, rfl, by decide +kernel, rfl, by decide +kernel, by decide +kernel⟩
theorem ok_law_pick {P : Program} {w : World} {K : PySem.W.Frag} {mg : Str → Option Value} {base : Heap} (B : Gb mg) (F : Fd K mg "_law_pick" s_law_pick) (C_law_draw : Cl P w K mg base 1 "_law_draw" ["state", "many"] (SpW K R_draw)) : Cl P w K mg base 2 "_law_pick" ["state", "some"] (SpW K R_pick) := by
  obtain ⟨f, fd, F, hm⟩ := F.ex
  refine ⟨f, fd, fnG_of (k := 1) F sc_law_pick (spW_len fun ds d h => ?_) (fun cdv A outer s H hr hgd => ⟨_, (pss_one (ps_ret (pe_ix ix_any (pv 1) (pe_cl C_law_draw (hr.mono (by decide)) hgd (by rfl) (pa_cons (pv 0) (pa_cons (pe_callB call_len_seq (by rfl) B.len_ PySem.boot_len (pa_cons (pv 1) pa_nil)) pa_nil))) (fun _ _ => rfl)))), fun vs Q => fn_draws (N := N_law_pick) (fun ds d h => ?_) (fun B S a ds Φ h D hR => ?_) vs H Q E0⟩), hm, F.kp, F.binds fun _ _ _ _ _ _ us hl => match us, hl with | [_, _], _ => rfl⟩
  · obtain ⟨l, rfl | rfl, _⟩ := h <;> rfl
  · obtain ⟨l, rfl | rfl, _⟩ := h <;> simp
  · obtain ⟨l, hl, h0, h1, hΦ⟩ := h
    rcases hl with rfl | rfl
    · show Ss _ _ [.mu false a (.any StOk), .da (.list l)] _ _
      refine s_retW (i := 0) (ρ1 := [.mu false a (.any StOk), .da (.list l)]) (P := fun d => d ∈ l) (f := fun d => d) (ew_ixAny (ds := l) (.inl rfl) (ed_var rfl) (ew_draw (ew_det (f := PyData.int) (x := (l.length : Int)) (ed_lenL (ed_var rfl))) rfl rfl (by rintro _ rfl; omega)) (by rintro x ⟨m, rfl, hx⟩; exact hx)) rfl hR hΦ
    · show Ss _ _ [.mu false a (.any StOk), .da (.tuple l)] _ _
      refine s_retW (i := 0) (ρ1 := [.mu false a (.any StOk), .da (.tuple l)]) (P := fun d => d ∈ l) (f := fun d => d) (ew_ixAny (ds := l) (.inr rfl) (ed_var rfl) (ew_draw (ew_det (f := PyData.int) (x := (l.length : Int)) (ed_lenT (ed_var rfl))) rfl rfl (by rintro _ rfl; omega)) (by rintro x ⟨m, rfl, hx⟩; exact hx)) rfl hR hΦ


/-! ### is_integer -/
abbrev s_is_integer : Stmt := topS 5
abbrev N_is_integer : List Str := ["value"]
theorem sc_is_integer : FnScope N_is_integer ["value"] (defScope s_is_integer) := ⟨rfl, rfl, rfl, by decide +kernel, rfl, by decide +kernel, by decide +kernel⟩
def R_is_integer : List PyData → PyData → Prop := fun ds d => ∃ (value : PyData), ds = [value] ∧ d = (PyData.bool (isIntD value))
set_option maxHeartbeats 4000000 in
theorem ok_is_integer {P : Program} {w : World} {K : PySem.W.Frag} {mg : Str → Option Value} {base : Heap} (B : Gb mg) (F : Fd K mg "is_integer" s_is_integer) : Cl P w K mg base 1 "is_integer" ["value"] (SpP K R_is_integer) := by
  obtain ⟨f, fd, F, hm⟩ := F.ex
  refine ⟨f, fd, fnG_of (k := 0) F sc_is_integer (spP_len fun ds d h => ?_) (fun cdv A outer s H hr hgd => ⟨_, (pss_one (ps_ret (pe_and (pe_callB (r := rIsi K) call_isi (by rfl) B.isinstance_ boot_isinstance (pa_cons (pv 0) (pa_cons (pe_bltn (v := .ty "int") (u := .type "int") (by rfl) B.int_ PyProof.Rows.boot_int rfl) pa_nil))) (pe_one (pe_not (pe_callB (r := rIsi K) call_isi (by rfl) B.isinstance_ boot_isinstance (pa_cons (pv 0) (pa_cons (pe_bltn (v := .ty "bool") (u := .type "bool") (by rfl) B.bool_ (by decide +kernel) rfl) pa_nil)))))))), fun vs Q => fn_pure (N := N_is_integer) (fun ds d h => ?_) (fun B S ds d h D hR hN => ?_) vs H Q E0⟩), hm, F.kp, F.binds fun _ _ _ _ _ _ us hl => match us, hl with | [_], _ => rfl⟩
  · obtain ⟨value, rfl, rfl⟩ := h; rfl
  · obtain ⟨value, rfl, rfl⟩ := h; simp
  · obtain ⟨value, rfl, rfl⟩ := h
    show Ss _ _ [.da value] _ _
    exact s_ret (ed_is (ed_and (ed_isiD (ed_var rfl) (by exact kit_int _)) (fun hb1 => (ed_not (ed_isiD (ed_var rfl) (by exact kit_bool _))))) (by rfl : (PyData.bool ((isi_int value) && (!(isi_bool value)))) = (PyData.bool (isIntD value)))) hR

/-! ### greatest_divisor -/
abbrev s_greatest_divisor : Stmt := topS 10
abbrev N_greatest_divisor : List Str := ["first", "second"]
theorem sc_greatest_divisor : FnScope N_greatest_divisor ["first", "second"] (defScope s_greatest_divisor) := ⟨rfl, rfl, rfl, by decide +kernel, rfl, by decide +kernel, by decide +kernel⟩
def R_greatest_divisor : List PyData → PyData → Prop := fun ds d => ∃ (first : Nat) (second : Nat), ds = [(eN first), (eN second)] ∧ d = (eN (Nat.gcd first second))
set_option maxHeartbeats 4000000 in
theorem ok_greatest_divisor {P : Program} {w : World} {K : PySem.W.Frag} {mg : Str → Option Value} {base : Heap} (B : Gb mg) (F : Fd K mg "greatest_divisor" s_greatest_divisor) : Cl P w K mg base 1 "greatest_divisor" ["first", "second"] (SpP K R_greatest_divisor) := by
  obtain ⟨f, fd, F, hm⟩ := F.ex
  refine ⟨f, fd, fnG_of (k := 0) F sc_greatest_divisor (spP_len fun ds d h => ?_) (fun cdv A outer s H hr hgd => ⟨_, (pss_cons (ps_while PassesOwn.never (pt_cmpR op_gt (pv 1) pe_int (nomark _)) (pss_one (ps_par (i := 0) (j := 1) rfl sc_greatest_divisor.nd rfl rfl (by decide) rfl rfl (pa_cons (pv 1) (pa_cons (pe_op op_mod (pv 0) (pv 1)) pa_nil)) rfl rfl))) (pss_one (ps_ret (pv 0)))), fun vs Q => fn_pure (N := N_greatest_divisor) (fun ds d h => ?_) (fun B S ds d h D hR hN => ?_) vs H Q E0⟩), hm, F.kp, F.binds fun _ _ _ _ _ _ us hl => match us, hl with | [_, _], _ => rfl⟩
  · obtain ⟨first, second, rfl, rfl⟩ := h; rfl
  · obtain ⟨first, second, rfl, rfl⟩ := h; simp
  · obtain ⟨first, second, rfl, rfl⟩ := h
    show Ss _ _ [.da (PyData.int (first : Int)), .da (PyData.int (second : Int))] _ _
    refine s_seq (s_while (α := Nat × Nat) (fun a => [.da (PyData.int (a.1 : Int)), .da (PyData.int (a.2 : Int))]) (fun a => Nat.gcd a.1 a.2 = Nat.gcd first second) (fun a => a.2) ((first, second)) (by rfl) (le_da (by rfl) (le_da (by rfl) le_nil)) (fun a hP => ⟨_, _, (et_test (ed_B0 (ed_var rfl) ed_int)), fun hb => ?_, fun hb => ?_⟩))
    · refine (s_par (ea_cons (ed_var rfl) (ea_cons (ed_I (ed_var rfl) (ed_var rfl) (by have := of_decide_eq_true hb; omega)) ea_nil)) (s_le (ρ1 := [.da (PyData.int (a.2 : Int)), .da (PyData.int ((a.1 : Int) % (a.2 : Int)))]) (le_rfl rfl) ?_))
      exact s_endW ((a.2, a.1 % a.2)) (by exact (gcd_turn a.1 a.2).trans hP) (by have := of_decide_eq_true hb; exact Nat.mod_lt _ (by omega)) (le_da (by rfl) (le_da (by rfl) le_nil))
    · exact s_ret (ed_is (ed_var rfl) (by exact gcd_end hP hb : (PyData.int (a.1 : Int)) = (eN (Nat.gcd first second)))) hR

/-! ### quotient -/
abbrev s_quotient : Stmt := topS 11
abbrev N_quotient : List Str := ["up", "down", "divisor"]
theorem sc_quotient : FnScope N_quotient ["up", "down"] (defScope s_quotient) := ⟨rfl, rfl, rfl, by decide +kernel, rfl, by decide +kernel, by decide +kernel⟩
def R_quotient : List PyData → PyData → Prop := fun ds d => ∃ (up : Int) (down : Int), ds = [(PyData.int up), (PyData.int down)] ∧ (down ≠ 0) ∧ (down.natAbs < 2 ^ 8999) ∧ d = (eQ (Rat.divInt up down))
set_option maxHeartbeats 4000000 in
theorem ok_quotient {P : Program} {w : World} {K : PySem.W.Frag} {mg : Str → Option Value} {base : Heap} (B : Gb mg) (F : Fd K mg "quotient" s_quotient) (C_greatest_divisor : Cl P w K mg base 1 "greatest_divisor" ["first", "second"] (SpP K R_greatest_divisor)) : Cl P w K mg base 2 "quotient" ["up", "down"] (SpP K R_quotient) := by
  obtain ⟨f, fd, F, hm⟩ := F.ex
  refine ⟨f, fd, fnG_of (k := 1) F sc_quotient (spP_len fun ds d h => ?_) (fun cdv A outer s H hr hgd => ⟨_, (pss_cons (ps_if (pt_cmpR op_lt (pv 1) pe_int (nomark _)) (pss_one (ps_par (i := 0) (j := 1) rfl sc_quotient.nd rfl rfl (by decide) rfl rfl (pa_cons (pe_un un_neg (pv 0)) (pa_cons (pe_un un_neg (pv 1)) pa_nil)) rfl rfl)) pss_nil) (pss_cons (ps_set (i := 2) sc_quotient.nd rfl (Or.inl rfl) (pe_cl C_greatest_divisor (hr.mono (by decide)) hgd (by rfl) (pa_cons (pe_callB call_abs (by rfl) B.abs_ PyProof.Rows.boot_abs (pa_cons (pv 0) pa_nil)) (pa_cons (pv 1) pa_nil)))) (pss_one (ps_ret (pe_tupF (pa_cons (pe_op op_fdivG (pv 0) (pv 2)) (pa_cons (pe_op op_fdivG (pv 1) (pv 2)) pa_nil))))))), fun vs Q => fn_pure (N := N_quotient) (fun ds d h => ?_) (fun B S ds d h D hR hN => ?_) vs H Q E0⟩), hm, F.kp, F.binds fun _ _ _ _ _ _ us hl => match us, hl with | [_, _], _ => rfl⟩
  · obtain ⟨up, down, rfl, h0, h1, rfl⟩ := h; rfl
  · obtain ⟨up, down, rfl, h0, h1, rfl⟩ := h; simp
  · obtain ⟨up, down, rfl, h0, h1, rfl⟩ := h
    show Ss _ _ [.da (PyData.int up), .da (PyData.int down), .no] _ _
    refine s_seq (s_if (b := (decide (down < (0 : Int)))) (et_test (ed_B0 (ed_var rfl) ed_int)) (fun hc0 => ?_) (fun hc0 => ?_))
    · refine (s_par (ea_cons (ed_neg (ed_var rfl)) (ea_cons (ed_neg (ed_var rfl)) ea_nil)) (s_le (ρ1 := [.da (PyData.int (-up)), .da (PyData.int (-down)), .no]) (le_rfl rfl) ?_))
      refine s_seq (s_asg (ed_call (ds := [(eN ((-up)).natAbs), (eN ((-down)).natAbs)]) (ea_cons (ed_abs (ed_var rfl)) (ea_cons (ed_is (ed_var rfl) (by exact eN_abs (by first | (have := of_decide_eq_true hc0; omega) | (have := of_decide_eq_false hc0; omega)) : _ = (eN ((-down)).natAbs))) ea_nil)) ⟨((-up)).natAbs, ((-down)).natAbs, rfl, rfl⟩) (s_le (ρ1 := [.da (PyData.int (-up)), .da (PyData.int (-down)), .da (PyData.int (((Nat.gcd (((-up)).natAbs) (((-down)).natAbs)) : Nat) : Int))]) (le_rfl rfl) ?_))
      exact s_ret (ed_is (ed_tup (ds := [(PyData.int ((-up) / (((Nat.gcd (((-up)).natAbs) (((-down)).natAbs)) : Nat) : Int))), (PyData.int ((-down) / (((Nat.gcd (((-up)).natAbs) (((-down)).natAbs)) : Nat) : Int)))]) (ea_cons (ed_I (ed_var rfl) (ed_var rfl) (by first | exact quo_div h0 h1 | exact quo_div (by omega) (by rw [Int.natAbs_neg]; exact h1))) (ea_cons (ed_I (ed_var rfl) (ed_var rfl) (by first | exact quo_div h0 h1 | exact quo_div (by omega) (by rw [Int.natAbs_neg]; exact h1))) ea_nil))) (by exact quo_neg hc0 : ((eP PyData.int PyData.int) (((-up) / (((Nat.gcd (((-up)).natAbs) (((-down)).natAbs)) : Nat) : Int)), ((-down) / (((Nat.gcd (((-up)).natAbs) (((-down)).natAbs)) : Nat) : Int)))) = (eQ (Rat.divInt up down)))) hR
    · refine s_next ?_
      refine s_seq (s_asg (ed_call (ds := [(eN (up).natAbs), (eN (down).natAbs)]) (ea_cons (ed_abs (ed_var rfl)) (ea_cons (ed_is (ed_var rfl) (by exact eN_abs (by first | (have := of_decide_eq_true hc0; omega) | (have := of_decide_eq_false hc0; omega)) : _ = (eN (down).natAbs))) ea_nil)) ⟨(up).natAbs, (down).natAbs, rfl, rfl⟩) (s_le (ρ1 := [.da (PyData.int up), .da (PyData.int down), .da (PyData.int (((Nat.gcd ((up).natAbs) ((down).natAbs)) : Nat) : Int))]) (le_rfl rfl) ?_))
      exact s_ret (ed_is (ed_tup (ds := [(PyData.int (up / (((Nat.gcd ((up).natAbs) ((down).natAbs)) : Nat) : Int))), (PyData.int (down / (((Nat.gcd ((up).natAbs) ((down).natAbs)) : Nat) : Int)))]) (ea_cons (ed_I (ed_var rfl) (ed_var rfl) (by first | exact quo_div h0 h1 | exact quo_div (by omega) (by rw [Int.natAbs_neg]; exact h1))) (ea_cons (ed_I (ed_var rfl) (ed_var rfl) (by first | exact quo_div h0 h1 | exact quo_div (by omega) (by rw [Int.natAbs_neg]; exact h1))) ea_nil))) (by exact quo_pos h0 hc0 : ((eP PyData.int PyData.int) ((up / (((Nat.gcd ((up).natAbs) ((down).natAbs)) : Nat) : Int)), (down / (((Nat.gcd ((up).natAbs) ((down).natAbs)) : Nat) : Int)))) = (eQ (Rat.divInt up down)))) hR

/-! ### plus -/
abbrev s_plus : Stmt := topS 12
abbrev N_plus : List Str := ["first", "second"]
theorem sc_plus : FnScope N_plus ["first", "second"] (defScope s_plus) := ⟨rfl, rfl, rfl, by decide +kernel, rfl, by decide +kernel, by decide +kernel⟩
def R_plus : List PyData → PyData → Prop := fun ds d => ∃ (first : Rat) (second : Rat), ds = [(eQ first), (eQ second)] ∧ (Qb first) ∧ (Qb second) ∧ d = (eQ (first + second))
set_option maxHeartbeats 4000000 in
theorem ok_plus {P : Program} {w : World} {K : PySem.W.Frag} {mg : Str → Option Value} {base : Heap} (B : Gb mg) (F : Fd K mg "plus" s_plus) (C_quotient : Cl P w K mg base 2 "quotient" ["up", "down"] (SpP K R_quotient)) : Cl P w K mg base 3 "plus" ["first", "second"] (SpP K R_plus) := by
  obtain ⟨f, fd, F, hm⟩ := F.ex
  refine ⟨f, fd, fnG_of (k := 2) F sc_plus (spP_len fun ds d h => ?_) (fun cdv A outer s H hr hgd => ⟨_, (pss_one (ps_ret (pe_cl C_quotient (hr.mono (by decide)) hgd (by rfl) (pa_cons (pe_op op_add (pe_op op_mulG (pe_ix (r := rIxT K) ix_tup (pv 0) pe_int (fun _ _ => rfl)) (pe_ix (r := rIxT K) ix_tup (pv 1) pe_int (fun _ _ => rfl))) (pe_op op_mulG (pe_ix (r := rIxT K) ix_tup (pv 1) pe_int (fun _ _ => rfl)) (pe_ix (r := rIxT K) ix_tup (pv 0) pe_int (fun _ _ => rfl)))) (pa_cons (pe_op op_mulG (pe_ix (r := rIxT K) ix_tup (pv 0) pe_int (fun _ _ => rfl)) (pe_ix (r := rIxT K) ix_tup (pv 1) pe_int (fun _ _ => rfl))) pa_nil))))), fun vs Q => fn_pure (N := N_plus) (fun ds d h => ?_) (fun B S ds d h D hR hN => ?_) vs H Q E0⟩), hm, F.kp, F.binds fun _ _ _ _ _ _ us hl => match us, hl with | [_, _], _ => rfl⟩
  · obtain ⟨first, second, rfl, h0, h1, rfl⟩ := h; rfl
  · obtain ⟨first, second, rfl, h0, h1, rfl⟩ := h; simp
  · obtain ⟨first, second, rfl, h0, h1, rfl⟩ := h
    show Ss _ _ [.da (eQ first), .da (eQ second)] _ _
    exact s_ret (ed_is (ed_call (ds := [(PyData.int (((first).num * ((second).den : Int)) + ((second).num * ((first).den : Int)))), (PyData.int (((first).den : Int) * ((second).den : Int)))]) (ea_cons (ed_I0 (ed_I (ed_ixT (ed_var rfl) ed_int rfl) (ed_ixT (ed_var rfl) ed_int rfl) (by first | exact mul_nd h0 h1 | exact mul_nd h1 h0 | exact mul_dd h0 h1)) (ed_I (ed_ixT (ed_var rfl) ed_int rfl) (ed_ixT (ed_var rfl) ed_int rfl) (by first | exact mul_nd h0 h1 | exact mul_nd h1 h0 | exact mul_dd h0 h1))) (ea_cons (ed_I (ed_ixT (ed_var rfl) ed_int rfl) (ed_ixT (ed_var rfl) ed_int rfl) (by first | exact mul_nd h0 h1 | exact mul_nd h1 h0 | exact mul_dd h0 h1)) ea_nil)) ⟨(((first).num * ((second).den : Int)) + ((second).num * ((first).den : Int))), (((first).den : Int) * ((second).den : Int)), rfl, by exact den_nz2 first second, by exact den_lt2 h0 h1, rfl⟩) (by rw [q_add] : (eQ (Rat.divInt ((((first).num * ((second).den : Int)) + ((second).num * ((first).den : Int)))) ((((first).den : Int) * ((second).den : Int))))) = (eQ (first + second)))) hR

/-! ### minus -/
abbrev s_minus : Stmt := topS 13
abbrev N_minus : List Str := ["first", "second"]
theorem sc_minus : FnScope N_minus ["first", "second"] (defScope s_minus) := ⟨rfl, rfl, rfl, by decide +kernel, rfl, by decide +kernel, by decide +kernel⟩
def R_minus : List PyData → PyData → Prop := fun ds d => ∃ (first : Rat) (second : Rat), ds = [(eQ first), (eQ second)] ∧ (Qb first) ∧ (Qb second) ∧ d = (eQ (first - second))
set_option maxHeartbeats 4000000 in
theorem ok_minus {P : Program} {w : World} {K : PySem.W.Frag} {mg : Str → Option Value} {base : Heap} (B : Gb mg) (F : Fd K mg "minus" s_minus) (C_quotient : Cl P w K mg base 2 "quotient" ["up", "down"] (SpP K R_quotient)) : Cl P w K mg base 3 "minus" ["first", "second"] (SpP K R_minus) := by
  obtain ⟨f, fd, F, hm⟩ := F.ex
  refine ⟨f, fd, fnG_of (k := 2) F sc_minus (spP_len fun ds d h => ?_) (fun cdv A outer s H hr hgd => ⟨_, (pss_one (ps_ret (pe_cl C_quotient (hr.mono (by decide)) hgd (by rfl) (pa_cons (pe_op op_sub (pe_op op_mulG (pe_ix (r := rIxT K) ix_tup (pv 0) pe_int (fun _ _ => rfl)) (pe_ix (r := rIxT K) ix_tup (pv 1) pe_int (fun _ _ => rfl))) (pe_op op_mulG (pe_ix (r := rIxT K) ix_tup (pv 1) pe_int (fun _ _ => rfl)) (pe_ix (r := rIxT K) ix_tup (pv 0) pe_int (fun _ _ => rfl)))) (pa_cons (pe_op op_mulG (pe_ix (r := rIxT K) ix_tup (pv 0) pe_int (fun _ _ => rfl)) (pe_ix (r := rIxT K) ix_tup (pv 1) pe_int (fun _ _ => rfl))) pa_nil))))), fun vs Q => fn_pure (N := N_minus) (fun ds d h => ?_) (fun B S ds d h D hR hN => ?_) vs H Q E0⟩), hm, F.kp, F.binds fun _ _ _ _ _ _ us hl => match us, hl with | [_, _], _ => rfl⟩
  · obtain ⟨first, second, rfl, h0, h1, rfl⟩ := h; rfl
  · obtain ⟨first, second, rfl, h0, h1, rfl⟩ := h; simp
  · obtain ⟨first, second, rfl, h0, h1, rfl⟩ := h
    show Ss _ _ [.da (eQ first), .da (eQ second)] _ _
    exact s_ret (ed_is (ed_call (ds := [(PyData.int (((first).num * ((second).den : Int)) - ((second).num * ((first).den : Int)))), (PyData.int (((first).den : Int) * ((second).den : Int)))]) (ea_cons (ed_I0 (ed_I (ed_ixT (ed_var rfl) ed_int rfl) (ed_ixT (ed_var rfl) ed_int rfl) (by first | exact mul_nd h0 h1 | exact mul_nd h1 h0 | exact mul_dd h0 h1)) (ed_I (ed_ixT (ed_var rfl) ed_int rfl) (ed_ixT (ed_var rfl) ed_int rfl) (by first | exact mul_nd h0 h1 | exact mul_nd h1 h0 | exact mul_dd h0 h1))) (ea_cons (ed_I (ed_ixT (ed_var rfl) ed_int rfl) (ed_ixT (ed_var rfl) ed_int rfl) (by first | exact mul_nd h0 h1 | exact mul_nd h1 h0 | exact mul_dd h0 h1)) ea_nil)) ⟨(((first).num * ((second).den : Int)) - ((second).num * ((first).den : Int))), (((first).den : Int) * ((second).den : Int)), rfl, by exact den_nz2 first second, by exact den_lt2 h0 h1, rfl⟩) (by rw [q_sub] : (eQ (Rat.divInt ((((first).num * ((second).den : Int)) - ((second).num * ((first).den : Int)))) ((((first).den : Int) * ((second).den : Int))))) = (eQ (first - second)))) hR

/-! ### times -/
abbrev s_times : Stmt := topS 14
abbrev N_times : List Str := ["first", "second"]
theorem sc_times : FnScope N_times ["first", "second"] (defScope s_times) := ⟨rfl, rfl, rfl, by decide +kernel, rfl, by decide +kernel, by decide +kernel⟩
def R_times : List PyData → PyData → Prop := fun ds d => ∃ (first : Rat) (second : Rat), ds = [(eQ first), (eQ second)] ∧ (Qb first) ∧ (Qb second) ∧ d = (eQ (first * second))
set_option maxHeartbeats 4000000 in
theorem ok_times {P : Program} {w : World} {K : PySem.W.Frag} {mg : Str → Option Value} {base : Heap} (B : Gb mg) (F : Fd K mg "times" s_times) (C_quotient : Cl P w K mg base 2 "quotient" ["up", "down"] (SpP K R_quotient)) : Cl P w K mg base 3 "times" ["first", "second"] (SpP K R_times) := by
  obtain ⟨f, fd, F, hm⟩ := F.ex
  refine ⟨f, fd, fnG_of (k := 2) F sc_times (spP_len fun ds d h => ?_) (fun cdv A outer s H hr hgd => ⟨_, (pss_one (ps_ret (pe_cl C_quotient (hr.mono (by decide)) hgd (by rfl) (pa_cons (pe_op op_mulG (pe_ix (r := rIxT K) ix_tup (pv 0) pe_int (fun _ _ => rfl)) (pe_ix (r := rIxT K) ix_tup (pv 1) pe_int (fun _ _ => rfl))) (pa_cons (pe_op op_mulG (pe_ix (r := rIxT K) ix_tup (pv 0) pe_int (fun _ _ => rfl)) (pe_ix (r := rIxT K) ix_tup (pv 1) pe_int (fun _ _ => rfl))) pa_nil))))), fun vs Q => fn_pure (N := N_times) (fun ds d h => ?_) (fun B S ds d h D hR hN => ?_) vs H Q E0⟩), hm, F.kp, F.binds fun _ _ _ _ _ _ us hl => match us, hl with | [_, _], _ => rfl⟩
  · obtain ⟨first, second, rfl, h0, h1, rfl⟩ := h; rfl
  · obtain ⟨first, second, rfl, h0, h1, rfl⟩ := h; simp
  · obtain ⟨first, second, rfl, h0, h1, rfl⟩ := h
    show Ss _ _ [.da (eQ first), .da (eQ second)] _ _
    exact s_ret (ed_is (ed_call (ds := [(PyData.int ((first).num * (second).num)), (PyData.int (((first).den : Int) * ((second).den : Int)))]) (ea_cons (ed_I (ed_ixT (ed_var rfl) ed_int rfl) (ed_ixT (ed_var rfl) ed_int rfl) (by first | exact mul_nn h0 h1 | exact mul_dd h0 h1)) (ea_cons (ed_I (ed_ixT (ed_var rfl) ed_int rfl) (ed_ixT (ed_var rfl) ed_int rfl) (by first | exact mul_nn h0 h1 | exact mul_dd h0 h1)) ea_nil)) ⟨((first).num * (second).num), (((first).den : Int) * ((second).den : Int)), rfl, by exact den_nz2 first second, by exact den_lt2 h0 h1, rfl⟩) (by rw [q_mul] : (eQ (Rat.divInt (((first).num * (second).num)) ((((first).den : Int) * ((second).den : Int))))) = (eQ (first * second)))) hR

/-! ### over -/
abbrev s_over : Stmt := topS 15
abbrev N_over : List Str := ["first", "second"]
theorem sc_over : FnScope N_over ["first", "second"] (defScope s_over) := ⟨rfl, rfl, rfl, by decide +kernel, rfl, by decide +kernel, by decide +kernel⟩
def R_over : List PyData → PyData → Prop := fun ds d => ∃ (first : Rat) (second : Rat), ds = [(eQ first), (eQ second)] ∧ (Qb first) ∧ (Qb second) ∧ (second ≠ 0) ∧ d = (eQ (first / second))
set_option maxHeartbeats 4000000 in
theorem ok_over {P : Program} {w : World} {K : PySem.W.Frag} {mg : Str → Option Value} {base : Heap} (B : Gb mg) (F : Fd K mg "over" s_over) (C_quotient : Cl P w K mg base 2 "quotient" ["up", "down"] (SpP K R_quotient)) : Cl P w K mg base 3 "over" ["first", "second"] (SpP K R_over) := by
  obtain ⟨f, fd, F, hm⟩ := F.ex
  refine ⟨f, fd, fnG_of (k := 2) F sc_over (spP_len fun ds d h => ?_) (fun cdv A outer s H hr hgd => ⟨_, (pss_one (ps_ret (pe_cl C_quotient (hr.mono (by decide)) hgd (by rfl) (pa_cons (pe_op op_mulG (pe_ix (r := rIxT K) ix_tup (pv 0) pe_int (fun _ _ => rfl)) (pe_ix (r := rIxT K) ix_tup (pv 1) pe_int (fun _ _ => rfl))) (pa_cons (pe_op op_mulG (pe_ix (r := rIxT K) ix_tup (pv 0) pe_int (fun _ _ => rfl)) (pe_ix (r := rIxT K) ix_tup (pv 1) pe_int (fun _ _ => rfl))) pa_nil))))), fun vs Q => fn_pure (N := N_over) (fun ds d h => ?_) (fun B S ds d h D hR hN => ?_) vs H Q E0⟩), hm, F.kp, F.binds fun _ _ _ _ _ _ us hl => match us, hl with | [_, _], _ => rfl⟩
  · obtain ⟨first, second, rfl, h0, h1, h2, rfl⟩ := h; rfl
  · obtain ⟨first, second, rfl, h0, h1, h2, rfl⟩ := h; simp
  · obtain ⟨first, second, rfl, h0, h1, h2, rfl⟩ := h
    show Ss _ _ [.da (eQ first), .da (eQ second)] _ _
    exact s_ret (ed_is (ed_call (ds := [(PyData.int ((first).num * ((second).den : Int))), (PyData.int (((first).den : Int) * (second).num))]) (ea_cons (ed_I (ed_ixT (ed_var rfl) ed_int rfl) (ed_ixT (ed_var rfl) ed_int rfl) (by first | exact mul_nd h0 h1 | exact mul_dn h0 h1)) (ea_cons (ed_I (ed_ixT (ed_var rfl) ed_int rfl) (ed_ixT (ed_var rfl) ed_int rfl) (by first | exact mul_nd h0 h1 | exact mul_dn h0 h1)) ea_nil)) ⟨((first).num * ((second).den : Int)), (((first).den : Int) * (second).num), rfl, by exact den_nz3 first h2, by exact den_lt3 h0 h1, rfl⟩) (by rw [q_div] : (eQ (Rat.divInt (((first).num * ((second).den : Int))) ((((first).den : Int) * (second).num)))) = (eQ (first / second)))) hR

/-! ### is_less -/
abbrev s_is_less : Stmt := topS 16
abbrev N_is_less : List Str := ["first", "second"]
theorem sc_is_less : FnScope N_is_less ["first", "second"] (defScope s_is_less) := ⟨rfl, rfl, rfl, by decide +kernel, rfl, by decide +kernel, by decide +kernel⟩
def R_is_less : List PyData → PyData → Prop := fun ds d => ∃ (first : (Int × Int)) (second : (Int × Int)), ds = [((eP PyData.int PyData.int) first), ((eP PyData.int PyData.int) second)] ∧ (0 < first.2) ∧ (0 < second.2) ∧ (Pb first) ∧ (Pb second) ∧ d = (PyData.bool (decide (qv first < qv second)))
set_option maxHeartbeats 4000000 in
theorem ok_is_less {P : Program} {w : World} {K : PySem.W.Frag} {mg : Str → Option Value} {base : Heap} (B : Gb mg) (F : Fd K mg "is_less" s_is_less) : Cl P w K mg base 1 "is_less" ["first", "second"] (SpP K R_is_less) := by
  obtain ⟨f, fd, F, hm⟩ := F.ex
  refine ⟨f, fd, fnG_of (k := 0) F sc_is_less (spP_len fun ds d h => ?_) (fun cdv A outer s H hr hgd => ⟨_, (pss_one (ps_ret (pe_cmpR op_lt (pe_op op_mulG (pe_ix (r := rIxT K) ix_tup (pv 0) pe_int (fun _ _ => rfl)) (pe_ix (r := rIxT K) ix_tup (pv 1) pe_int (fun _ _ => rfl))) (pe_op op_mulG (pe_ix (r := rIxT K) ix_tup (pv 1) pe_int (fun _ _ => rfl)) (pe_ix (r := rIxT K) ix_tup (pv 0) pe_int (fun _ _ => rfl))) (nomark _)))), fun vs Q => fn_pure (N := N_is_less) (fun ds d h => ?_) (fun B S ds d h D hR hN => ?_) vs H Q E0⟩), hm, F.kp, F.binds fun _ _ _ _ _ _ us hl => match us, hl with | [_, _], _ => rfl⟩
  · obtain ⟨first, second, rfl, h0, h1, h2, h3, rfl⟩ := h; rfl
  · obtain ⟨first, second, rfl, h0, h1, h2, h3, rfl⟩ := h; simp
  · obtain ⟨first, second, rfl, h0, h1, h2, h3, rfl⟩ := h
    show Ss _ _ [.da ((eP PyData.int PyData.int) first), .da ((eP PyData.int PyData.int) second)] _ _
    exact s_ret (ed_is (ed_B0 (ed_I (ed_ixT (ed_var rfl) ed_int rfl) (ed_ixT (ed_var rfl) ed_int rfl) (by first | exact mul_b h2.1 h3.2.2 | exact mul_b h3.1 h2.2.2)) (ed_I (ed_ixT (ed_var rfl) ed_int rfl) (ed_ixT (ed_var rfl) ed_int rfl) (by first | exact mul_b h2.1 h3.2.2 | exact mul_b h3.1 h2.2.2))) (by exact congrArg PyData.bool (less_iff h0 h1) : (PyData.bool (decide (((first).1 * (second).2) < ((second).1 * (first).2)))) = (PyData.bool (decide (qv first < qv second))))) hR

/-! ### power -/
abbrev s_power : Stmt := topS 17
abbrev N_power : List Str := ["base", "many", "total", "at"]
theorem sc_power : FnScope N_power ["base", "many"] (defScope s_power) := ⟨rfl, rfl, rfl, by decide +kernel, rfl, by decide +kernel, by decide +kernel⟩
def R_power : List PyData → PyData → Prop := fun ds d => ∃ (base : Rat) (many : Int), ds = [(eQ base), (PyData.int many)] ∧ (0 ≤ many ∧ many ≤ 40) ∧ (Qk 100 base) ∧ d = (eQ (base ^ (many).toNat))
set_option maxHeartbeats 4000000 in
theorem ok_power {P : Program} {w : World} {K : PySem.W.Frag} {mg : Str → Option Value} {base : Heap} (B : Gb mg) (F : Fd K mg "power" s_power) (C_times : Cl P w K mg base 3 "times" ["first", "second"] (SpP K R_times)) : Cl P w K mg base 4 "power" ["base", "many"] (SpP K R_power) := by
  obtain ⟨f, fd, F, hm⟩ := F.ex
  refine ⟨f, fd, fnG_of (k := 3) F sc_power (spP_len fun ds d h => ?_) (fun cdv A outer s H hr hgd => ⟨_, (pss_cons (ps_set (i := 2) sc_power.nd rfl (Or.inl rfl) (pe_tupF (pa_cons pe_int (pa_cons pe_int pa_nil)))) (pss_cons (ps_for PassesOwn.never rfl (pi_range1 (by rfl) B.range_ (pa_cons (pv 1) pa_nil)) (pg_name (i := 3) sc_power.nd rfl (Or.inl rfl)) (pss_one (ps_set (i := 2) sc_power.nd rfl (Or.inl rfl) (pe_cl C_times (hr.mono (by decide)) hgd (by rfl) (pa_cons (pv 2) (pa_cons (pv 0) pa_nil)))))) (pss_one (ps_ret (pv 2))))), fun vs Q => fn_pure (N := N_power) (fun ds d h => ?_) (fun B S ds d h D hR hN => ?_) vs H Q E0⟩), hm, F.kp, F.binds fun _ _ _ _ _ _ us hl => match us, hl with | [_, _], _ => rfl⟩
  · obtain ⟨base, many, rfl, h0, h1, rfl⟩ := h; rfl
  · obtain ⟨base, many, rfl, h0, h1, rfl⟩ := h; simp
  · obtain ⟨base, many, rfl, h0, h1, rfl⟩ := h
    show Ss _ _ [.da (eQ base), .da (PyData.int many), .no, .no] _ _
    refine s_seq (s_asg (ed_is (d1 := eQ (1 : Rat)) (ed_tup (ds := [PyData.int (1 : Int), PyData.int (1 : Int)]) (ea_cons ed_int (ea_cons ed_int ea_nil))) (by rfl)) (s_le (ρ1 := [.da (eQ base), .da (PyData.int many), .da (eQ (1 : Rat)), .no]) (le_rfl rfl) ?_))
    refine s_seq (s_forX ((List.range (many).toNat)) (fun (i : Nat) => Itm.hard (PyData.int (i : Int))) (ei_rng (ed_var rfl) (by omega)) (fun i0 => [.da (eQ base), .da (PyData.int many), .da (eQ (base ^ (i0))), .no]) (le_same (le_same (le_da (by rw [Rat.pow_zero]) (le_no le_nil)))) (fun T0 hT0 i0 x0 hx0 => ⟨_, [3], (eg_name (by simp)), ?_⟩) ?_)
    · show Ss _ _ [.da (eQ base), .da (PyData.int many), .da (eQ (base ^ (i0))), .da (PyData.int (x0 : Int))] _ _
      have hlt0 := (rng_get hx0).2
      refine s_le (ρ1 := [.da (eQ base), .da (PyData.int many), .da (eQ (base ^ (i0))), .da (PyData.int (i0 : Int))]) (le_rfl (by rw [(rng_get hx0).1])) ?_
      refine (s_asg (ed_call (ds := [(eQ (base ^ (i0))), (eQ base)]) (ea_cons (ed_var rfl) (ea_cons (ed_var rfl) ea_nil)) ⟨(base ^ (i0)), base, rfl, by exact (Qk_pow h1 _).qb (by omega), by exact h1.qb (by decide), rfl⟩) (s_le (ρ1 := [.da (eQ base), .da (PyData.int many), .da (eQ (((base ^ (i0))) * (base))), .da (PyData.int (i0 : Int))]) (le_rfl rfl) ?_))
      exact s_end (le_same (le_same (le_da (by rw [pow_succ']) (le_no le_nil))))
    exact s_ret (ed_is (ed_var rfl) (by rw [List.length_range] : (eQ (base ^ (((List.range (many).toNat)).length))) = (eQ (base ^ (many).toNat)))) hR

/-! ### is_quotient -/
abbrev s_is_quotient : Stmt := topS 18
abbrev N_is_quotient : List Str := ["value", "part"]
theorem sc_is_quotient : FnScope N_is_quotient ["value"] (defScope s_is_quotient) := ⟨rfl, rfl, rfl, by decide +kernel, rfl, by decide +kernel, by decide +kernel⟩
def R_is_quotient : List PyData → PyData → Prop := fun ds d => ∃ (value : Rat), ds = [(eQ value)] ∧ d = (PyData.bool (true))
set_option maxHeartbeats 4000000 in
theorem ok_is_quotient {P : Program} {w : World} {K : PySem.W.Frag} {mg : Str → Option Value} {base : Heap} (B : Gb mg) (F : Fd K mg "is_quotient" s_is_quotient) (C_greatest_divisor : Cl P w K mg base 1 "greatest_divisor" ["first", "second"] (SpP K R_greatest_divisor)) (C_is_integer : Cl P w K mg base 1 "is_integer" ["value"] (SpP K R_is_integer)) : Cl P w K mg base 2 "is_quotient" ["value"] (SpP K R_is_quotient) := by
  obtain ⟨f, fd, F, hm⟩ := F.ex
  refine ⟨f, fd, fnG_of (k := 1) F sc_is_quotient (spP_len fun ds d h => ?_) (fun cdv A outer s H hr hgd => ⟨_, (pss_cons (ps_if (PW.pt (pw_or (pt_not (pt_truth (pe_callB (r := rIsi K) call_isi (by rfl) B.isinstance_ boot_isinstance (pa_cons (pv 0) (pa_cons (pe_bltn (v := .ty "tuple") (u := .type "tuple") (by rfl) B.tuple_ PyProof.Rows.boot_tuple rfl) pa_nil))) (fun _ => rfl))) (pw_or (pt_cmpR (r := rNeD K) (op_neD hr.units) (pe_callB (r := rLenS K) call_len_seq (by rfl) B.len_ PySem.boot_len (pa_cons (pv 0) pa_nil)) pe_int (nomark _)) (pw_or1 (pt_not (pt_truth (pe_callB (r := rAll K) (cr_all rfl) (by rfl) B.all_ (by decide +kernel) (pa_cons (pe_lc (own := [("part", 1)]) (g := _) (tt := tYes) rfl sc_is_quotient.nd (pi_tup (pv 0)) (blkOk_by (N := N_is_quotient) (sc := defScope s_is_quotient) (by decide +kernel)) (fun _ _ _ _ _ => (pg_name (i := 1) sc_is_quotient.nd rfl (by first | exact Or.inl rfl | exact Or.inr rfl))) (fun _ _ _ _ _ => pts_nil) (fun _ _ _ _ _ => (pe_cl C_is_integer (hr.mono (by decide)) hgd (by rfl) (pa_cons (pv 1) pa_nil)))) pa_nil)) (fun _ => rfl))))))) pss_never pss_nil) (pss_one (ps_ret (pe_and (pe_cmpR op_ge (pe_ix (r := rIxT K) ix_tup (pv 0) pe_int (fun _ _ => rfl)) pe_int (nomark _)) (pe_one (pe_cmpR (r := rEqD K) (op_eqD hr.units) (pe_cl C_greatest_divisor (hr.mono (by decide)) hgd (by rfl) (pa_cons (pe_callB call_abs (by rfl) B.abs_ PyProof.Rows.boot_abs (pa_cons (pe_ix (r := rIxT K) ix_tup (pv 0) pe_int (fun _ _ => rfl)) pa_nil)) (pa_cons (pe_ix (r := rIxT K) ix_tup (pv 0) pe_int (fun _ _ => rfl)) pa_nil))) pe_int (nomark _))))))), fun vs Q => fn_pure (N := N_is_quotient) (fun ds d h => ?_) (fun B S ds d h D hR hN => ?_) vs H Q E0⟩), hm, F.kp, F.binds fun _ _ _ _ _ _ us hl => match us, hl with | [_], _ => rfl⟩
  · obtain ⟨value, rfl, rfl⟩ := h; rfl
  · obtain ⟨value, rfl, rfl⟩ := h; simp
  · obtain ⟨value, rfl, rfl⟩ := h
    show Ss _ _ [.da (eQ value), .no] _ _
    refine s_seq (s_if (b := ((!true) || ((!decide ((2 : Int) = (2 : Int))) || (!(((([(value).num, ((value).den : Int)]).map fun (x1 : Int) => (isIntD ((PyData.int x1))))).all id))))) (et_or (et_not (et_truB (ed_isi (ed_var rfl) (show kitB "tuple" "tuple" = some true by decide +kernel)))) (fun hb3 => (et_or (et_test (ed_neI (ed_is (ed_lenT (ed_var rfl)) rfl) ed_int)) (fun hb2 => (et_not (et_truB (ed_all (ed_L (el_lcAX (xs := [(value).num, ((value).den : Int)]) (ea := fun x => Itm.hard (PyData.int x)) (enc := PyData.bool) (fb := fun (x1 : Int) => (isIntD ((PyData.int x1)))) (ei_tupX (ed_is (ed_var rfl) (rfl : _ = ((eT PyData.int) [(value).num, ((value).den : Int)])))) (by simp) (by simp) (fun _ _ x1 hx1 => ⟨_, rfl, (eg_name (by simp)), (ed_call (ds := [(PyData.int x1)]) (ea_cons (ed_var rfl) ea_nil) ⟨(PyData.int x1), rfl, rfl⟩)⟩)))))))))) (fun hc0 => ?_) (fun hc0 => ?_))
    · exact absurd hc0 (by simp [isIntD, isi_int, isi_bool])
    · refine s_next ?_
      exact s_ret (ed_is (ed_and (ed_B0 (ed_ixT (ed_var rfl) ed_int rfl) ed_int) (fun hb4 => (ed_eqI (ed_call (ds := [(eN ((value).num).natAbs), (eN (value).den)]) (ea_cons (ed_abs (ed_ixT (ed_var rfl) ed_int rfl)) (ea_cons (ed_is (ed_ixT (ed_var rfl) ed_int rfl) (by rfl : _ = (eN (value).den))) ea_nil)) ⟨((value).num).natAbs, (value).den, rfl, rfl⟩) ed_int))) (by rw [Q_gcd]; have := value.den_pos; simp; omega : (PyData.bool ((decide ((1 : Int) ≤ ((value).den : Int))) && (decide ((((Nat.gcd (((value).num).natAbs) ((value).den)) : Nat) : Int) = (1 : Int))))) = (PyData.bool (true)))) hR

/-! ### is_factor -/
abbrev s_is_factor : Stmt := topS 20
abbrev N_is_factor : List Str := ["value"]
theorem sc_is_factor : FnScope N_is_factor ["value"] (defScope s_is_factor) := ⟨rfl, rfl, rfl, by decide +kernel, rfl, by decide +kernel, by decide +kernel⟩
def R_is_factor : List PyData → PyData → Prop := fun ds d => ∃ (value : Rat), ds = [(eQ value)] ∧ (FacOk value) ∧ d = (PyData.bool (true))
set_option maxHeartbeats 4000000 in
theorem ok_is_factor {P : Program} {w : World} {K : PySem.W.Frag} {mg : Str → Option Value} {base : Heap} (B : Gb mg) (F : Fd K mg "is_factor" s_is_factor) (C_is_quotient : Cl P w K mg base 2 "is_quotient" ["value"] (SpP K R_is_quotient)) : Cl P w K mg base 3 "is_factor" ["value"] (SpP K R_is_factor) := by
  obtain ⟨f, fd, F, hm⟩ := F.ex
  refine ⟨f, fd, fnG_of (k := 2) F sc_is_factor (spP_len fun ds d h => ?_) (fun cdv A outer s H hr hgd => ⟨_, (pss_one (ps_ret (pe_and (pe_cl C_is_quotient (hr.mono (by decide)) hgd (by rfl) (pa_cons (pv 0) pa_nil)) (pe_and (pe_chain op_le op_le pe_int (pe_ix (r := rIxT K) ix_tup (pv 0) pe_int (fun _ _ => rfl)) (pe_glob (v := .int 1000) rfl B.c_MAX_PART.choose_spec ⟨_, rfl⟩)) (pe_one (pe_cmpR op_le (pe_ix (r := rIxT K) ix_tup (pv 0) pe_int (fun _ _ => rfl)) (pe_glob (v := .int 1000) rfl B.c_MAX_PART.choose_spec ⟨_, rfl⟩) (nomark _))))))), fun vs Q => fn_pure (N := N_is_factor) (fun ds d h => ?_) (fun B S ds d h D hR hN => ?_) vs H Q E0⟩), hm, F.kp, F.binds fun _ _ _ _ _ _ us hl => match us, hl with | [_], _ => rfl⟩
  · obtain ⟨value, rfl, h0, rfl⟩ := h; rfl
  · obtain ⟨value, rfl, h0, rfl⟩ := h; simp
  · obtain ⟨value, rfl, h0, rfl⟩ := h
    show Ss _ _ [.da (eQ value)] _ _
    exact s_ret (ed_is (ed_and (ed_call (ds := [(eQ value)]) (ea_cons (ed_var rfl) ea_nil) ⟨value, rfl, rfl⟩) (fun hb3 => (ed_and (ed_chain ed_int (ed_ixT (ed_var rfl) ed_int rfl) (fun hb1 => ed_int)) (fun hb2 => (ed_B0 (ed_ixT (ed_var rfl) ed_int rfl) ed_int))))) (by have := h0.1; have := h0.2.1; have := h0.2.2; simp; omega : (PyData.bool ((true) && ((decide ((1 : Int) ≤ (value).num) && decide ((value).num ≤ (1000 : Int))) && (decide (((value).den : Int) ≤ (1000 : Int)))))) = (PyData.bool (true)))) hR

/-! ### check_market -/
abbrev s_check_market : Stmt := topS 21
abbrev N_check_market : List Str := ["market", "part"]
theorem sc_check_market : FnScope N_check_market ["market"] (defScope s_check_market) := ⟨rfl, rfl, rfl, by decide +kernel, rfl, by decide +kernel, by decide +kernel⟩
def R_check_market : List PyData → PyData → Prop := fun ds d => ∃ (market : (Rat × Rat × Rat × Rat)), ds = [((eP4 eQ eQ eQ eQ) market)] ∧ (MkOk market) ∧ d = PyData.none
set_option maxHeartbeats 4000000 in
theorem ok_check_market {P : Program} {w : World} {K : PySem.W.Frag} {mg : Str → Option Value} {base : Heap} (B : Gb mg) (F : Fd K mg "check_market" s_check_market) (C_is_factor : Cl P w K mg base 3 "is_factor" ["value"] (SpP K R_is_factor)) (C_is_less : Cl P w K mg base 1 "is_less" ["first", "second"] (SpP K R_is_less)) : Cl P w K mg base 4 "check_market" ["market"] (SpP K R_check_market) := by
  obtain ⟨f, fd, F, hm⟩ := F.ex
  refine ⟨f, fd, fnG_of (k := 3) F sc_check_market (spP_len fun ds d h => ?_) (fun cdv A outer s H hr hgd => ⟨_, (pss_cons (ps_if (PW.pt (pw_or (pt_not (pt_truth (pe_callB (r := rIsi K) call_isi (by rfl) B.isinstance_ boot_isinstance (pa_cons (pv 0) (pa_cons (pe_bltn (v := .ty "tuple") (u := .type "tuple") (by rfl) B.tuple_ PyProof.Rows.boot_tuple rfl) pa_nil))) (fun _ => rfl))) (pw_or (pt_cmpR (r := rNeD K) (op_neD hr.units) (pe_callB (r := rLenS K) call_len_seq (by rfl) B.len_ PySem.boot_len (pa_cons (pv 0) pa_nil)) pe_int (nomark _)) (pw_or1 (pt_not (pt_truth (pe_callB (r := rAll K) (cr_all rfl) (by rfl) B.all_ (by decide +kernel) (pa_cons (pe_lc (own := [("part", 1)]) (g := _) (tt := tYes) rfl sc_check_market.nd (pi_tup (pv 0)) (blkOk_by (N := N_check_market) (sc := defScope s_check_market) (by decide +kernel)) (fun _ _ _ _ _ => (pg_name (i := 1) sc_check_market.nd rfl (by first | exact Or.inl rfl | exact Or.inr rfl))) (fun _ _ _ _ _ => pts_nil) (fun _ _ _ _ _ => (pe_cl C_is_factor (hr.mono (by decide)) hgd (by rfl) (pa_cons (pv 1) pa_nil)))) pa_nil)) (fun _ => rfl))))))) pss_never pss_nil) (pss_one (ps_if (pt_not (pt_truth (pe_cl C_is_less (hr.mono (by decide)) hgd (by rfl) (pa_cons (pe_ix (r := rIxT K) ix_tup (pv 0) pe_int (fun _ _ => rfl)) (pa_cons (pe_ix (r := rIxT K) ix_tup (pv 0) pe_int (fun _ _ => rfl)) pa_nil))) (fun _ => rfl))) pss_never pss_nil))), fun vs Q => fn_pure (N := N_check_market) (fun ds d h => ?_) (fun B S ds d h D hR hN => ?_) vs H Q E0⟩), hm, F.kp, F.binds fun _ _ _ _ _ _ us hl => match us, hl with | [_], _ => rfl⟩
  · obtain ⟨market, rfl, h0, rfl⟩ := h; rfl
  · obtain ⟨market, rfl, h0, rfl⟩ := h; simp
  · obtain ⟨market, rfl, h0, rfl⟩ := h
    show Ss _ _ [.da ((eP4 eQ eQ eQ eQ) market), .no] _ _
    refine s_seq (s_skip (et_or (et_not (et_truB (ed_isi (ed_var rfl) (show kitB "tuple" "tuple" = some true by decide +kernel)))) (fun hb3 => (et_or (et_test (ed_neI (ed_is (ed_lenT (ed_var rfl)) rfl) ed_int)) (fun hb2 => (et_not (et_truB (ed_all (ed_L (el_lcAX (xs := [(market).1, (market).2.1, (market).2.2.1, (market).2.2.2]) (ea := fun x => Itm.hard (eQ x)) (enc := PyData.bool) (fb := fun (x1 : Rat) => (true)) (ei_tupX (ed_is (ed_var rfl) (rfl : _ = ((eT eQ) [(market).1, (market).2.1, (market).2.2.1, (market).2.2.2])))) (by simp) (by simp) (fun _ _ x1 hx1 => ⟨_, rfl, (eg_name (by simp)), (ed_call (ds := [(eQ x1)]) (ea_cons (ed_var rfl) ea_nil) ⟨x1, rfl, by exact mk_fac h0 (by assumption), rfl⟩)⟩)))))))))) (by simp : ((!true) || ((!decide ((4 : Int) = (4 : Int))) || (!(((([(market).1, (market).2.1, (market).2.2.1, (market).2.2.2]).map fun (x1 : Rat) => (true))).all id)))) = false) ?_)
    refine (s_skip (et_not (et_truB (ed_is (ed_call (ds := [((eP PyData.int PyData.int) (qp (market).2.2.1)), ((eP PyData.int PyData.int) (qp (market).2.1))]) (ea_cons (ed_is (ed_ixT (ed_var rfl) ed_int rfl) (rfl : _ = ((eP PyData.int PyData.int) (qp (market).2.2.1)))) (ea_cons (ed_is (ed_ixT (ed_var rfl) ed_int rfl) (rfl : _ = ((eP PyData.int PyData.int) (qp (market).2.1)))) ea_nil)) ⟨(qp (market).2.2.1), (qp (market).2.1), rfl, by exact den_pos _, by exact den_pos _, by exact (h0.1.2.2.1.qk.qb (by decide)).pb, by exact (h0.1.2.1.qk.qb (by decide)).pb, rfl⟩) (by simp only [qv_qp] : _ = (PyData.bool (decide ((market).2.2.1 < (market).2.1))))))) (by have := mk_du h0; rw [qv_qp, qv_qp] at this; rw [decide_eq_true this]; rfl : (!(decide ((market).2.2.1 < (market).2.1))) = false) ?_)
    exact hN rfl _ _

/-! ### judge_market -/
abbrev s_judge_market : Stmt := topS 22
abbrev N_judge_market : List Str := ["market", "price", "up", "down", "rate"]
theorem sc_judge_market : FnScope N_judge_market ["market"] (defScope s_judge_market) := ⟨rfl, rfl, rfl, by decide +kernel, rfl, by decide +kernel, by decide +kernel⟩
def R_judge_market : List PyData → PyData → Prop := fun ds d => ∃ (market : (Rat × Rat × Rat × Rat)), ds = [((eP4 eQ eQ eQ eQ) market)] ∧ (MkOk market) ∧ d = ((eP PyData.str eQ) ((Str.ofString "fair", share market)))
set_option maxHeartbeats 4000000 in
theorem ok_judge_market {P : Program} {w : World} {K : PySem.W.Frag} {mg : Str → Option Value} {base : Heap} (B : Gb mg) (F : Fd K mg "judge_market" s_judge_market) (C_check_market : Cl P w K mg base 4 "check_market" ["market"] (SpP K R_check_market)) (C_is_less : Cl P w K mg base 1 "is_less" ["first", "second"] (SpP K R_is_less)) (C_minus : Cl P w K mg base 3 "minus" ["first", "second"] (SpP K R_minus)) (C_over : Cl P w K mg base 3 "over" ["first", "second"] (SpP K R_over)) : Cl P w K mg base 5 "judge_market" ["market"] (SpP K R_judge_market) := by
  obtain ⟨f, fd, F, hm⟩ := F.ex
  refine ⟨f, fd, fnG_of (k := 4) F sc_judge_market (spP_len fun ds d h => ?_) (fun cdv A outer s H hr hgd => ⟨_, (pss_cons (ps_expr (pe_cl C_check_market (hr.mono (by decide)) hgd (by rfl) (pa_cons (pv 0) pa_nil))) (pss_cons (ps_asg (pv 0) (pg_tup rfl (pgs_cons (pg_name (i := 1) sc_judge_market.nd rfl (Or.inl rfl)) (pgs_cons (pg_name (i := 2) sc_judge_market.nd rfl (Or.inl rfl)) (pgs_cons (pg_name (i := 3) sc_judge_market.nd rfl (Or.inl rfl)) (pgs_cons (pg_name (i := 4) sc_judge_market.nd rfl (Or.inl rfl)) pgs_nil))))) rfl) (pss_cons (ps_if (pt_not (pt_truth (pe_cl C_is_less (hr.mono (by decide)) hgd (by rfl) (pa_cons (pv 3) (pa_cons (pv 4) pa_nil))) (fun _ => rfl))) pss_never pss_nil) (pss_cons (ps_if (pt_not (pt_truth (pe_cl C_is_less (hr.mono (by decide)) hgd (by rfl) (pa_cons (pv 4) (pa_cons (pv 2) pa_nil))) (fun _ => rfl))) pss_never pss_nil) (pss_one (ps_ret (pe_tupF (pa_cons pe_str (pa_cons (pe_cl C_over (hr.mono (by decide)) hgd (by rfl) (pa_cons (pe_cl C_minus (hr.mono (by decide)) hgd (by rfl) (pa_cons (pv 4) (pa_cons (pv 3) pa_nil))) (pa_cons (pe_cl C_minus (hr.mono (by decide)) hgd (by rfl) (pa_cons (pv 2) (pa_cons (pv 3) pa_nil))) pa_nil))) pa_nil))))))))), fun vs Q => fn_pure (N := N_judge_market) (fun ds d h => ?_) (fun B S ds d h D hR hN => ?_) vs H Q E0⟩), hm, F.kp, F.binds fun _ _ _ _ _ _ us hl => match us, hl with | [_], _ => rfl⟩
  · obtain ⟨market, rfl, h0, rfl⟩ := h; rfl
  · obtain ⟨market, rfl, h0, rfl⟩ := h; simp
  · obtain ⟨market, rfl, h0, rfl⟩ := h
    show Ss _ _ [.da ((eP4 eQ eQ eQ eQ) market), .no, .no, .no, .no] _ _
    refine s_seq (s_drop (ed_call (ds := [((eP4 eQ eQ eQ eQ) market)]) (ea_cons (ed_var rfl) ea_nil) ⟨market, rfl, by assumption, rfl⟩) ?_)
    refine s_seq (s_asgG (ws := [1, 2, 3, 4]) (ed_var rfl) (eg_tup (egs_cons (eg_name (by simp)) (egs_cons (eg_name (by simp)) (egs_cons (eg_name (by simp)) (egs_cons (eg_name (by simp)) egs_nil))))) (s_le (ρ1 := [.da ((eP4 eQ eQ eQ eQ) market), .da (eQ (market).1), .da (eQ (market).2.1), .da (eQ (market).2.2.1), .da (eQ (market).2.2.2)]) (le_rfl rfl) ?_))
    refine s_seq (s_if (b := (!(decide ((market).2.2.1 < (market).2.2.2)))) (et_not (et_truB (ed_is (ed_call (ds := [((eP PyData.int PyData.int) (qp (market).2.2.1)), ((eP PyData.int PyData.int) (qp (market).2.2.2))]) (ea_cons (ed_is (ed_var rfl) (rfl : _ = ((eP PyData.int PyData.int) (qp (market).2.2.1)))) (ea_cons (ed_is (ed_var rfl) (rfl : _ = ((eP PyData.int PyData.int) (qp (market).2.2.2)))) ea_nil)) ⟨(qp (market).2.2.1), (qp (market).2.2.2), rfl, by exact den_pos _, by exact den_pos _, by exact (h0.1.2.2.1.qk.qb (by decide)).pb, by exact (h0.1.2.2.2.qk.qb (by decide)).pb, rfl⟩) (by simp only [qv_qp] : _ = (PyData.bool (decide ((market).2.2.1 < (market).2.2.2))))))) (fun hc0 => ?_) (fun hc0 => ?_))
    · exact absurd hc0 (by rw [decide_eq_true h0.2.1]; simp)
    · refine s_next ?_
      refine s_seq (s_if (b := (!(decide ((market).2.2.2 < (market).2.1)))) (et_not (et_truB (ed_is (ed_call (ds := [((eP PyData.int PyData.int) (qp (market).2.2.2)), ((eP PyData.int PyData.int) (qp (market).2.1))]) (ea_cons (ed_is (ed_var rfl) (rfl : _ = ((eP PyData.int PyData.int) (qp (market).2.2.2)))) (ea_cons (ed_is (ed_var rfl) (rfl : _ = ((eP PyData.int PyData.int) (qp (market).2.1)))) ea_nil)) ⟨(qp (market).2.2.2), (qp (market).2.1), rfl, by exact den_pos _, by exact den_pos _, by exact (h0.1.2.2.2.qk.qb (by decide)).pb, by exact (h0.1.2.1.qk.qb (by decide)).pb, rfl⟩) (by simp only [qv_qp] : _ = (PyData.bool (decide ((market).2.2.2 < (market).2.1))))))) (fun hc1 => ?_) (fun hc1 => ?_))
      · exact absurd hc1 (by rw [decide_eq_true h0.2.2]; simp)
      · refine s_next ?_
        exact s_ret (ed_is (ed_tup (ds := [(PyData.str (Str.ofString "fair")), (eQ (((((market).2.2.2) - ((market).2.2.1))) / ((((market).2.1) - ((market).2.2.1)))))]) (ea_cons ed_str (ea_cons (ed_call (ds := [(eQ (((market).2.2.2) - ((market).2.2.1))), (eQ (((market).2.1) - ((market).2.2.1)))]) (ea_cons (ed_call (ds := [(eQ (market).2.2.2), (eQ (market).2.2.1)]) (ea_cons (ed_var rfl) (ea_cons (ed_var rfl) ea_nil)) ⟨(market).2.2.2, (market).2.2.1, rfl, by exact h0.1.2.2.2.qk.qb (by decide), by exact h0.1.2.2.1.qk.qb (by decide), rfl⟩) (ea_cons (ed_call (ds := [(eQ (market).2.1), (eQ (market).2.2.1)]) (ea_cons (ed_var rfl) (ea_cons (ed_var rfl) ea_nil)) ⟨(market).2.1, (market).2.2.1, rfl, by exact h0.1.2.1.qk.qb (by decide), by exact h0.1.2.2.1.qk.qb (by decide), rfl⟩) ea_nil)) ⟨(((market).2.2.2) - ((market).2.2.1)), (((market).2.1) - ((market).2.2.1)), rfl, by exact (Qk_sub h0.1.2.2.2.qk h0.1.2.2.1.qk).qb (by decide), by exact (Qk_sub h0.1.2.1.qk h0.1.2.2.1.qk).qb (by decide), by exact mk_ne h0, rfl⟩) ea_nil))) (by rfl : ((eP PyData.str eQ) ((Str.ofString "fair"), (((((market).2.2.2) - ((market).2.2.1))) / ((((market).2.1) - ((market).2.2.1)))))) = ((eP PyData.str eQ) ((Str.ofString "fair", share market))))) hR

/-! ### node_price -/
abbrev s_node_price : Stmt := topS 24
abbrev N_node_price : List Str := ["market", "step", "ups", "price", "up", "down", "rate"]
theorem sc_node_price : FnScope N_node_price ["market", "step", "ups"] (defScope s_node_price) := ⟨rfl, rfl, rfl, by decide +kernel, rfl, by decide +kernel, by decide +kernel⟩
def R_node_price : List PyData → PyData → Prop := fun ds d => ∃ (market : (Rat × Rat × Rat × Rat)) (step : Int) (ups : Int), ds = [((eP4 eQ eQ eQ eQ) market), (PyData.int step), (PyData.int ups)] ∧ (MkOk market) ∧ (0 ≤ ups ∧ ups ≤ step ∧ step ≤ 12) ∧ d = (eQ (nodeP market step ups))
set_option maxHeartbeats 4000000 in
theorem ok_node_price {P : Program} {w : World} {K : PySem.W.Frag} {mg : Str → Option Value} {base : Heap} (B : Gb mg) (F : Fd K mg "node_price" s_node_price) (C_power : Cl P w K mg base 4 "power" ["base", "many"] (SpP K R_power)) (C_times : Cl P w K mg base 3 "times" ["first", "second"] (SpP K R_times)) : Cl P w K mg base 5 "node_price" ["market", "step", "ups"] (SpP K R_node_price) := by
  obtain ⟨f, fd, F, hm⟩ := F.ex
  refine ⟨f, fd, fnG_of (k := 4) F sc_node_price (spP_len fun ds d h => ?_) (fun cdv A outer s H hr hgd => ⟨_, (pss_cons (ps_asg (pv 0) (pg_tup rfl (pgs_cons (pg_name (i := 3) sc_node_price.nd rfl (Or.inl rfl)) (pgs_cons (pg_name (i := 4) sc_node_price.nd rfl (Or.inl rfl)) (pgs_cons (pg_name (i := 5) sc_node_price.nd rfl (Or.inl rfl)) (pgs_cons (pg_name (i := 6) sc_node_price.nd rfl (Or.inl rfl)) pgs_nil))))) rfl) (pss_one (ps_ret (pe_cl C_times (hr.mono (by decide)) hgd (by rfl) (pa_cons (pv 3) (pa_cons (pe_cl C_times (hr.mono (by decide)) hgd (by rfl) (pa_cons (pe_cl C_power (hr.mono (by decide)) hgd (by rfl) (pa_cons (pv 4) (pa_cons (pv 2) pa_nil))) (pa_cons (pe_cl C_power (hr.mono (by decide)) hgd (by rfl) (pa_cons (pv 5) (pa_cons (pe_op op_sub (pv 1) (pv 2)) pa_nil))) pa_nil))) pa_nil)))))), fun vs Q => fn_pure (N := N_node_price) (fun ds d h => ?_) (fun B S ds d h D hR hN => ?_) vs H Q E0⟩), hm, F.kp, F.binds fun _ _ _ _ _ _ us hl => match us, hl with | [_, _, _], _ => rfl⟩
  · obtain ⟨market, step, ups, rfl, h0, h1, rfl⟩ := h; rfl
  · obtain ⟨market, step, ups, rfl, h0, h1, rfl⟩ := h; simp
  · obtain ⟨market, step, ups, rfl, h0, h1, rfl⟩ := h
    show Ss _ _ [.da ((eP4 eQ eQ eQ eQ) market), .da (PyData.int step), .da (PyData.int ups), .no, .no, .no, .no] _ _
    refine s_seq (s_asgG (ws := [3, 4, 5, 6]) (ed_var rfl) (eg_tup (egs_cons (eg_name (by simp)) (egs_cons (eg_name (by simp)) (egs_cons (eg_name (by simp)) (egs_cons (eg_name (by simp)) egs_nil))))) (s_le (ρ1 := [.da ((eP4 eQ eQ eQ eQ) market), .da (PyData.int step), .da (PyData.int ups), .da (eQ (market).1), .da (eQ (market).2.1), .da (eQ (market).2.2.1), .da (eQ (market).2.2.2)]) (le_rfl rfl) ?_))
    exact s_ret (ed_is (ed_call (ds := [(eQ (market).1), (eQ (((((market).2.1) ^ ((ups)).toNat)) * ((((market).2.2.1) ^ (((step - ups))).toNat))))]) (ea_cons (ed_var rfl) (ea_cons (ed_call (ds := [(eQ (((market).2.1) ^ ((ups)).toNat)), (eQ (((market).2.2.1) ^ (((step - ups))).toNat))]) (ea_cons (ed_call (ds := [(eQ (market).2.1), (PyData.int ups)]) (ea_cons (ed_var rfl) (ea_cons (ed_var rfl) ea_nil)) ⟨(market).2.1, ups, rfl, by omega, by exact h0.1.2.1.qk.mono (by decide), rfl⟩) (ea_cons (ed_call (ds := [(eQ (market).2.2.1), (PyData.int (step - ups))]) (ea_cons (ed_var rfl) (ea_cons (ed_I0 (ed_var rfl) (ed_var rfl)) ea_nil)) ⟨(market).2.2.1, (step - ups), rfl, by omega, by exact h0.1.2.2.1.qk.mono (by decide), rfl⟩) ea_nil)) ⟨(((market).2.1) ^ ((ups)).toNat), (((market).2.2.1) ^ (((step - ups))).toNat), rfl, by exact (Qk_pow h0.1.2.1.qk _).qb (by omega), by exact (Qk_pow h0.1.2.2.1.qk _).qb (by omega), rfl⟩) ea_nil)) ⟨(market).1, (((((market).2.1) ^ ((ups)).toNat)) * ((((market).2.2.1) ^ (((step - ups))).toNat))), rfl, by exact h0.1.1.qk.qb (by decide), by exact (Qk_mul (Qk_pow h0.1.2.1.qk _) (Qk_pow h0.1.2.2.1.qk _)).qb (by omega), rfl⟩) (by rfl : (eQ (((market).1) * ((((((market).2.1) ^ ((ups)).toNat)) * ((((market).2.2.1) ^ (((step - ups))).toNat)))))) = (eQ (nodeP market step ups)))) hR

/-! ### price_at -/
abbrev s_price_at : Stmt := topS 23
abbrev N_price_at : List Str := ["market", "step", "ups"]
theorem sc_price_at : FnScope N_price_at ["market", "step", "ups"] (defScope s_price_at) := ⟨rfl, rfl, rfl, by decide +kernel, rfl, by decide +kernel, by decide +kernel⟩
def R_price_at : List PyData → PyData → Prop := fun ds d => ∃ (market : (Rat × Rat × Rat × Rat)) (step : Int) (ups : Int), ds = [((eP4 eQ eQ eQ eQ) market), (PyData.int step), (PyData.int ups)] ∧ (MkOk market) ∧ (0 ≤ ups ∧ ups ≤ step ∧ step ≤ 12) ∧ d = (eQ (nodeP market step ups))
set_option maxHeartbeats 4000000 in
theorem ok_price_at {P : Program} {w : World} {K : PySem.W.Frag} {mg : Str → Option Value} {base : Heap} (B : Gb mg) (F : Fd K mg "price_at" s_price_at) (C_check_market : Cl P w K mg base 4 "check_market" ["market"] (SpP K R_check_market)) (C_is_integer : Cl P w K mg base 1 "is_integer" ["value"] (SpP K R_is_integer)) (C_node_price : Cl P w K mg base 5 "node_price" ["market", "step", "ups"] (SpP K R_node_price)) : Cl P w K mg base 6 "price_at" ["market", "step", "ups"] (SpP K R_price_at) := by
  obtain ⟨f, fd, F, hm⟩ := F.ex
  refine ⟨f, fd, fnG_of (k := 5) F sc_price_at (spP_len fun ds d h => ?_) (fun cdv A outer s H hr hgd => ⟨_, (pss_cons (ps_expr (pe_cl C_check_market (hr.mono (by decide)) hgd (by rfl) (pa_cons (pv 0) pa_nil))) (pss_cons (ps_if (PW.pt (pw_or (pt_not (pt_truth (pe_cl C_is_integer (hr.mono (by decide)) hgd (by rfl) (pa_cons (pv 1) pa_nil)) (fun _ => rfl))) (pw_or1 (pt_not (pt_chain op_le op_le pe_int (pv 1) (pe_glob (v := .int 12) rfl B.c_MAX_STEPS.choose_spec ⟨_, rfl⟩)))))) pss_never pss_nil) (pss_cons (ps_if (PW.pt (pw_or (pt_not (pt_truth (pe_cl C_is_integer (hr.mono (by decide)) hgd (by rfl) (pa_cons (pv 2) pa_nil)) (fun _ => rfl))) (pw_or1 (pt_not (pt_chain op_le op_le pe_int (pv 2) (pv 1)))))) pss_never pss_nil) (pss_one (ps_ret (pe_cl C_node_price (hr.mono (by decide)) hgd (by rfl) (pa_cons (pv 0) (pa_cons (pv 1) (pa_cons (pv 2) pa_nil))))))))), fun vs Q => fn_pure (N := N_price_at) (fun ds d h => ?_) (fun B S ds d h D hR hN => ?_) vs H Q E0⟩), hm, F.kp, F.binds fun _ _ _ _ _ _ us hl => match us, hl with | [_, _, _], _ => rfl⟩
  · obtain ⟨market, step, ups, rfl, h0, h1, rfl⟩ := h; rfl
  · obtain ⟨market, step, ups, rfl, h0, h1, rfl⟩ := h; simp
  · obtain ⟨market, step, ups, rfl, h0, h1, rfl⟩ := h
    show Ss _ _ [.da ((eP4 eQ eQ eQ eQ) market), .da (PyData.int step), .da (PyData.int ups)] _ _
    refine s_seq (s_drop (ed_call (ds := [((eP4 eQ eQ eQ eQ) market)]) (ea_cons (ed_var rfl) ea_nil) ⟨market, rfl, by assumption, rfl⟩) ?_)
    refine s_seq (s_skip (et_or (et_not (et_truB (ed_call (ds := [(PyData.int step)]) (ea_cons (ed_var rfl) ea_nil) ⟨(PyData.int step), rfl, rfl⟩))) (fun hb2 => (et_not (et_chain (ed_chain ed_int (ed_var rfl) (fun hb1 => ed_int)))))) (by simp [isIntD, isi_int, isi_bool]; omega : ((!(isIntD ((PyData.int step)))) || (!(decide ((0 : Int) ≤ step) && decide (step ≤ (12 : Int))))) = false) ?_)
    refine s_seq (s_skip (et_or (et_not (et_truB (ed_call (ds := [(PyData.int ups)]) (ea_cons (ed_var rfl) ea_nil) ⟨(PyData.int ups), rfl, rfl⟩))) (fun hb4 => (et_not (et_chain (ed_chain ed_int (ed_var rfl) (fun hb3 => (ed_var rfl))))))) (by simp [isIntD, isi_int, isi_bool]; omega : ((!(isIntD ((PyData.int ups)))) || (!(decide ((0 : Int) ≤ ups) && decide (ups ≤ step)))) = false) ?_)
    exact s_ret (ed_is (ed_call (ds := [((eP4 eQ eQ eQ eQ) market), (PyData.int step), (PyData.int ups)]) (ea_cons (ed_var rfl) (ea_cons (ed_var rfl) (ea_cons (ed_var rfl) ea_nil))) ⟨market, step, ups, rfl, by assumption, by assumption, rfl⟩) (by rfl : (eQ (nodeP (market) (step) (ups))) = (eQ (nodeP market step ups)))) hR

/-! ### check_claim -/
abbrev s_check_claim : Stmt := topS 25
abbrev N_check_claim : List Str := ["claim", "step", "row", "part"]
theorem sc_check_claim : FnScope N_check_claim ["claim"] (defScope s_check_claim) := ⟨rfl, rfl, rfl, by decide +kernel, rfl, by decide +kernel, by decide +kernel⟩
def R_check_claim : List PyData → PyData → Prop := fun ds d => ∃ (claim : (List (List Int))), ds = [((eT (eT PyData.int)) claim)] ∧ (ClOk claim) ∧ d = PyData.none
set_option maxHeartbeats 4000000 in
theorem ok_check_claim {P : Program} {w : World} {K : PySem.W.Frag} {mg : Str → Option Value} {base : Heap} (B : Gb mg) (F : Fd K mg "check_claim" s_check_claim) (C_is_integer : Cl P w K mg base 1 "is_integer" ["value"] (SpP K R_is_integer)) : Cl P w K mg base 2 "check_claim" ["claim"] (SpP K R_check_claim) := by
  obtain ⟨f, fd, F, hm⟩ := F.ex
  refine ⟨f, fd, fnG_of (k := 1) F sc_check_claim (spP_len fun ds d h => ?_) (fun cdv A outer s H hr hgd => ⟨_, (pss_cons (ps_if (PW.pt (pw_or (pt_not (pt_truth (pe_callB (r := rIsi K) call_isi (by rfl) B.isinstance_ boot_isinstance (pa_cons (pv 0) (pa_cons (pe_bltn (v := .ty "tuple") (u := .type "tuple") (by rfl) B.tuple_ PyProof.Rows.boot_tuple rfl) pa_nil))) (fun _ => rfl))) (pw_or1 (pt_not (pt_chain op_le op_le pe_int (pe_callB (r := rLenS K) call_len_seq (by rfl) B.len_ PySem.boot_len (pa_cons (pv 0) pa_nil)) (pe_op op_add (pe_glob (v := .int 12) rfl B.c_MAX_STEPS.choose_spec ⟨_, rfl⟩) pe_int)))))) pss_never pss_nil) (pss_one (ps_for PassesOwn.never rfl (pi_enumT (by rfl) B.enumerate_ (pa_cons (pv 0) pa_nil)) (pg_tup rfl (pgs_cons (pg_name (i := 1) sc_check_claim.nd rfl (Or.inl rfl)) (pgs_cons (pg_name (i := 2) sc_check_claim.nd rfl (Or.inl rfl)) pgs_nil))) (pss_cons (ps_if (PW.pt (pw_or (pt_not (pt_truth (pe_callB (r := rIsi K) call_isi (by rfl) B.isinstance_ boot_isinstance (pa_cons (pv 2) (pa_cons (pe_bltn (v := .ty "tuple") (u := .type "tuple") (by rfl) B.tuple_ PyProof.Rows.boot_tuple rfl) pa_nil))) (fun _ => rfl))) (pw_or1 (pt_cmpR (r := rNeD K) (op_neD hr.units) (pe_callB (r := rLenS K) call_len_seq (by rfl) B.len_ PySem.boot_len (pa_cons (pv 2) pa_nil)) (pe_op op_add (pv 1) pe_int) (nomark _))))) pss_never pss_nil) (pss_one (ps_if (pt_not (pt_truth (pe_callB (r := rAll K) (cr_all rfl) (by rfl) B.all_ (by decide +kernel) (pa_cons (pe_lc (own := [("part", 3)]) (g := _) (tt := tYes) rfl sc_check_claim.nd (pi_tup (pv 2)) (blkOk_by (N := N_check_claim) (sc := defScope s_check_claim) (by decide +kernel)) (fun _ _ _ _ _ => (pg_name (i := 3) sc_check_claim.nd rfl (by first | exact Or.inl rfl | exact Or.inr rfl))) (fun _ _ _ _ _ => pts_nil) (fun _ _ _ _ _ => (pe_and (pe_cl C_is_integer (hr.mono (by decide)) hgd (by rfl) (pa_cons (pv 3) pa_nil)) (pe_one (pe_chain op_le op_le pe_int (pv 3) (pe_glob (v := .int 1000000) rfl B.c_MAX_AMOUNT.choose_spec ⟨_, rfl⟩)))))) pa_nil)) (fun _ => rfl))) pss_never pss_nil)))))), fun vs Q => fn_pure (N := N_check_claim) (fun ds d h => ?_) (fun B S ds d h D hR hN => ?_) vs H Q E0⟩), hm, F.kp, F.binds fun _ _ _ _ _ _ us hl => match us, hl with | [_], _ => rfl⟩
  · obtain ⟨claim, rfl, h0, rfl⟩ := h; rfl
  · obtain ⟨claim, rfl, h0, rfl⟩ := h; simp
  · obtain ⟨claim, rfl, h0, rfl⟩ := h
    show Ss _ _ [.da ((eT (eT PyData.int)) claim), .no, .no, .no] _ _
    refine s_seq (s_skip (et_or (et_not (et_truB (ed_isi (ed_var rfl) (show kitB "tuple" "tuple" = some true by decide +kernel)))) (fun hb2 => (et_not (et_chain (ed_chain ed_int (ed_lenTX (ed_var rfl)) (fun hb1 => (ed_I0 ed_int ed_int))))))) (by have h1 := h0.1; have h2 := h0.2.1; simp; omega : ((!true) || (!(decide ((1 : Int) ≤ ((claim).length : Int)) && decide (((claim).length : Int) ≤ ((12 : Int) + (1 : Int)))))) = false) ?_)
    refine (s_forX ((claim).zipIdx) (fun p => Itm.soft [PyData.int (p.2 : Int), (eT PyData.int) p.1]) (ei_enumTX (ed_var rfl)) (fun i0 => [.da ((eT (eT PyData.int)) claim), .no, .no, .no]) (le_same (le_no (le_no (le_no le_nil)))) (fun T0 hT0 i0 x0 hx0 => ⟨_, [1, 2], (eg_soft (egs_cons (eg_name (by simp)) (egs_cons (eg_name (by simp)) egs_nil))), ?_⟩) ?_)
    · show Ss _ _ [.da ((eT (eT PyData.int)) claim), .da (PyData.int ((x0).2 : Int)), .da ((eT PyData.int) (x0).1), .no] _ _
      have hr := cl_row h0 hx0
      refine s_seq (s_skip (et_or (et_not (et_truB (ed_isi (ed_var rfl) (show kitB "tuple" "tuple" = some true by decide +kernel)))) (fun hb3 => (et_test (ed_neI (ed_lenTX (ed_var rfl)) (ed_I0 (ed_var rfl) ed_int))))) (by simp; omega : ((!true) || (!decide ((((x0).1).length : Int) = (((x0).2 : Int) + (1 : Int))))) = false) ?_)
      refine (s_skip (et_not (et_truB (ed_all (ed_L (el_lcAX (xs := (x0).1) (ea := fun x => Itm.hard (PyData.int x)) (enc := PyData.bool) (fb := fun (x4 : Int) => ((isIntD ((PyData.int x4))) && (decide ((0 : Int) ≤ x4) && decide (x4 ≤ (1000000 : Int))))) (ei_tupX (ed_var rfl)) (by have := h0.2.1; have := hr.1; have := hr.2.1; have := (en_get hx0).2.2; omega) (by simp) (fun _ _ x4 hx4 => ⟨_, rfl, (eg_name (by simp)), (ed_and (ed_call (ds := [(PyData.int x4)]) (ea_cons (ed_var rfl) ea_nil) ⟨(PyData.int x4), rfl, rfl⟩) (fun hb6 => (ed_chain ed_int (ed_var rfl) (fun hb5 => ed_int))))⟩)))))) (by rw [all_id (fun x hx => by have := hr.2.2 x hx; simp [isIntD, isi_int, isi_bool]; omega)]; rfl : (!(((((x0).1).map fun (x4 : Int) => ((isIntD ((PyData.int x4))) && (decide ((0 : Int) ≤ x4) && decide (x4 ≤ (1000000 : Int)))))).all id)) = false) ?_)
      exact s_end (le_same (le_no (le_no (le_no le_nil))))
    exact hN rfl _ _

/-! ### check_fair -/
abbrev s_check_fair : Stmt := topS 26
abbrev N_check_fair : List Str := ["market", "claim", "kind"]
theorem sc_check_fair : FnScope N_check_fair ["market", "claim", "kind"] (defScope s_check_fair) := ⟨rfl, rfl, rfl, by decide +kernel, rfl, by decide +kernel, by decide +kernel⟩
def R_check_fair : List PyData → PyData → Prop := fun ds d => ∃ (market : (Rat × Rat × Rat × Rat)) (claim : (List (List Int))) (kind : Str), ds = [((eP4 eQ eQ eQ eQ) market), ((eT (eT PyData.int)) claim), (PyData.str kind)] ∧ (MkOk market) ∧ (ClOk claim) ∧ (kind = Str.ofString "any" ∨ kind = Str.ofString "end") ∧ d = PyData.none
set_option maxHeartbeats 4000000 in
theorem ok_check_fair {P : Program} {w : World} {K : PySem.W.Frag} {mg : Str → Option Value} {base : Heap} (B : Gb mg) (F : Fd K mg "check_fair" s_check_fair) (C_check_claim : Cl P w K mg base 2 "check_claim" ["claim"] (SpP K R_check_claim)) (C_check_market : Cl P w K mg base 4 "check_market" ["market"] (SpP K R_check_market)) (C_judge_market : Cl P w K mg base 5 "judge_market" ["market"] (SpP K R_judge_market)) : Cl P w K mg base 6 "check_fair" ["market", "claim", "kind"] (SpP K R_check_fair) := by
  obtain ⟨f, fd, F, hm⟩ := F.ex
  refine ⟨f, fd, fnG_of (k := 5) F sc_check_fair (spP_len fun ds d h => ?_) (fun cdv A outer s H hr hgd => ⟨_, (pss_cons (ps_expr (pe_cl C_check_market (hr.mono (by decide)) hgd (by rfl) (pa_cons (pv 0) pa_nil))) (pss_cons (ps_expr (pe_cl C_check_claim (hr.mono (by decide)) hgd (by rfl) (pa_cons (pv 1) pa_nil))) (pss_cons (ps_if (PW.pt (pw_or (pt_not (pt_truth (pe_callB (r := rIsi K) call_isi (by rfl) B.isinstance_ boot_isinstance (pa_cons (pv 2) (pa_cons (pe_bltn (v := .ty "str") (u := .type "str") (by rfl) B.str_ (by decide +kernel) rfl) pa_nil))) (fun _ => rfl))) (pw_or1 (pt_cmpR (r := rIn K true) op_notIn_seq (pv 2) (pe_tupF (pa_cons pe_str (pa_cons pe_str pa_nil))) (by rfl))))) pss_never pss_nil) (pss_one (ps_if (pt_cmpR op_ne (pe_ix (r := rIxT K) ix_tup (pe_cl C_judge_market (hr.mono (by decide)) hgd (by rfl) (pa_cons (pv 0) pa_nil)) pe_int (fun _ _ => rfl)) pe_str (nomark _)) pss_never pss_nil))))), fun vs Q => fn_pure (N := N_check_fair) (fun ds d h => ?_) (fun B S ds d h D hR hN => ?_) vs H Q E0⟩), hm, F.kp, F.binds fun _ _ _ _ _ _ us hl => match us, hl with | [_, _, _], _ => rfl⟩
  · obtain ⟨market, claim, kind, rfl, h0, h1, h2, rfl⟩ := h; rfl
  · obtain ⟨market, claim, kind, rfl, h0, h1, h2, rfl⟩ := h; simp
  · obtain ⟨market, claim, kind, rfl, h0, h1, h2, rfl⟩ := h
    show Ss _ _ [.da ((eP4 eQ eQ eQ eQ) market), .da ((eT (eT PyData.int)) claim), .da (PyData.str kind)] _ _
    refine s_seq (s_drop (ed_call (ds := [((eP4 eQ eQ eQ eQ) market)]) (ea_cons (ed_var rfl) ea_nil) ⟨market, rfl, by assumption, rfl⟩) ?_)
    refine s_seq (s_drop (ed_call (ds := [((eT (eT PyData.int)) claim)]) (ea_cons (ed_var rfl) ea_nil) ⟨claim, rfl, by assumption, rfl⟩) ?_)
    refine s_seq (s_skip (et_or (et_not (et_truB (ed_isi (ed_var rfl) (show kitB "str" "str" = some true by decide +kernel)))) (fun hb1 => (et_test (ed_ninTS (ed_var rfl) (ed_tup (ds := [(PyData.str (Str.ofString "end")), (PyData.str (Str.ofString "any"))]) (ea_cons ed_str (ea_cons ed_str ea_nil))))))) (by rcases h2 with rfl | rfl <;> decide +kernel : ((!true) || (!decide (kind ∈ [(Str.ofString "end"), (Str.ofString "any")]))) = false) ?_)
    refine (s_skip (et_test (ed_neS (ed_ixT (ed_call (ds := [((eP4 eQ eQ eQ eQ) market)]) (ea_cons (ed_var rfl) ea_nil) ⟨market, rfl, by assumption, rfl⟩) ed_int rfl) ed_str)) (by simp : (!decide ((((Str.ofString "fair", share (market)))).1 = (Str.ofString "fair"))) = false) ?_)
    exact hN rfl _ _

/-! ### held -/
abbrev s_held : Stmt := topS 29
abbrev N_held : List Str := ["market", "chance", "high", "low", "price", "unused", "up", "down", "rate", "shares", "money"]
theorem sc_held : FnScope N_held ["market", "chance", "high", "low", "price"] (defScope s_held) := ⟨rfl, rfl, rfl, by decide +kernel, rfl, by decide +kernel, by decide +kernel⟩
def R_held : List PyData → PyData → Prop := fun ds d => ∃ (market : (Rat × Rat × Rat × Rat)) (chance : Rat) (high : Rat) (low : Rat) (price : Rat), ds = [((eP4 eQ eQ eQ eQ) market), (eQ chance), (eQ high), (eQ low), (eQ price)] ∧ (MkOk market) ∧ (0 < price ∧ Qk 260 price) ∧ (Hb high low) ∧ d = ((eP3 eQ eQ eQ) (heldF market high low price))
set_option maxHeartbeats 4000000 in
theorem ok_held {P : Program} {w : World} {K : PySem.W.Frag} {mg : Str → Option Value} {base : Heap} (B : Gb mg) (F : Fd K mg "held" s_held) (C_minus : Cl P w K mg base 3 "minus" ["first", "second"] (SpP K R_minus)) (C_over : Cl P w K mg base 3 "over" ["first", "second"] (SpP K R_over)) (C_plus : Cl P w K mg base 3 "plus" ["first", "second"] (SpP K R_plus)) (C_times : Cl P w K mg base 3 "times" ["first", "second"] (SpP K R_times)) : Cl P w K mg base 4 "held" ["market", "chance", "high", "low", "price"] (SpP K R_held) := by
  obtain ⟨f, fd, F, hm⟩ := F.ex
  refine ⟨f, fd, fnG_of (k := 3) F sc_held (spP_len fun ds d h => ?_) (fun cdv A outer s H hr hgd => ⟨_, (pss_cons (ps_asg (pv 0) (pg_tup rfl (pgs_cons (pg_name (i := 5) sc_held.nd rfl (Or.inl rfl)) (pgs_cons (pg_name (i := 6) sc_held.nd rfl (Or.inl rfl)) (pgs_cons (pg_name (i := 7) sc_held.nd rfl (Or.inl rfl)) (pgs_cons (pg_name (i := 8) sc_held.nd rfl (Or.inl rfl)) pgs_nil))))) rfl) (pss_cons (ps_set (i := 9) sc_held.nd rfl (Or.inl rfl) (pe_cl C_over (hr.mono (by decide)) hgd (by rfl) (pa_cons (pe_cl C_minus (hr.mono (by decide)) hgd (by rfl) (pa_cons (pv 2) (pa_cons (pv 3) pa_nil))) (pa_cons (pe_cl C_times (hr.mono (by decide)) hgd (by rfl) (pa_cons (pv 4) (pa_cons (pe_cl C_minus (hr.mono (by decide)) hgd (by rfl) (pa_cons (pv 6) (pa_cons (pv 7) pa_nil))) pa_nil))) pa_nil)))) (pss_cons (ps_set (i := 10) sc_held.nd rfl (Or.inl rfl) (pe_cl C_over (hr.mono (by decide)) hgd (by rfl) (pa_cons (pe_cl C_minus (hr.mono (by decide)) hgd (by rfl) (pa_cons (pv 2) (pa_cons (pe_cl C_times (hr.mono (by decide)) hgd (by rfl) (pa_cons (pv 9) (pa_cons (pe_cl C_times (hr.mono (by decide)) hgd (by rfl) (pa_cons (pv 4) (pa_cons (pv 6) pa_nil))) pa_nil))) pa_nil))) (pa_cons (pv 8) pa_nil)))) (pss_one (ps_ret (pe_tupF (pa_cons (pe_cl C_plus (hr.mono (by decide)) hgd (by rfl) (pa_cons (pe_cl C_times (hr.mono (by decide)) hgd (by rfl) (pa_cons (pv 9) (pa_cons (pv 4) pa_nil))) (pa_cons (pv 10) pa_nil))) (pa_cons (pv 9) (pa_cons (pv 10) pa_nil))))))))), fun vs Q => fn_pure (N := N_held) (fun ds d h => ?_) (fun B S ds d h D hR hN => ?_) vs H Q E0⟩), hm, F.kp, F.binds fun _ _ _ _ _ _ us hl => match us, hl with | [_, _, _, _, _], _ => rfl⟩
  · obtain ⟨market, chance, high, low, price, rfl, h0, h1, h2, rfl⟩ := h; rfl
  · obtain ⟨market, chance, high, low, price, rfl, h0, h1, h2, rfl⟩ := h; simp
  · obtain ⟨market, chance, high, low, price, rfl, h0, h1, h2, rfl⟩ := h
    have hg := mk_gap h0
    have hs := heldS_qk h0 h1 h2
    have hmo := heldM_qk h0 h1 h2
    have hq := h0.1
    have hpos := mk_pos h0
    show Ss _ _ [.da ((eP4 eQ eQ eQ eQ) market), .da (eQ chance), .da (eQ high), .da (eQ low), .da (eQ price), .no, .no, .no, .no, .no, .no] _ _
    refine s_seq (s_asgG (ws := [5, 6, 7, 8]) (ed_var rfl) (eg_tup (egs_cons (eg_name (by simp)) (egs_cons (eg_name (by simp)) (egs_cons (eg_name (by simp)) (egs_cons (eg_name (by simp)) egs_nil))))) (s_le (ρ1 := [.da ((eP4 eQ eQ eQ eQ) market), .da (eQ chance), .da (eQ high), .da (eQ low), .da (eQ price), .da (eQ (market).1), .da (eQ (market).2.1), .da (eQ (market).2.2.1), .da (eQ (market).2.2.2), .no, .no]) (le_rfl rfl) ?_))
    refine s_seq (s_asg (ed_call (ds := [(eQ ((high) - (low))), (eQ ((price) * ((((market).2.1) - ((market).2.2.1)))))]) (ea_cons (ed_call (ds := [(eQ high), (eQ low)]) (ea_cons (ed_var rfl) (ea_cons (ed_var rfl) ea_nil)) ⟨high, low, rfl, by exact h2.1.qb (by decide), by exact h2.2.1.qb (by decide), rfl⟩) (ea_cons (ed_call (ds := [(eQ price), (eQ (((market).2.1) - ((market).2.2.1)))]) (ea_cons (ed_var rfl) (ea_cons (ed_call (ds := [(eQ (market).2.1), (eQ (market).2.2.1)]) (ea_cons (ed_var rfl) (ea_cons (ed_var rfl) ea_nil)) ⟨(market).2.1, (market).2.2.1, rfl, by exact hq.2.1.qk.qb (by decide), by exact hq.2.2.1.qk.qb (by decide), rfl⟩) ea_nil)) ⟨price, (((market).2.1) - ((market).2.2.1)), rfl, by exact h1.2.qb (by decide), by exact (Qk_sub hq.2.1.qk hq.2.2.1.qk).qb (by decide), rfl⟩) ea_nil)) ⟨((high) - (low)), ((price) * ((((market).2.1) - ((market).2.2.1)))), rfl, by exact h2.2.2.qb (by decide), by exact (Qk_mul h1.2 (Qk_sub hq.2.1.qk hq.2.2.1.qk)).qb (by decide), by exact pos_ne (Rat.mul_pos h1.1 hg), rfl⟩) (s_le (ρ1 := [.da ((eP4 eQ eQ eQ eQ) market), .da (eQ chance), .da (eQ high), .da (eQ low), .da (eQ price), .da (eQ (market).1), .da (eQ (market).2.1), .da (eQ (market).2.2.1), .da (eQ (market).2.2.2), .da (eQ ((((high) - (low))) / (((price) * ((((market).2.1) - ((market).2.2.1))))))), .no]) (le_rfl rfl) ?_))
    refine s_seq (s_asg (ed_call (ds := [(eQ ((high) - (((((((high) - (low))) / (((price) * ((((market).2.1) - ((market).2.2.1))))))) * (((price) * ((market).2.1))))))), (eQ (market).2.2.2)]) (ea_cons (ed_call (ds := [(eQ high), (eQ ((((((high) - (low))) / (((price) * ((((market).2.1) - ((market).2.2.1))))))) * (((price) * ((market).2.1)))))]) (ea_cons (ed_var rfl) (ea_cons (ed_call (ds := [(eQ ((((high) - (low))) / (((price) * ((((market).2.1) - ((market).2.2.1))))))), (eQ ((price) * ((market).2.1)))]) (ea_cons (ed_var rfl) (ea_cons (ed_call (ds := [(eQ price), (eQ (market).2.1)]) (ea_cons (ed_var rfl) (ea_cons (ed_var rfl) ea_nil)) ⟨price, (market).2.1, rfl, by exact h1.2.qb (by decide), by exact hq.2.1.qk.qb (by decide), rfl⟩) ea_nil)) ⟨((((high) - (low))) / (((price) * ((((market).2.1) - ((market).2.2.1)))))), ((price) * ((market).2.1)), rfl, by exact hs.qb (by decide), by exact (Qk_mul h1.2 hq.2.1.qk).qb (by decide), rfl⟩) ea_nil)) ⟨high, ((((((high) - (low))) / (((price) * ((((market).2.1) - ((market).2.2.1))))))) * (((price) * ((market).2.1)))), rfl, by exact h2.1.qb (by decide), by exact (Qk_mul hs (Qk_mul h1.2 hq.2.1.qk)).qb (by decide), rfl⟩) (ea_cons (ed_var rfl) ea_nil)) ⟨((high) - (((((((high) - (low))) / (((price) * ((((market).2.1) - ((market).2.2.1))))))) * (((price) * ((market).2.1)))))), (market).2.2.2, rfl, by exact (Qk_sub h2.1 (Qk_mul hs (Qk_mul h1.2 hq.2.1.qk))).qb (by decide), by exact hq.2.2.2.qk.qb (by decide), by exact pos_ne hpos.2.2, rfl⟩) (s_le (ρ1 := [.da ((eP4 eQ eQ eQ eQ) market), .da (eQ chance), .da (eQ high), .da (eQ low), .da (eQ price), .da (eQ (market).1), .da (eQ (market).2.1), .da (eQ (market).2.2.1), .da (eQ (market).2.2.2), .da (eQ ((((high) - (low))) / (((price) * ((((market).2.1) - ((market).2.2.1))))))), .da (eQ ((((high) - (((((((high) - (low))) / (((price) * ((((market).2.1) - ((market).2.2.1))))))) * (((price) * ((market).2.1))))))) / ((market).2.2.2)))]) (le_rfl rfl) ?_))
    exact s_ret (ed_is (ed_tup (ds := [(eQ ((((((((high) - (low))) / (((price) * ((((market).2.1) - ((market).2.2.1))))))) * (price))) + (((((high) - (((((((high) - (low))) / (((price) * ((((market).2.1) - ((market).2.2.1))))))) * (((price) * ((market).2.1))))))) / ((market).2.2.2))))), (eQ ((((high) - (low))) / (((price) * ((((market).2.1) - ((market).2.2.1))))))), (eQ ((((high) - (((((((high) - (low))) / (((price) * ((((market).2.1) - ((market).2.2.1))))))) * (((price) * ((market).2.1))))))) / ((market).2.2.2)))]) (ea_cons (ed_call (ds := [(eQ ((((((high) - (low))) / (((price) * ((((market).2.1) - ((market).2.2.1))))))) * (price))), (eQ ((((high) - (((((((high) - (low))) / (((price) * ((((market).2.1) - ((market).2.2.1))))))) * (((price) * ((market).2.1))))))) / ((market).2.2.2)))]) (ea_cons (ed_call (ds := [(eQ ((((high) - (low))) / (((price) * ((((market).2.1) - ((market).2.2.1))))))), (eQ price)]) (ea_cons (ed_var rfl) (ea_cons (ed_var rfl) ea_nil)) ⟨((((high) - (low))) / (((price) * ((((market).2.1) - ((market).2.2.1)))))), price, rfl, by exact hs.qb (by decide), by exact h1.2.qb (by decide), rfl⟩) (ea_cons (ed_var rfl) ea_nil)) ⟨((((((high) - (low))) / (((price) * ((((market).2.1) - ((market).2.2.1))))))) * (price)), ((((high) - (((((((high) - (low))) / (((price) * ((((market).2.1) - ((market).2.2.1))))))) * (((price) * ((market).2.1))))))) / ((market).2.2.2)), rfl, by exact (Qk_mul hs h1.2).qb (by decide), by exact hmo.qb (by decide), rfl⟩) (ea_cons (ed_var rfl) (ea_cons (ed_var rfl) ea_nil)))) (by rfl : ((eP3 eQ eQ eQ) (((((((((high) - (low))) / (((price) * ((((market).2.1) - ((market).2.2.1))))))) * (price))) + (((((high) - (((((((high) - (low))) / (((price) * ((((market).2.1) - ((market).2.2.1))))))) * (((price) * ((market).2.1))))))) / ((market).2.2.2)))), ((((high) - (low))) / (((price) * ((((market).2.1) - ((market).2.2.1)))))), ((((high) - (((((((high) - (low))) / (((price) * ((((market).2.1) - ((market).2.2.1))))))) * (((price) * ((market).2.1))))))) / ((market).2.2.2)))) = ((eP3 eQ eQ eQ) (heldF market high low price)))) hR

/-! ### nodes_of -/
abbrev s_nodes_of : Stmt := topS 28
abbrev N_nodes_of : List Str := ["market", "claim", "kind", "chance", "rows", "part", "step", "later", "row", "ups"]
theorem sc_nodes_of : FnScope N_nodes_of ["market", "claim", "kind"] (defScope s_nodes_of) := ⟨rfl, rfl, rfl, by decide +kernel, rfl, by decide +kernel, by decide +kernel⟩
def R_nodes_of : List PyData → PyData → Prop := fun ds d => ∃ (market : (Rat × Rat × Rat × Rat)) (claim : (List (List Int))) (kind : Str), ds = [((eP4 eQ eQ eQ eQ) market), ((eT (eT PyData.int)) claim), (PyData.str kind)] ∧ (MkOk market) ∧ (ClOk claim) ∧ (kind = Str.ofString "any" ∨ kind = Str.ofString "end") ∧ d = ((eL (eL (eP3 eQ eQ eQ))) (nodesOf market kind claim))
set_option maxHeartbeats 4000000 in
theorem ok_nodes_of {P : Program} {w : World} {K : PySem.W.Frag} {mg : Str → Option Value} {base : Heap} (B : Gb mg) (F : Fd K mg "nodes_of" s_nodes_of) (C_held : Cl P w K mg base 4 "held" ["market", "chance", "high", "low", "price"] (SpP K R_held)) (C_is_less : Cl P w K mg base 1 "is_less" ["first", "second"] (SpP K R_is_less)) (C_judge_market : Cl P w K mg base 5 "judge_market" ["market"] (SpP K R_judge_market)) (C_node_price : Cl P w K mg base 5 "node_price" ["market", "step", "ups"] (SpP K R_node_price)) : Cl P w K mg base 6 "nodes_of" ["market", "claim", "kind"] (SpP K R_nodes_of) := by
  obtain ⟨f, fd, F, hm⟩ := F.ex
  refine ⟨f, fd, fnG_of (k := 5) F sc_nodes_of (spP_len fun ds d h => ?_) (fun cdv A outer s H hr hgd => ⟨_, (pss_cons (ps_set (i := 3) sc_nodes_of.nd rfl (Or.inl rfl) (pe_ix (r := rIxT K) ix_tup (pe_cl C_judge_market (hr.mono (by decide)) hgd (by rfl) (pa_cons (pv 0) pa_nil)) pe_int (fun _ _ => rfl))) (pss_cons (ps_set (i := 4) sc_nodes_of.nd rfl (Or.inl rfl) (pe_lst (pa_cons (pe_lc (own := [("part", 5)]) (g := _) (tt := tYes) rfl sc_nodes_of.nd (pi_tup (pe_ix (r := rIxT K) ix_tup (pv 1) (pe_un un_neg pe_int) (fun _ _ => rfl))) (blkOk_by (N := N_nodes_of) (sc := defScope s_nodes_of) (by decide +kernel)) (fun _ _ _ _ _ => (pg_name (i := 5) sc_nodes_of.nd rfl (by first | exact Or.inl rfl | exact Or.inr rfl))) (fun _ _ _ _ _ => pts_nil) (fun _ _ _ _ _ => (pe_tupF (pa_cons (pe_tupF (pa_cons (pv 5) (pa_cons pe_int pa_nil))) (pa_cons (pe_tupF (pa_cons pe_int (pa_cons pe_int pa_nil))) (pa_cons (pe_tupF (pa_cons pe_int (pa_cons pe_int pa_nil))) pa_nil)))))) pa_nil))) (pss_cons (ps_for PassesOwn.never rfl (pi_range3 (by rfl) B.range_ (pa_cons (pe_op op_sub (pe_callB (r := rLenS K) call_len_seq (by rfl) B.len_ PySem.boot_len (pa_cons (pv 1) pa_nil)) pe_int) (pa_cons (pe_un un_neg pe_int) (pa_cons (pe_un un_neg pe_int) pa_nil)))) (pg_name (i := 6) sc_nodes_of.nd rfl (Or.inl rfl)) (pss_cons (ps_set (i := 7) sc_nodes_of.nd rfl (Or.inl rfl) (pe_ix (r := rIxL K) ix_list (pv 4) (pe_un un_neg pe_int) (fun _ _ => rfl))) (pss_cons (ps_set (i := 8) sc_nodes_of.nd rfl (Or.inl rfl) (pe_lst pa_nil)) (pss_cons (ps_for PassesOwn.never rfl (pi_range1 (by rfl) B.range_ (pa_cons (pe_op op_add (pv 6) pe_int) pa_nil)) (pg_name (i := 9) sc_nodes_of.nd rfl (Or.inl rfl)) (pss_cons (ps_expr (pe_bm PySem.F.plainAttrs_list PySem.F.slot_list_append PySem.F.type_list_append mt_append (pv 8) (pa_cons (pe_cl C_held (hr.mono (by decide)) hgd (by rfl) (pa_cons (pv 0) (pa_cons (pv 3) (pa_cons (pe_ix (r := rIxT K) ix_tup (pe_ix (r := rIxL K) ix_list (pv 7) (pe_op op_add (pv 9) pe_int) (fun _ _ => rfl)) pe_int (fun _ _ => rfl)) (pa_cons (pe_ix (r := rIxT K) ix_tup (pe_ix (r := rIxL K) ix_list (pv 7) (pv 9) (fun _ _ => rfl)) pe_int (fun _ _ => rfl)) (pa_cons (pe_cl C_node_price (hr.mono (by decide)) hgd (by rfl) (pa_cons (pv 0) (pa_cons (pv 6) (pa_cons (pv 9) pa_nil)))) pa_nil)))))) pa_nil))) (pss_one (ps_if (PW.pt (pw_and (pt_cmpR op_eq (pv 2) pe_str (nomark _)) (pw_and1 (pt_truth (pe_cl C_is_less (hr.mono (by decide)) hgd (by rfl) (pa_cons (pe_ix (r := rIxT K) ix_tup (pe_ix (r := rIxL K) ix_list (pv 8) (pe_un un_neg pe_int) (fun _ _ => rfl)) pe_int (fun _ _ => rfl)) (pa_cons (pe_tupF (pa_cons (pe_ix (r := rIxT K) ix_tup (pe_ix (r := rIxT K) ix_tup (pv 1) (pv 6) (fun _ _ => rfl)) (pv 9) (fun _ _ => rfl)) (pa_cons pe_int pa_nil))) pa_nil))) (fun _ => rfl))))) (pss_one (ps_asg (pe_op (r := rCatF K) op_catF (pe_tupF (pa_cons (pe_tupF (pa_cons (pe_ix (r := rIxT K) ix_tup (pe_ix (r := rIxT K) ix_tup (pv 1) (pv 6) (fun _ _ => rfl)) (pv 9) (fun _ _ => rfl)) (pa_cons pe_int pa_nil))) pa_nil)) (pe_slice (r := rSlF K) sl_tupF (pe_ix (r := rIxL K) ix_list (pv 8) (pe_un un_neg pe_int) (fun _ _ => rfl)) (po_some pe_int) po_none)) (pg_sub (pv 8) (pe_un un_neg pe_int) set_list (fun _ => rfl)) rfl)) pss_nil)))) (pss_one (ps_expr (pe_bm PySem.F.plainAttrs_list PySem.F.slot_list_append PySem.F.type_list_append mt_append (pv 4) (pa_cons (pv 8) pa_nil)))))))) (pss_one (ps_ret (pe_revL (pv 4))))))), fun vs Q => fn_pure (N := N_nodes_of) (fun ds d h => ?_) (fun B S ds d h D hR hN => ?_) vs H Q E0⟩), hm, F.kp, F.binds fun _ _ _ _ _ _ us hl => match us, hl with | [_, _, _], _ => rfl⟩
  · obtain ⟨market, claim, kind, rfl, h0, h1, h2, rfl⟩ := h; rfl
  · obtain ⟨market, claim, kind, rfl, h0, h1, h2, rfl⟩ := h; simp
  · obtain ⟨market, claim, kind, rfl, h0, h1, h2, rfl⟩ := h
    have hl1 := h1.1
    have hl2 := h1.2.1
    show Ss _ _ [.da ((eP4 eQ eQ eQ eQ) market), .da ((eT (eT PyData.int)) claim), .da (PyData.str kind), .no, .no, .no, .no, .no, .no, .no] _ _
    refine s_seq (s_asg (ed_ixT (ed_call (ds := [((eP4 eQ eQ eQ eQ) market)]) (ea_cons (ed_var rfl) ea_nil) ⟨market, rfl, by assumption, rfl⟩) ed_int rfl) (s_le (ρ1 := [.da ((eP4 eQ eQ eQ eQ) market), .da ((eT (eT PyData.int)) claim), .da (PyData.str kind), .da (eQ ((((Str.ofString "fair", share (market)))).2)), .no, .no, .no, .no, .no, .no]) (le_rfl rfl) ?_))
    refine s_seq (s_asgM (ds := ([(((ixG claim (-1))).map fun (x1 : Int) => (((x1 : Int) : Rat), (0 : Rat), (0 : Rat)))]).map (eL (eP3 eQ eQ eQ))) (el_lst (ds := [(((ixG claim (-1))).map fun (x1 : Int) => (((x1 : Int) : Rat), (0 : Rat), (0 : Rat)))].map (eL (eP3 eQ eQ eQ))) (ea_cons (ed_L (el_lcAX (xs := (ixG claim (-1))) (ea := fun x => Itm.hard (PyData.int x)) (enc := (eP3 eQ eQ eQ)) (fb := fun (x1 : Int) => (((x1 : Int) : Rat), (0 : Rat), (0 : Rat))) (ei_tupX (ed_ixTX (f := (fun l : List Int => PyData.tuple (l.map PyData.int))) (l := claim) (ed_var rfl) (ed_neg ed_int) (by exact ⟨by omega, by omega⟩))) (by rw [ixG_neg (by omega), (cl_ix h1 (s := (claim.length : Int) - 1) (by omega)).1]; omega) (by simp) (fun _ _ x1 hx1 => ⟨_, rfl, (eg_name (by simp)), (ed_tup (ds := [(eQ ((x1 : Int) : Rat)), (eQ (0 : Rat)), (eQ (0 : Rat))]) (ea_cons (ed_is (d1 := eQ ((x1 : Int) : Rat)) (ed_tup (ds := [PyData.int x1, PyData.int (1 : Int)]) (ea_cons (ed_var rfl) (ea_cons ed_int ea_nil))) rfl) (ea_cons (ed_is (d1 := eQ (0 : Rat)) (ed_tup (ds := [PyData.int (0 : Int), PyData.int (1 : Int)]) (ea_cons ed_int (ea_cons ed_int ea_nil))) (by rfl)) (ea_cons (ed_is (d1 := eQ (0 : Rat)) (ed_tup (ds := [PyData.int (0 : Int), PyData.int (1 : Int)]) (ea_cons ed_int (ea_cons ed_int ea_nil))) (by rfl)) ea_nil))))⟩))) ea_nil)) (fun p_rows2 => s_le (ρ1 := [.da ((eP4 eQ eQ eQ eQ) market), .da ((eT (eT PyData.int)) claim), .da (PyData.str kind), .da (eQ ((((Str.ofString "fair", share (market)))).2)), .mu true p_rows2 (.lst ([(((ixG claim (-1))).map fun (x1 : Int) => (((x1 : Int) : Rat), (0 : Rat), (0 : Rat)))].map (eL (eP3 eQ eQ eQ)))), .no, .no, .no, .no, .no]) (le_rfl rfl) ?_))
    refine s_seq (s_forX ((rngDn (((claim).length : Int) - (2 : Int)) (-(1 : Int)))) (fun (i : Int) => Itm.hard (PyData.int i)) (ei_rngDn (ed_I0 (ed_lenTX (ed_var rfl)) ed_int) (ed_neg ed_int) (ed_neg ed_int) (by omega)) (fun i0 => [.da ((eP4 eQ eQ eQ eQ) market), .da ((eT (eT PyData.int)) claim), .da (PyData.str kind), .da (eQ ((((Str.ofString "fair", share (market)))).2)), .mu true p_rows2 (.lst ((rowsDn market kind claim (i0)).map (eL (eP3 eQ eQ eQ)))), .no, .no, .no, .no, .no]) (le_same (le_same (le_same (le_same (le_mu (congrArg MO.lst (by rfl)) (le_no (le_no (le_no (le_no (le_no le_nil)))))))))) (fun T0 hT0 i0 x0 hx0 => ⟨_, [6], (eg_name (by simp)), ?_⟩) ?_)
    · show Ss _ _ [.da ((eP4 eQ eQ eQ eQ) market), .da ((eT (eT PyData.int)) claim), .da (PyData.str kind), .da (eQ ((((Str.ofString "fair", share (market)))).2)), .mu true p_rows2 (.lst ((rowsDn market kind claim (i0)).map (eL (eP3 eQ eQ eQ)))), .no, .da (PyData.int x0), .no, .no, .no] _ _
      have hxr := rngDn_get hx0
      obtain ⟨hr1, hr2, hr3⟩ := rows_inv (kind := kind) h0 h1 i0 (by omega)
      have hcl := cl_ix h1 (s := x0) (by omega)
      refine s_seq (s_asg (ed_ixMX (f := (fun l : List (Rat × Rat × Rat) => PyData.list (l.map (eP3 eQ eQ eQ)))) (xs := (rowsDn market kind claim (i0))) (ed_neg ed_int) rfl ⟨_, _, rfl⟩ (by exact ⟨by omega, by omega⟩)) (s_le (ρ1 := [.da ((eP4 eQ eQ eQ eQ) market), .da ((eT (eT PyData.int)) claim), .da (PyData.str kind), .da (eQ ((((Str.ofString "fair", share (market)))).2)), .mu true p_rows2 (.lst ((rowsDn market kind claim (i0)).map (eL (eP3 eQ eQ eQ)))), .no, .da (PyData.int x0), .da ((eL (eP3 eQ eQ eQ)) (ixG (rowsDn market kind claim (i0)) (-1))), .no, .no]) (le_rfl rfl) ?_))
      refine s_seq (s_asgM (ds := ([]).map (eP3 eQ eQ eQ)) (el_lst (ds := [].map (eP3 eQ eQ eQ)) ea_nil) (fun p_row3 => s_le (ρ1 := [.da ((eP4 eQ eQ eQ eQ) market), .da ((eT (eT PyData.int)) claim), .da (PyData.str kind), .da (eQ ((((Str.ofString "fair", share (market)))).2)), .mu true p_rows2 (.lst ((rowsDn market kind claim (i0)).map (eL (eP3 eQ eQ eQ)))), .no, .da (PyData.int x0), .da ((eL (eP3 eQ eQ eQ)) (ixG (rowsDn market kind claim (i0)) (-1))), .mu true p_row3 (.lst ([].map (eP3 eQ eQ eQ))), .no]) (le_rfl rfl) ?_))
      refine s_seq (s_forX ((List.range ((x0 + (1 : Int))).toNat)) (fun (i : Nat) => Itm.hard (PyData.int (i : Int))) (ei_rng (ed_I0 (ed_var rfl) ed_int) (by omega)) (fun i1 => [.da ((eP4 eQ eQ eQ eQ) market), .da ((eT (eT PyData.int)) claim), .da (PyData.str kind), .da (eQ ((((Str.ofString "fair", share (market)))).2)), .mu true p_rows2 (.lst ((rowsDn market kind claim (i0)).map (eL (eP3 eQ eQ eQ)))), .no, .da (PyData.int x0), .da ((eL (eP3 eQ eQ eQ)) (ixG (rowsDn market kind claim (i0)) (-1))), .mu true p_row3 (.lst (((List.range (i1)).map (nodeStep market kind claim (ixG (rowsDn market kind claim i0) (-(1 : Int))) x0)).map (eP3 eQ eQ eQ))), .no]) (le_same (le_same (le_same (le_same (le_same (le_no (le_same (le_same (le_mu (congrArg MO.lst (by rfl)) (le_no le_nil)))))))))) (fun T1 hT1 i1 x1 hx1 => ⟨_, [9], (eg_name (by simp)), ?_⟩) ?_)
      · show Ss _ _ [.da ((eP4 eQ eQ eQ eQ) market), .da ((eT (eT PyData.int)) claim), .da (PyData.str kind), .da (eQ ((((Str.ofString "fair", share (market)))).2)), .mu true p_rows2 (.lst ((rowsDn market kind claim (i0)).map (eL (eP3 eQ eQ eQ)))), .no, .da (PyData.int x0), .da ((eL (eP3 eQ eQ eQ)) (ixG (rowsDn market kind claim (i0)) (-1))), .mu true p_row3 (.lst (((List.range (i1)).map (nodeStep market kind claim (ixG (rowsDn market kind claim i0) (-(1 : Int))) x0)).map (eP3 eQ eQ eQ))), .da (PyData.int (x1 : Int))] _ _
        have hlt1 := (rng_get hx1).2
        refine s_le (ρ1 := [.da ((eP4 eQ eQ eQ eQ) market), .da ((eT (eT PyData.int)) claim), .da (PyData.str kind), .da (eQ ((((Str.ofString "fair", share (market)))).2)), .mu true p_rows2 (.lst ((rowsDn market kind claim (i0)).map (eL (eP3 eQ eQ eQ)))), .no, .da (PyData.int x0), .da ((eL (eP3 eQ eQ eQ)) (ixG (rowsDn market kind claim (i0)) (-1))), .mu true p_row3 (.lst (((List.range (i1)).map (nodeStep market kind claim (ixG (rowsDn market kind claim i0) (-(1 : Int))) x0)).map (eP3 eQ eQ eQ))), .da (PyData.int (i1 : Int))]) (le_rfl (by rw [(rng_get hx1).1])) ?_
        have hp := nodeP_ok h0 (step := x0) (ups := (i1 : Int)) (by omega)
        have hn1 := hr3 _ (ixG_mem (l := ixG (rowsDn market kind claim i0) (-(1 : Int))) (i := (i1 : Int) + 1) (by omega))
        have hn2 := hr3 _ (ixG_mem (l := ixG (rowsDn market kind claim i0) (-(1 : Int))) (i := (i1 : Int)) (by omega))
        have hb := WB_hb h0 (by omega) hn1 hn2
        have hci := hcl.2 _ (ixG_mem (l := ixG claim x0) (i := (i1 : Int)) (by omega))
        have hw := WB_qk h0 (k := i0 + 1) (by omega) (held_wb h0 hp.1 hn1 hn2)
        refine s_seq (s_append (ed_call (ds := [((eP4 eQ eQ eQ eQ) market), (eQ ((((Str.ofString "fair", share (market)))).2)), (eQ (((ixG (ixG (rowsDn market kind claim (i0)) (-1)) ((i1 : Int) + (1 : Int)))).1)), (eQ (((ixG (ixG (rowsDn market kind claim (i0)) (-1)) (i1 : Int))).1)), (eQ (nodeP (market) (x0) ((i1 : Int))))]) (ea_cons (ed_var rfl) (ea_cons (ed_var rfl) (ea_cons (ed_ixT (ed_ixLX (f := (eP3 eQ eQ eQ)) (l := (ixG (rowsDn market kind claim (i0)) (-1))) (ed_var rfl) (ed_I0 (ed_var rfl) ed_int) (by first | exact ⟨by simp; omega, by simp; omega⟩ | exact inb (by omega) | exact inb (by rw [hcl.1]; omega))) ed_int rfl) (ea_cons (ed_ixT (ed_ixLX (f := (eP3 eQ eQ eQ)) (l := (ixG (rowsDn market kind claim (i0)) (-1))) (ed_var rfl) (ed_var rfl) (by first | exact ⟨by simp; omega, by simp; omega⟩ | exact inb (by omega) | exact inb (by rw [hcl.1]; omega))) ed_int rfl) (ea_cons (ed_call (ds := [((eP4 eQ eQ eQ eQ) market), (PyData.int x0), (PyData.int (i1 : Int))]) (ea_cons (ed_var rfl) (ea_cons (ed_var rfl) (ea_cons (ed_var rfl) ea_nil))) ⟨market, x0, (i1 : Int), rfl, by assumption, by omega, rfl⟩) ea_nil))))) ⟨market, (((Str.ofString "fair", share (market)))).2, ((ixG (ixG (rowsDn market kind claim (i0)) (-1)) ((i1 : Int) + (1 : Int)))).1, ((ixG (ixG (rowsDn market kind claim (i0)) (-1)) (i1 : Int))).1, (nodeP (market) (x0) ((i1 : Int))), rfl, by exact h0, by exact hp, by exact hb, rfl⟩) ⟨_, _, rfl⟩ rfl (by simp; omega) (s_le (ρ1 := [.da ((eP4 eQ eQ eQ eQ) market), .da ((eT (eT PyData.int)) claim), .da (PyData.str kind), .da (eQ ((((Str.ofString "fair", share (market)))).2)), .mu true p_rows2 (.lst ((rowsDn market kind claim (i0)).map (eL (eP3 eQ eQ eQ)))), .no, .da (PyData.int x0), .da ((eL (eP3 eQ eQ eQ)) (ixG (rowsDn market kind claim (i0)) (-1))), .mu true p_row3 (.lst ((((List.range (i1)).map (nodeStep market kind claim (ixG (rowsDn market kind claim i0) (-(1 : Int))) x0)) ++ [(heldF (market) (((ixG (ixG (rowsDn market kind claim (i0)) (-1)) ((i1 : Int) + (1 : Int)))).1) (((ixG (ixG (rowsDn market kind claim (i0)) (-1)) (i1 : Int))).1) ((nodeP (market) (x0) ((i1 : Int)))))]).map (eP3 eQ eQ eQ))), .da (PyData.int (i1 : Int))]) (le_same (le_same (le_same (le_same (le_same (le_same (le_same (le_same (le_mu (congrArg MO.lst (by simp)) (le_same le_nil)))))))))) ?_))
        refine (s_if (b := ((decide (kind = (Str.ofString "any"))) && (decide ((((ixG (((List.range (i1)).map (nodeStep market kind claim (ixG (rowsDn market kind claim i0) (-(1 : Int))) x0)) ++ [(heldF (market) (((ixG (ixG (rowsDn market kind claim (i0)) (-1)) ((i1 : Int) + (1 : Int)))).1) (((ixG (ixG (rowsDn market kind claim (i0)) (-1)) (i1 : Int))).1) ((nodeP (market) (x0) ((i1 : Int)))))]) (-1))).1) < qv (((ixG (ixG claim x0) (i1 : Int)), (1 : Int))))))) (et_and (et_test (ed_eqS (ed_var rfl) ed_str)) (fun hb4 => (et_truB (ed_is (ed_call (ds := [((eP PyData.int PyData.int) (qp (((ixG (((List.range (i1)).map (nodeStep market kind claim (ixG (rowsDn market kind claim i0) (-(1 : Int))) x0)) ++ [(heldF (market) (((ixG (ixG (rowsDn market kind claim (i0)) (-1)) ((i1 : Int) + (1 : Int)))).1) (((ixG (ixG (rowsDn market kind claim (i0)) (-1)) (i1 : Int))).1) ((nodeP (market) (x0) ((i1 : Int)))))]) (-1))).1))), ((eP PyData.int PyData.int) ((ixG (ixG claim x0) (i1 : Int)), (1 : Int)))]) (ea_cons (ed_is (ed_ixT (ed_ixMX (f := (eP3 eQ eQ eQ)) (xs := (((List.range (i1)).map (nodeStep market kind claim (ixG (rowsDn market kind claim i0) (-(1 : Int))) x0)) ++ [(heldF (market) (((ixG (ixG (rowsDn market kind claim (i0)) (-1)) ((i1 : Int) + (1 : Int)))).1) (((ixG (ixG (rowsDn market kind claim (i0)) (-1)) (i1 : Int))).1) ((nodeP (market) (x0) ((i1 : Int)))))])) (ed_neg ed_int) rfl ⟨_, _, rfl⟩ (by first | exact ⟨by simp; omega, by simp; omega⟩ | exact inb (by omega) | exact inb (by rw [hcl.1]; omega))) ed_int rfl) (rfl : _ = ((eP PyData.int PyData.int) (qp (((ixG (((List.range (i1)).map (nodeStep market kind claim (ixG (rowsDn market kind claim i0) (-(1 : Int))) x0)) ++ [(heldF (market) (((ixG (ixG (rowsDn market kind claim (i0)) (-1)) ((i1 : Int) + (1 : Int)))).1) (((ixG (ixG (rowsDn market kind claim (i0)) (-1)) (i1 : Int))).1) ((nodeP (market) (x0) ((i1 : Int)))))]) (-1))).1))))) (ea_cons (ed_tup (ds := [(PyData.int (ixG (ixG claim x0) (i1 : Int))), (PyData.int (1 : Int))]) (ea_cons (ed_ixTX (f := PyData.int) (l := (ixG claim x0)) (ed_ixTX (f := (fun l : List Int => PyData.tuple (l.map PyData.int))) (l := claim) (ed_var rfl) (ed_var rfl) (by first | exact ⟨by simp; omega, by simp; omega⟩ | exact inb (by omega) | exact inb (by rw [hcl.1]; omega))) (ed_var rfl) (by first | exact ⟨by simp; omega, by simp; omega⟩ | exact inb (by omega) | exact inb (by rw [hcl.1]; omega))) (ea_cons ed_int ea_nil))) ea_nil)) ⟨(qp (((ixG (((List.range (i1)).map (nodeStep market kind claim (ixG (rowsDn market kind claim i0) (-(1 : Int))) x0)) ++ [(heldF (market) (((ixG (ixG (rowsDn market kind claim (i0)) (-1)) ((i1 : Int) + (1 : Int)))).1) (((ixG (ixG (rowsDn market kind claim (i0)) (-1)) (i1 : Int))).1) ((nodeP (market) (x0) ((i1 : Int)))))]) (-1))).1)), ((ixG (ixG claim x0) (i1 : Int)), (1 : Int)), rfl, by exact den_pos _, by show (0 : Int) < 1; decide, by rw [ixG_snoc]; exact (hw.qb (by decide)).pb, by exact pb_small (by omega) (by decide) (by decide), rfl⟩) (by simp only [qv_qp] : _ = (PyData.bool (decide ((((ixG (((List.range (i1)).map (nodeStep market kind claim (ixG (rowsDn market kind claim i0) (-(1 : Int))) x0)) ++ [(heldF (market) (((ixG (ixG (rowsDn market kind claim (i0)) (-1)) ((i1 : Int) + (1 : Int)))).1) (((ixG (ixG (rowsDn market kind claim (i0)) (-1)) (i1 : Int))).1) ((nodeP (market) (x0) ((i1 : Int)))))]) (-1))).1) < qv (((ixG (ixG claim x0) (i1 : Int)), (1 : Int))))))))))) (fun hc0 => ?_) (fun hc0 => ?_))
        · refine (s_setLast (f := (eP3 eQ eQ eQ)) (xs := (((List.range (i1)).map (nodeStep market kind claim (ixG (rowsDn market kind claim i0) (-(1 : Int))) x0)) ++ [(heldF (market) (((ixG (ixG (rowsDn market kind claim (i0)) (-1)) ((i1 : Int) + (1 : Int)))).1) (((ixG (ixG (rowsDn market kind claim (i0)) (-1)) (i1 : Int))).1) ((nodeP (market) (x0) ((i1 : Int)))))])) (x := (((ixG (ixG claim x0) (i1 : Int) : Int) : Rat), (ixG (((List.range (i1)).map (nodeStep market kind claim (ixG (rowsDn market kind claim i0) (-(1 : Int))) x0)) ++ [(heldF (market) (((ixG (ixG (rowsDn market kind claim (i0)) (-1)) ((i1 : Int) + (1 : Int)))).1) (((ixG (ixG (rowsDn market kind claim (i0)) (-1)) (i1 : Int))).1) ((nodeP (market) (x0) ((i1 : Int)))))]) (-(1 : Int))).2.1, (ixG (((List.range (i1)).map (nodeStep market kind claim (ixG (rowsDn market kind claim i0) (-(1 : Int))) x0)) ++ [(heldF (market) (((ixG (ixG (rowsDn market kind claim (i0)) (-1)) ((i1 : Int) + (1 : Int)))).1) (((ixG (ixG (rowsDn market kind claim (i0)) (-1)) (i1 : Int))).1) ((nodeP (market) (x0) ((i1 : Int)))))]) (-(1 : Int))).2.2)) (ed_is (ed_catT (f := eQ) (l := [(((ixG (ixG claim x0) (i1 : Int)) : Int) : Rat)]) (m := (cutX [((ixG (((List.range (i1)).map (nodeStep market kind claim (ixG (rowsDn market kind claim i0) (-(1 : Int))) x0)) ++ [(heldF (market) (((ixG (ixG (rowsDn market kind claim (i0)) (-1)) ((i1 : Int) + (1 : Int)))).1) (((ixG (ixG (rowsDn market kind claim (i0)) (-1)) (i1 : Int))).1) ((nodeP (market) (x0) ((i1 : Int)))))]) (-1))).1, ((ixG (((List.range (i1)).map (nodeStep market kind claim (ixG (rowsDn market kind claim i0) (-(1 : Int))) x0)) ++ [(heldF (market) (((ixG (ixG (rowsDn market kind claim (i0)) (-1)) ((i1 : Int) + (1 : Int)))).1) (((ixG (ixG (rowsDn market kind claim (i0)) (-1)) (i1 : Int))).1) ((nodeP (market) (x0) ((i1 : Int)))))]) (-1))).2.1, ((ixG (((List.range (i1)).map (nodeStep market kind claim (ixG (rowsDn market kind claim i0) (-(1 : Int))) x0)) ++ [(heldF (market) (((ixG (ixG (rowsDn market kind claim (i0)) (-1)) ((i1 : Int) + (1 : Int)))).1) (((ixG (ixG (rowsDn market kind claim (i0)) (-1)) (i1 : Int))).1) ((nodeP (market) (x0) ((i1 : Int)))))]) (-1))).2.2] (some (1 : Int)) none)) (ed_tup (ds := [(eQ (((ixG (ixG claim x0) (i1 : Int)) : Int) : Rat))]) (ea_cons (ed_is (d1 := eQ (((ixG (ixG claim x0) (i1 : Int)) : Int) : Rat)) (ed_tup (ds := [PyData.int (ixG (ixG claim x0) (i1 : Int)), PyData.int (1 : Int)]) (ea_cons (ed_ixTX (f := PyData.int) (l := (ixG claim x0)) (ed_ixTX (f := (fun l : List Int => PyData.tuple (l.map PyData.int))) (l := claim) (ed_var rfl) (ed_var rfl) (by first | exact ⟨by simp; omega, by simp; omega⟩ | exact inb (by omega) | exact inb (by rw [hcl.1]; omega))) (ed_var rfl) (by first | exact ⟨by simp; omega, by simp; omega⟩ | exact inb (by omega) | exact inb (by rw [hcl.1]; omega))) (ea_cons ed_int ea_nil))) rfl) ea_nil)) (ed_sliceT (ed_is (ed_ixMX (f := (eP3 eQ eQ eQ)) (xs := (((List.range (i1)).map (nodeStep market kind claim (ixG (rowsDn market kind claim i0) (-(1 : Int))) x0)) ++ [(heldF (market) (((ixG (ixG (rowsDn market kind claim (i0)) (-1)) ((i1 : Int) + (1 : Int)))).1) (((ixG (ixG (rowsDn market kind claim (i0)) (-1)) (i1 : Int))).1) ((nodeP (market) (x0) ((i1 : Int)))))])) (ed_neg ed_int) rfl ⟨_, _, rfl⟩ (by first | exact ⟨by simp; omega, by simp; omega⟩ | exact inb (by omega) | exact inb (by rw [hcl.1]; omega))) (rfl : _ = ((eT eQ) [((ixG (((List.range (i1)).map (nodeStep market kind claim (ixG (rowsDn market kind claim i0) (-(1 : Int))) x0)) ++ [(heldF (market) (((ixG (ixG (rowsDn market kind claim (i0)) (-1)) ((i1 : Int) + (1 : Int)))).1) (((ixG (ixG (rowsDn market kind claim (i0)) (-1)) (i1 : Int))).1) ((nodeP (market) (x0) ((i1 : Int)))))]) (-1))).1, ((ixG (((List.range (i1)).map (nodeStep market kind claim (ixG (rowsDn market kind claim i0) (-(1 : Int))) x0)) ++ [(heldF (market) (((ixG (ixG (rowsDn market kind claim (i0)) (-1)) ((i1 : Int) + (1 : Int)))).1) (((ixG (ixG (rowsDn market kind claim (i0)) (-1)) (i1 : Int))).1) ((nodeP (market) (x0) ((i1 : Int)))))]) (-1))).2.1, ((ixG (((List.range (i1)).map (nodeStep market kind claim (ixG (rowsDn market kind claim i0) (-(1 : Int))) x0)) ++ [(heldF (market) (((ixG (ixG (rowsDn market kind claim (i0)) (-1)) ((i1 : Int) + (1 : Int)))).1) (((ixG (ixG (rowsDn market kind claim (i0)) (-1)) (i1 : Int))).1) ((nodeP (market) (x0) ((i1 : Int)))))]) (-1))).2.2]))) (eo_some ed_int) eo_no) (by show (1 + 2 : Nat) ≤ 100000; decide)) (by rfl : _ = ((eP3 eQ eQ eQ) (((ixG (ixG claim x0) (i1 : Int) : Int) : Rat), (ixG (((List.range (i1)).map (nodeStep market kind claim (ixG (rowsDn market kind claim i0) (-(1 : Int))) x0)) ++ [(heldF (market) (((ixG (ixG (rowsDn market kind claim (i0)) (-1)) ((i1 : Int) + (1 : Int)))).1) (((ixG (ixG (rowsDn market kind claim (i0)) (-1)) (i1 : Int))).1) ((nodeP (market) (x0) ((i1 : Int)))))]) (-(1 : Int))).2.1, (ixG (((List.range (i1)).map (nodeStep market kind claim (ixG (rowsDn market kind claim i0) (-(1 : Int))) x0)) ++ [(heldF (market) (((ixG (ixG (rowsDn market kind claim (i0)) (-1)) ((i1 : Int) + (1 : Int)))).1) (((ixG (ixG (rowsDn market kind claim (i0)) (-1)) (i1 : Int))).1) ((nodeP (market) (x0) ((i1 : Int)))))]) (-(1 : Int))).2.2)))) (ed_neg ed_int) ⟨_, _, rfl⟩ rfl (by exact ⟨rfl, by simp⟩) (s_le (ρ1 := [.da ((eP4 eQ eQ eQ eQ) market), .da ((eT (eT PyData.int)) claim), .da (PyData.str kind), .da (eQ ((((Str.ofString "fair", share (market)))).2)), .mu true p_rows2 (.lst ((rowsDn market kind claim (i0)).map (eL (eP3 eQ eQ eQ)))), .no, .da (PyData.int x0), .da ((eL (eP3 eQ eQ eQ)) (ixG (rowsDn market kind claim (i0)) (-1))), .mu true p_row3 (.lst (((((List.range (i1)).map (nodeStep market kind claim (ixG (rowsDn market kind claim i0) (-(1 : Int))) x0)) ++ [(heldF (market) (((ixG (ixG (rowsDn market kind claim (i0)) (-1)) ((i1 : Int) + (1 : Int)))).1) (((ixG (ixG (rowsDn market kind claim (i0)) (-1)) (i1 : Int))).1) ((nodeP (market) (x0) ((i1 : Int)))))]).set ((((List.range (i1)).map (nodeStep market kind claim (ixG (rowsDn market kind claim i0) (-(1 : Int))) x0)) ++ [(heldF (market) (((ixG (ixG (rowsDn market kind claim (i0)) (-1)) ((i1 : Int) + (1 : Int)))).1) (((ixG (ixG (rowsDn market kind claim (i0)) (-1)) (i1 : Int))).1) ((nodeP (market) (x0) ((i1 : Int)))))]).length - 1) (((ixG (ixG claim x0) (i1 : Int) : Int) : Rat), (ixG (((List.range (i1)).map (nodeStep market kind claim (ixG (rowsDn market kind claim i0) (-(1 : Int))) x0)) ++ [(heldF (market) (((ixG (ixG (rowsDn market kind claim (i0)) (-1)) ((i1 : Int) + (1 : Int)))).1) (((ixG (ixG (rowsDn market kind claim (i0)) (-1)) (i1 : Int))).1) ((nodeP (market) (x0) ((i1 : Int)))))]) (-(1 : Int))).2.1, (ixG (((List.range (i1)).map (nodeStep market kind claim (ixG (rowsDn market kind claim i0) (-(1 : Int))) x0)) ++ [(heldF (market) (((ixG (ixG (rowsDn market kind claim (i0)) (-1)) ((i1 : Int) + (1 : Int)))).1) (((ixG (ixG (rowsDn market kind claim (i0)) (-1)) (i1 : Int))).1) ((nodeP (market) (x0) ((i1 : Int)))))]) (-(1 : Int))).2.2)).map (eP3 eQ eQ eQ))), .da (PyData.int (i1 : Int))]) (le_same (le_same (le_same (le_same (le_same (le_same (le_same (le_same (le_mu (congrArg MO.lst (by simp)) (le_same le_nil)))))))))) ?_))
          exact s_end (le_same (le_same (le_same (le_same (le_same (le_no (le_same (le_same (le_mu (congrArg MO.lst (by first | exact congrArg (List.map (eP3 eQ eQ eQ)) (node_yes hc0 rfl) | exact congrArg (List.map (eP3 eQ eQ eQ)) (node_no hc0))) (le_no le_nil))))))))))
        · refine s_next ?_
          exact s_end (le_same (le_same (le_same (le_same (le_same (le_no (le_same (le_same (le_mu (congrArg MO.lst (by first | exact congrArg (List.map (eP3 eQ eQ eQ)) (node_yes hc0 rfl) | exact congrArg (List.map (eP3 eQ eQ eQ)) (node_no hc0))) (le_no le_nil))))))))))
      refine s_le (ρ1 := [.da ((eP4 eQ eQ eQ eQ) market), .da ((eT (eT PyData.int)) claim), .da (PyData.str kind), .da (eQ ((((Str.ofString "fair", share (market)))).2)), .mu true p_rows2 (.lst ((rowsDn market kind claim (i0)).map (eL (eP3 eQ eQ eQ)))), .no, .da (PyData.int x0), .da ((eL (eP3 eQ eQ eQ)) (ixG (rowsDn market kind claim (i0)) (-1))), .da ((eL (eP3 eQ eQ eQ)) ((List.range (((List.range ((x0 + (1 : Int))).toNat)).length)).map (nodeStep market kind claim (ixG (rowsDn market kind claim i0) (-(1 : Int))) x0))), .no]) (le_same (le_same (le_same (le_same (le_same (le_no (le_same (le_same (le_frz (le_no le_nil)))))))))) ?_
      refine (s_append (ed_var rfl) ⟨_, _, rfl⟩ rfl (by simp; omega) (s_le (ρ1 := [.da ((eP4 eQ eQ eQ eQ) market), .da ((eT (eT PyData.int)) claim), .da (PyData.str kind), .da (eQ ((((Str.ofString "fair", share (market)))).2)), .mu true p_rows2 (.lst (((rowsDn market kind claim (i0)) ++ [((List.range (((List.range ((x0 + (1 : Int))).toNat)).length)).map (nodeStep market kind claim (ixG (rowsDn market kind claim i0) (-(1 : Int))) x0))]).map (eL (eP3 eQ eQ eQ)))), .no, .da (PyData.int x0), .da ((eL (eP3 eQ eQ eQ)) (ixG (rowsDn market kind claim (i0)) (-1))), .da ((eL (eP3 eQ eQ eQ)) ((List.range (((List.range ((x0 + (1 : Int))).toNat)).length)).map (nodeStep market kind claim (ixG (rowsDn market kind claim i0) (-(1 : Int))) x0))), .no]) (le_same (le_same (le_same (le_same (le_mu (congrArg MO.lst (by simp)) (le_same (le_same (le_same (le_same (le_same le_nil)))))))))) ?_))
      exact s_end (le_same (le_same (le_same (le_same (le_mu (congrArg MO.lst (by exact congrArg (List.map (eL (eP3 eQ eQ eQ))) (rows_step hxr.1 (by rw [List.length_range])))) (le_no (le_no (le_no (le_no (le_no le_nil))))))))))
    refine s_le (ρ1 := [.da ((eP4 eQ eQ eQ eQ) market), .da ((eT (eT PyData.int)) claim), .da (PyData.str kind), .da (eQ ((((Str.ofString "fair", share (market)))).2)), .da ((eL (eL (eP3 eQ eQ eQ))) (rowsDn market kind claim (((rngDn (((claim).length : Int) - (2 : Int)) (-(1 : Int)))).length))), .no, .no, .no, .no, .no]) (le_same (le_same (le_same (le_same (le_frz (le_no (le_no (le_no (le_no (le_no le_nil)))))))))) ?_
    exact s_ret (ed_is (ed_L (el_revL (ed_var rfl))) (by rw [rngDn_len]; unfold nodesOf; rw [show ((claim.length : Int) - 2 - -1).toNat = claim.length - 1 by omega] : ((eL (eL (eP3 eQ eQ eQ))) (((rowsDn market kind claim (((rngDn (((claim).length : Int) - (2 : Int)) (-(1 : Int)))).length))).reverse)) = ((eL (eL (eP3 eQ eQ eQ))) (nodesOf market kind claim)))) hR

/-! ### worths -/
abbrev s_worths : Stmt := topS 27
abbrev N_worths : List Str := ["market", "claim", "kind", "node", "row"]
theorem sc_worths : FnScope N_worths ["market", "claim", "kind"] (defScope s_worths) := ⟨rfl, rfl, rfl, by decide +kernel, rfl, by decide +kernel, by decide +kernel⟩
def R_worths : List PyData → PyData → Prop := fun ds d => ∃ (market : (Rat × Rat × Rat × Rat)) (claim : (List (List Int))) (kind : Str), ds = [((eP4 eQ eQ eQ eQ) market), ((eT (eT PyData.int)) claim), (PyData.str kind)] ∧ (MkOk market) ∧ (ClOk claim) ∧ (kind = Str.ofString "any" ∨ kind = Str.ofString "end") ∧ d = ((eT (eT eQ)) (wOf market kind claim))
set_option maxHeartbeats 4000000 in
theorem ok_worths {P : Program} {w : World} {K : PySem.W.Frag} {mg : Str → Option Value} {base : Heap} (B : Gb mg) (F : Fd K mg "worths" s_worths) (C_check_fair : Cl P w K mg base 6 "check_fair" ["market", "claim", "kind"] (SpP K R_check_fair)) (C_nodes_of : Cl P w K mg base 6 "nodes_of" ["market", "claim", "kind"] (SpP K R_nodes_of)) : Cl P w K mg base 7 "worths" ["market", "claim", "kind"] (SpP K R_worths) := by
  obtain ⟨f, fd, F, hm⟩ := F.ex
  refine ⟨f, fd, fnG_of (k := 6) F sc_worths (spP_len fun ds d h => ?_) (fun cdv A outer s H hr hgd => ⟨_, (pss_cons (ps_expr (pe_cl C_check_fair (hr.mono (by decide)) hgd (by rfl) (pa_cons (pv 0) (pa_cons (pv 1) (pa_cons (pv 2) pa_nil))))) (pss_one (ps_ret (pe_callTy (r := rTupOf K) call_tupleF (by rfl) B.tuple_ PyProof.Rows.boot_tuple (pa_cons (pe_lc (own := [("row", 4)]) (g := _) (tt := tYes) rfl sc_worths.nd (pi_list (pe_cl C_nodes_of (hr.mono (by decide)) hgd (by rfl) (pa_cons (pv 0) (pa_cons (pv 1) (pa_cons (pv 2) pa_nil))))) (blkOk_by (N := N_worths) (sc := defScope s_worths) (by decide +kernel)) (fun _ _ _ _ _ => (pg_name (i := 4) sc_worths.nd rfl (by first | exact Or.inl rfl | exact Or.inr rfl))) (fun _ _ _ _ _ => pts_nil) (fun _ _ _ _ _ => (pe_callTy (r := rTupOf K) call_tupleF (by rfl) B.tuple_ PyProof.Rows.boot_tuple (pa_cons (pe_lc (own := [("node", 3)]) (g := _) (tt := tYes) rfl sc_worths.nd (pi_listK K (pv 4)) (blkOk_by rfl) (fun _ _ _ _ _ => (pg_name (i := 3) sc_worths.nd rfl (by first | exact Or.inl rfl | exact Or.inr rfl))) (fun _ _ _ _ _ => pts_nil) (fun _ _ _ _ _ => (pe_ix (r := rIxT K) ix_tup (pv 3) pe_int (fun _ _ => rfl)))) pa_nil)))) pa_nil))))), fun vs Q => fn_pure (N := N_worths) (fun ds d h => ?_) (fun B S ds d h D hR hN => ?_) vs H Q E0⟩), hm, F.kp, F.binds fun _ _ _ _ _ _ us hl => match us, hl with | [_, _, _], _ => rfl⟩
  · obtain ⟨market, claim, kind, rfl, h0, h1, h2, rfl⟩ := h; rfl
  · obtain ⟨market, claim, kind, rfl, h0, h1, h2, rfl⟩ := h; simp
  · obtain ⟨market, claim, kind, rfl, h0, h1, h2, rfl⟩ := h
    show Ss _ _ [.da ((eP4 eQ eQ eQ eQ) market), .da ((eT (eT PyData.int)) claim), .da (PyData.str kind), .no, .no] _ _
    refine s_seq (s_drop (ed_call (ds := [((eP4 eQ eQ eQ eQ) market), ((eT (eT PyData.int)) claim), (PyData.str kind)]) (ea_cons (ed_var rfl) (ea_cons (ed_var rfl) (ea_cons (ed_var rfl) ea_nil))) ⟨market, claim, kind, rfl, by assumption, by assumption, by assumption, rfl⟩) ?_)
    exact s_ret (ed_is (ed_tupleL (ed_L (el_lcAX (xs := (nodesOf (market) (kind) (claim))) (ea := fun x => Itm.hard ((eL (eP3 eQ eQ eQ)) x)) (enc := (fun l : List Rat => PyData.tuple (l.map eQ))) (fb := fun (x1 : (List (Rat × Rat × Rat))) => ((x1).map fun (x2 : (Rat × Rat × Rat)) => (x2).1)) (ei_listX (ed_call (ds := [((eP4 eQ eQ eQ eQ) market), ((eT (eT PyData.int)) claim), (PyData.str kind)]) (ea_cons (ed_var rfl) (ea_cons (ed_var rfl) (ea_cons (ed_var rfl) ea_nil))) ⟨market, claim, kind, rfl, by assumption, by assumption, by assumption, rfl⟩)) (by rw [nodes_len h0 h1]; have := h1.2.1; omega) (by simp) (fun _ _ x1 hx1 => ⟨_, rfl, (eg_name (by simp)), (ed_tupleL (ed_L (el_lcAX (xs := x1) (ea := fun x => Itm.hard ((eP3 eQ eQ eQ) x)) (enc := eQ) (fb := fun (x2 : (Rat × Rat × Rat)) => (x2).1) (ei_listX (ed_var rfl)) (by have := nodes_mem h0 h1 (by assumption); have := h1.2.1; omega) (by simp) (fun _ _ x2 hx2 => ⟨_, rfl, (eg_name (by simp)), (ed_ixT (ed_var rfl) ed_int rfl)⟩))))⟩)))) (by rfl : ((eT (eT eQ)) (((nodesOf (market) (kind) (claim))).map fun (x1 : (List (Rat × Rat × Rat))) => ((x1).map fun (x2 : (Rat × Rat × Rat)) => (x2).1))) = ((eT (eT eQ)) (wOf market kind claim)))) hR

/-! ### hedges -/
abbrev s_hedges : Stmt := topS 30
abbrev N_hedges : List Str := ["market", "claim", "kind", "row"]
theorem sc_hedges : FnScope N_hedges ["market", "claim", "kind"] (defScope s_hedges) := ⟨rfl, rfl, rfl, by decide +kernel, rfl, by decide +kernel, by decide +kernel⟩
def R_hedges : List PyData → PyData → Prop := fun ds d => ∃ (market : (Rat × Rat × Rat × Rat)) (claim : (List (List Int))) (kind : Str), ds = [((eP4 eQ eQ eQ eQ) market), ((eT (eT PyData.int)) claim), (PyData.str kind)] ∧ (MkOk market) ∧ (ClOk claim) ∧ (kind = Str.ofString "any" ∨ kind = Str.ofString "end") ∧ d = ((eT (eT (eP3 eQ eQ eQ))) (nodesOf market kind claim))
set_option maxHeartbeats 4000000 in
theorem ok_hedges {P : Program} {w : World} {K : PySem.W.Frag} {mg : Str → Option Value} {base : Heap} (B : Gb mg) (F : Fd K mg "hedges" s_hedges) (C_check_fair : Cl P w K mg base 6 "check_fair" ["market", "claim", "kind"] (SpP K R_check_fair)) (C_nodes_of : Cl P w K mg base 6 "nodes_of" ["market", "claim", "kind"] (SpP K R_nodes_of)) : Cl P w K mg base 7 "hedges" ["market", "claim", "kind"] (SpP K R_hedges) := by
  obtain ⟨f, fd, F, hm⟩ := F.ex
  refine ⟨f, fd, fnG_of (k := 6) F sc_hedges (spP_len fun ds d h => ?_) (fun cdv A outer s H hr hgd => ⟨_, (pss_cons (ps_expr (pe_cl C_check_fair (hr.mono (by decide)) hgd (by rfl) (pa_cons (pv 0) (pa_cons (pv 1) (pa_cons (pv 2) pa_nil))))) (pss_one (ps_ret (pe_callTy (r := rTupOf K) call_tupleF (by rfl) B.tuple_ PyProof.Rows.boot_tuple (pa_cons (pe_lc (own := [("row", 3)]) (g := _) (tt := tYes) rfl sc_hedges.nd (pi_list (pe_cl C_nodes_of (hr.mono (by decide)) hgd (by rfl) (pa_cons (pv 0) (pa_cons (pv 1) (pa_cons (pv 2) pa_nil))))) (blkOk_by (N := N_hedges) (sc := defScope s_hedges) (by decide +kernel)) (fun _ _ _ _ _ => (pg_name (i := 3) sc_hedges.nd rfl (by first | exact Or.inl rfl | exact Or.inr rfl))) (fun _ _ _ _ _ => pts_nil) (fun _ _ _ _ _ => (pe_callTy (r := rTupOf K) call_tupleF (by rfl) B.tuple_ PyProof.Rows.boot_tuple (pa_cons (pv 3) pa_nil)))) pa_nil))))), fun vs Q => fn_pure (N := N_hedges) (fun ds d h => ?_) (fun B S ds d h D hR hN => ?_) vs H Q E0⟩), hm, F.kp, F.binds fun _ _ _ _ _ _ us hl => match us, hl with | [_, _, _], _ => rfl⟩
  · obtain ⟨market, claim, kind, rfl, h0, h1, h2, rfl⟩ := h; rfl
  · obtain ⟨market, claim, kind, rfl, h0, h1, h2, rfl⟩ := h; simp
  · obtain ⟨market, claim, kind, rfl, h0, h1, h2, rfl⟩ := h
    show Ss _ _ [.da ((eP4 eQ eQ eQ eQ) market), .da ((eT (eT PyData.int)) claim), .da (PyData.str kind), .no] _ _
    refine s_seq (s_drop (ed_call (ds := [((eP4 eQ eQ eQ eQ) market), ((eT (eT PyData.int)) claim), (PyData.str kind)]) (ea_cons (ed_var rfl) (ea_cons (ed_var rfl) (ea_cons (ed_var rfl) ea_nil))) ⟨market, claim, kind, rfl, by assumption, by assumption, by assumption, rfl⟩) ?_)
    exact s_ret (ed_is (ed_tupleL (ed_L (el_lcAX (xs := (nodesOf (market) (kind) (claim))) (ea := fun x => Itm.hard ((eL (eP3 eQ eQ eQ)) x)) (enc := (fun l : List (Rat × Rat × Rat) => PyData.tuple (l.map (eP3 eQ eQ eQ)))) (fb := fun (x1 : (List (Rat × Rat × Rat))) => x1) (ei_listX (ed_call (ds := [((eP4 eQ eQ eQ eQ) market), ((eT (eT PyData.int)) claim), (PyData.str kind)]) (ea_cons (ed_var rfl) (ea_cons (ed_var rfl) (ea_cons (ed_var rfl) ea_nil))) ⟨market, claim, kind, rfl, by assumption, by assumption, by assumption, rfl⟩)) (by rw [nodes_len h0 h1]; have := h1.2.1; omega) (by simp) (fun _ _ x1 hx1 => ⟨_, rfl, (eg_name (by simp)), (ed_tupleL (ed_var rfl))⟩)))) (by simp : ((eT (eT (eP3 eQ eQ eQ))) (((nodesOf (market) (kind) (claim))).map fun (x1 : (List (Rat × Rat × Rat))) => x1)) = ((eT (eT (eP3 eQ eQ eQ))) (nodesOf market kind claim)))) hR

/-! ### is_node -/
abbrev s_is_node : Stmt := topS 31
abbrev N_is_node : List Str := ["value", "part"]
theorem sc_is_node : FnScope N_is_node ["value"] (defScope s_is_node) := ⟨rfl, rfl, rfl, by decide +kernel, rfl, by decide +kernel, by decide +kernel⟩
def R_is_node : List PyData → PyData → Prop := fun ds d => ∃ (value : (Rat × Rat × Rat)), ds = [((eP3 eQ eQ eQ) value)] ∧ d = (PyData.bool (true))
set_option maxHeartbeats 4000000 in
theorem ok_is_node {P : Program} {w : World} {K : PySem.W.Frag} {mg : Str → Option Value} {base : Heap} (B : Gb mg) (F : Fd K mg "is_node" s_is_node) (C_is_quotient : Cl P w K mg base 2 "is_quotient" ["value"] (SpP K R_is_quotient)) : Cl P w K mg base 3 "is_node" ["value"] (SpP K R_is_node) := by
  obtain ⟨f, fd, F, hm⟩ := F.ex
  refine ⟨f, fd, fnG_of (k := 2) F sc_is_node (spP_len fun ds d h => ?_) (fun cdv A outer s H hr hgd => ⟨_, (pss_one (ps_ret (pe_and (pe_callB (r := rIsi K) call_isi (by rfl) B.isinstance_ boot_isinstance (pa_cons (pv 0) (pa_cons (pe_bltn (v := .ty "tuple") (u := .type "tuple") (by rfl) B.tuple_ PyProof.Rows.boot_tuple rfl) pa_nil))) (pe_and (pe_cmpR (r := rEqD K) (op_eqD hr.units) (pe_callB (r := rLenS K) call_len_seq (by rfl) B.len_ PySem.boot_len (pa_cons (pv 0) pa_nil)) pe_int (nomark _)) (pe_one (pe_callB (r := rAll K) (cr_all rfl) (by rfl) B.all_ (by decide +kernel) (pa_cons (pe_lc (own := [("part", 1)]) (g := _) (tt := tYes) rfl sc_is_node.nd (pi_tup (pv 0)) (blkOk_by (N := N_is_node) (sc := defScope s_is_node) (by decide +kernel)) (fun _ _ _ _ _ => (pg_name (i := 1) sc_is_node.nd rfl (by first | exact Or.inl rfl | exact Or.inr rfl))) (fun _ _ _ _ _ => pts_nil) (fun _ _ _ _ _ => (pe_cl C_is_quotient (hr.mono (by decide)) hgd (by rfl) (pa_cons (pv 1) pa_nil)))) pa_nil))))))), fun vs Q => fn_pure (N := N_is_node) (fun ds d h => ?_) (fun B S ds d h D hR hN => ?_) vs H Q E0⟩), hm, F.kp, F.binds fun _ _ _ _ _ _ us hl => match us, hl with | [_], _ => rfl⟩
  · obtain ⟨value, rfl, rfl⟩ := h; rfl
  · obtain ⟨value, rfl, rfl⟩ := h; simp
  · obtain ⟨value, rfl, rfl⟩ := h
    show Ss _ _ [.da ((eP3 eQ eQ eQ) value), .no] _ _
    exact s_ret (ed_is (ed_and (ed_isi (ed_var rfl) (show kitB "tuple" "tuple" = some true by decide +kernel)) (fun hb3 => (ed_and (ed_eqI (ed_is (ed_lenT (ed_var rfl)) rfl) ed_int) (fun hb2 => (ed_all (ed_L (el_lcAX (xs := [(value).1, (value).2.1, (value).2.2]) (ea := fun x => Itm.hard (eQ x)) (enc := PyData.bool) (fb := fun (x1 : Rat) => (true)) (ei_tupX (ed_is (ed_var rfl) (rfl : _ = ((eT eQ) [(value).1, (value).2.1, (value).2.2])))) (by simp) (by simp) (fun _ _ x1 hx1 => ⟨_, rfl, (eg_name (by simp)), (ed_call (ds := [(eQ x1)]) (ea_cons (ed_var rfl) ea_nil) ⟨x1, rfl, rfl⟩)⟩)))))))) (by simp : (PyData.bool (true && ((decide ((3 : Int) = (3 : Int))) && (((([(value).1, (value).2.1, (value).2.2]).map fun (x1 : Rat) => (true))).all id)))) = (PyData.bool (true)))) hR

/-! ### check_node -/
abbrev s_check_node : Stmt := topS 33
abbrev N_check_node : List Str := ["market", "table", "step", "ups", "worth", "shares", "money", "price", "up", "down", "rate", "here", "factor", "later"]
theorem sc_check_node : FnScope N_check_node ["market", "table", "step", "ups"] (defScope s_check_node) := ⟨rfl, rfl, rfl, by decide +kernel, rfl, by decide +kernel, by decide +kernel⟩
def R_check_node : List PyData → PyData → Prop := fun ds d => ∃ (market : (Rat × Rat × Rat × Rat)) (table : (List (List (Rat × Rat × Rat)))) (step : Nat) (ups : Nat), ds = [((eP4 eQ eQ eQ eQ) market), ((eT (eT (eP3 eQ eQ eQ))) table), (eN step), (eN ups)] ∧ (MkOk market) ∧ (∃ n, TabOk n table ∧ step + 1 < n ∧ n ≤ 13) ∧ (ups ≤ step) ∧ (NodeOk market table step ups) ∧ d = PyData.none
set_option maxHeartbeats 4000000 in
theorem ok_check_node {P : Program} {w : World} {K : PySem.W.Frag} {mg : Str → Option Value} {base : Heap} (B : Gb mg) (F : Fd K mg "check_node" s_check_node) (C_is_less : Cl P w K mg base 1 "is_less" ["first", "second"] (SpP K R_is_less)) (C_node_price : Cl P w K mg base 5 "node_price" ["market", "step", "ups"] (SpP K R_node_price)) (C_plus : Cl P w K mg base 3 "plus" ["first", "second"] (SpP K R_plus)) (C_times : Cl P w K mg base 3 "times" ["first", "second"] (SpP K R_times)) : Cl P w K mg base 6 "check_node" ["market", "table", "step", "ups"] (SpP K R_check_node) := by
  obtain ⟨f, fd, F, hm⟩ := F.ex
  refine ⟨f, fd, fnG_of (k := 5) F sc_check_node (spP_len fun ds d h => ?_) (fun cdv A outer s H hr hgd => ⟨_, (pss_cons (ps_asg (pe_ix (r := rIxT K) ix_tup (pe_ix (r := rIxT K) ix_tup (pv 1) (pv 2) (fun _ _ => rfl)) (pv 3) (fun _ _ => rfl)) (pg_tup rfl (pgs_cons (pg_name (i := 4) sc_check_node.nd rfl (Or.inl rfl)) (pgs_cons (pg_name (i := 5) sc_check_node.nd rfl (Or.inl rfl)) (pgs_cons (pg_name (i := 6) sc_check_node.nd rfl (Or.inl rfl)) pgs_nil)))) rfl) (pss_cons (ps_asg (pv 0) (pg_tup rfl (pgs_cons (pg_name (i := 7) sc_check_node.nd rfl (Or.inl rfl)) (pgs_cons (pg_name (i := 8) sc_check_node.nd rfl (Or.inl rfl)) (pgs_cons (pg_name (i := 9) sc_check_node.nd rfl (Or.inl rfl)) (pgs_cons (pg_name (i := 10) sc_check_node.nd rfl (Or.inl rfl)) pgs_nil))))) rfl) (pss_cons (ps_set (i := 11) sc_check_node.nd rfl (Or.inl rfl) (pe_cl C_node_price (hr.mono (by decide)) hgd (by rfl) (pa_cons (pv 0) (pa_cons (pv 2) (pa_cons (pv 3) pa_nil))))) (pss_cons (ps_if (pt_truth (pe_cl C_is_less (hr.mono (by decide)) hgd (by rfl) (pa_cons (pv 4) (pa_cons (pe_cl C_plus (hr.mono (by decide)) hgd (by rfl) (pa_cons (pe_cl C_times (hr.mono (by decide)) hgd (by rfl) (pa_cons (pv 5) (pa_cons (pv 11) pa_nil))) (pa_cons (pv 6) pa_nil))) pa_nil))) (fun _ => rfl)) pss_never pss_nil) (pss_one (ps_for PassesOwn.never rfl (pi_tup (pe_tupF (pa_cons (pe_tupF (pa_cons (pv 8) (pa_cons (pe_op op_add (pv 3) pe_int) pa_nil))) (pa_cons (pe_tupF (pa_cons (pv 9) (pa_cons (pv 3) pa_nil))) pa_nil)))) (pg_tup rfl (pgs_cons (pg_name (i := 12) sc_check_node.nd rfl (Or.inl rfl)) (pgs_cons (pg_name (i := 13) sc_check_node.nd rfl (Or.inl rfl)) pgs_nil))) (pss_one (ps_if (pt_truth (pe_cl C_is_less (hr.mono (by decide)) hgd (by rfl) (pa_cons (pe_cl C_plus (hr.mono (by decide)) hgd (by rfl) (pa_cons (pe_cl C_times (hr.mono (by decide)) hgd (by rfl) (pa_cons (pv 5) (pa_cons (pe_cl C_times (hr.mono (by decide)) hgd (by rfl) (pa_cons (pv 11) (pa_cons (pv 12) pa_nil))) pa_nil))) (pa_cons (pe_cl C_times (hr.mono (by decide)) hgd (by rfl) (pa_cons (pv 6) (pa_cons (pv 10) pa_nil))) pa_nil))) (pa_cons (pe_ix (r := rIxT K) ix_tup (pe_ix (r := rIxT K) ix_tup (pe_ix (r := rIxT K) ix_tup (pv 1) (pe_op op_add (pv 2) pe_int) (fun _ _ => rfl)) (pv 13) (fun _ _ => rfl)) pe_int (fun _ _ => rfl)) pa_nil))) (fun _ => rfl)) pss_never pss_nil)))))))), fun vs Q => fn_pure (N := N_check_node) (fun ds d h => ?_) (fun B S ds d h D hR hN => ?_) vs H Q E0⟩), hm, F.kp, F.binds fun _ _ _ _ _ _ us hl => match us, hl with | [_, _, _, _], _ => rfl⟩
  · obtain ⟨market, table, step, ups, rfl, h0, h1, h2, h3, rfl⟩ := h; rfl
  · obtain ⟨market, table, step, ups, rfl, h0, h1, h2, h3, rfl⟩ := h; simp
  · obtain ⟨market, table, step, ups, rfl, h0, h1, h2, h3, rfl⟩ := h
    obtain ⟨n, ht, hs, hn⟩ := h1
    have hrow := (ht.2 step (by omega)).1
    have hsz := (ht.2 step (by omega)).2 ups h2
    have hrow2 := (ht.2 (step + 1) (by omega)).1
    have hP := nodeP_ok h0 (step := (step : Int)) (ups := (ups : Int)) (by omega)
    have hlen := ht.1
    have hpq := Qk_mul hsz.2.1 hP.2
    have hq := h0.1
    change Qk _ ((ixG (ixG table (step : Int)) (ups : Int)).2.1 * _) at hpq
    obtain ⟨hz1, hz2, hz3⟩ := hsz
    change Qk _ (ixG (ixG table (step : Int)) (ups : Int)).1 at hz1
    change Qk _ (ixG (ixG table (step : Int)) (ups : Int)).2.1 at hz2
    change Qk _ (ixG (ixG table (step : Int)) (ups : Int)).2.2 at hz3
    show Ss _ _ [.da ((eP4 eQ eQ eQ eQ) market), .da ((eT (eT (eP3 eQ eQ eQ))) table), .da (PyData.int (step : Int)), .da (PyData.int (ups : Int)), .no, .no, .no, .no, .no, .no, .no, .no, .no, .no] _ _
    refine s_seq (s_asgG (ws := [4, 5, 6]) (ed_ixTX (f := (eP3 eQ eQ eQ)) (l := (ixG table (step : Int))) (ed_ixTX (f := (fun l : List (Rat × Rat × Rat) => PyData.tuple (l.map (eP3 eQ eQ eQ)))) (l := table) (ed_var rfl) (ed_var rfl) (by exact inb (by omega))) (ed_var rfl) (by exact inb (by omega))) (eg_tup (egs_cons (eg_name (by simp)) (egs_cons (eg_name (by simp)) (egs_cons (eg_name (by simp)) egs_nil)))) (s_le (ρ1 := [.da ((eP4 eQ eQ eQ eQ) market), .da ((eT (eT (eP3 eQ eQ eQ))) table), .da (PyData.int (step : Int)), .da (PyData.int (ups : Int)), .da (eQ (((ixG (ixG table (step : Int)) (ups : Int))).1)), .da (eQ (((ixG (ixG table (step : Int)) (ups : Int))).2.1)), .da (eQ (((ixG (ixG table (step : Int)) (ups : Int))).2.2)), .no, .no, .no, .no, .no, .no, .no]) (le_rfl rfl) ?_))
    refine s_seq (s_asgG (ws := [7, 8, 9, 10]) (ed_var rfl) (eg_tup (egs_cons (eg_name (by simp)) (egs_cons (eg_name (by simp)) (egs_cons (eg_name (by simp)) (egs_cons (eg_name (by simp)) egs_nil))))) (s_le (ρ1 := [.da ((eP4 eQ eQ eQ eQ) market), .da ((eT (eT (eP3 eQ eQ eQ))) table), .da (PyData.int (step : Int)), .da (PyData.int (ups : Int)), .da (eQ (((ixG (ixG table (step : Int)) (ups : Int))).1)), .da (eQ (((ixG (ixG table (step : Int)) (ups : Int))).2.1)), .da (eQ (((ixG (ixG table (step : Int)) (ups : Int))).2.2)), .da (eQ (market).1), .da (eQ (market).2.1), .da (eQ (market).2.2.1), .da (eQ (market).2.2.2), .no, .no, .no]) (le_rfl rfl) ?_))
    refine s_seq (s_asg (ed_call (ds := [((eP4 eQ eQ eQ eQ) market), (PyData.int (step : Int)), (PyData.int (ups : Int))]) (ea_cons (ed_var rfl) (ea_cons (ed_var rfl) (ea_cons (ed_var rfl) ea_nil))) ⟨market, (step : Int), (ups : Int), rfl, by assumption, by omega, rfl⟩) (s_le (ρ1 := [.da ((eP4 eQ eQ eQ eQ) market), .da ((eT (eT (eP3 eQ eQ eQ))) table), .da (PyData.int (step : Int)), .da (PyData.int (ups : Int)), .da (eQ (((ixG (ixG table (step : Int)) (ups : Int))).1)), .da (eQ (((ixG (ixG table (step : Int)) (ups : Int))).2.1)), .da (eQ (((ixG (ixG table (step : Int)) (ups : Int))).2.2)), .da (eQ (market).1), .da (eQ (market).2.1), .da (eQ (market).2.2.1), .da (eQ (market).2.2.2), .da (eQ (nodeP (market) ((step : Int)) ((ups : Int)))), .no, .no]) (le_rfl rfl) ?_))
    refine s_seq (s_skip (et_truB (ed_is (ed_call (ds := [((eP PyData.int PyData.int) (qp (((ixG (ixG table (step : Int)) (ups : Int))).1))), ((eP PyData.int PyData.int) (qp ((((((ixG (ixG table (step : Int)) (ups : Int))).2.1) * ((nodeP (market) ((step : Int)) ((ups : Int)))))) + (((ixG (ixG table (step : Int)) (ups : Int))).2.2))))]) (ea_cons (ed_is (ed_var rfl) (rfl : _ = ((eP PyData.int PyData.int) (qp (((ixG (ixG table (step : Int)) (ups : Int))).1))))) (ea_cons (ed_is (ed_call (ds := [(eQ ((((ixG (ixG table (step : Int)) (ups : Int))).2.1) * ((nodeP (market) ((step : Int)) ((ups : Int)))))), (eQ (((ixG (ixG table (step : Int)) (ups : Int))).2.2))]) (ea_cons (ed_call (ds := [(eQ (((ixG (ixG table (step : Int)) (ups : Int))).2.1)), (eQ (nodeP (market) ((step : Int)) ((ups : Int))))]) (ea_cons (ed_var rfl) (ea_cons (ed_var rfl) ea_nil)) ⟨((ixG (ixG table (step : Int)) (ups : Int))).2.1, (nodeP (market) ((step : Int)) ((ups : Int))), rfl, by exact hz2.qb (by decide), by exact hP.2.qb (by decide), rfl⟩) (ea_cons (ed_var rfl) ea_nil)) ⟨((((ixG (ixG table (step : Int)) (ups : Int))).2.1) * ((nodeP (market) ((step : Int)) ((ups : Int))))), ((ixG (ixG table (step : Int)) (ups : Int))).2.2, rfl, by exact hpq.qb (by decide), by exact hz3.qb (by decide), rfl⟩) (rfl : _ = ((eP PyData.int PyData.int) (qp ((((((ixG (ixG table (step : Int)) (ups : Int))).2.1) * ((nodeP (market) ((step : Int)) ((ups : Int)))))) + (((ixG (ixG table (step : Int)) (ups : Int))).2.2)))))) ea_nil)) ⟨(qp (((ixG (ixG table (step : Int)) (ups : Int))).1)), (qp ((((((ixG (ixG table (step : Int)) (ups : Int))).2.1) * ((nodeP (market) ((step : Int)) ((ups : Int)))))) + (((ixG (ixG table (step : Int)) (ups : Int))).2.2))), rfl, by exact den_pos _, by exact den_pos _, by exact (hz1.qb (by decide)).pb, by exact ((Qk_add hpq hz3).qb (by decide)).pb, rfl⟩) (by simp only [qv_qp] : _ = (PyData.bool (decide ((((ixG (ixG table (step : Int)) (ups : Int))).1) < ((((((ixG (ixG table (step : Int)) (ups : Int))).2.1) * ((nodeP (market) ((step : Int)) ((ups : Int)))))) + (((ixG (ixG table (step : Int)) (ups : Int))).2.2)))))))) (by exact nlt h3.1 : (decide ((((ixG (ixG table (step : Int)) (ups : Int))).1) < ((((((ixG (ixG table (step : Int)) (ups : Int))).2.1) * ((nodeP (market) ((step : Int)) ((ups : Int)))))) + (((ixG (ixG table (step : Int)) (ups : Int))).2.2)))) = false) ?_)
    refine (s_forX ([((((market).2.1, ((ups : Int) + (1 : Int))), ((market).2.2.1, (ups : Int)))).1, ((((market).2.1, ((ups : Int) + (1 : Int))), ((market).2.2.1, (ups : Int)))).2]) (fun x => Itm.hard ((eP eQ PyData.int) x)) (ei_tupX (ed_is (ed_tup (ds := [((eP eQ PyData.int) ((market).2.1, ((ups : Int) + (1 : Int)))), ((eP eQ PyData.int) ((market).2.2.1, (ups : Int)))]) (ea_cons (ed_tup (ds := [(eQ (market).2.1), (PyData.int ((ups : Int) + (1 : Int)))]) (ea_cons (ed_var rfl) (ea_cons (ed_I0 (ed_var rfl) ed_int) ea_nil))) (ea_cons (ed_tup (ds := [(eQ (market).2.2.1), (PyData.int (ups : Int))]) (ea_cons (ed_var rfl) (ea_cons (ed_var rfl) ea_nil))) ea_nil))) (rfl : _ = ((eT (eP eQ PyData.int)) [((((market).2.1, ((ups : Int) + (1 : Int))), ((market).2.2.1, (ups : Int)))).1, ((((market).2.1, ((ups : Int) + (1 : Int))), ((market).2.2.1, (ups : Int)))).2])))) (fun i0 => [.da ((eP4 eQ eQ eQ eQ) market), .da ((eT (eT (eP3 eQ eQ eQ))) table), .da (PyData.int (step : Int)), .da (PyData.int (ups : Int)), .da (eQ (((ixG (ixG table (step : Int)) (ups : Int))).1)), .da (eQ (((ixG (ixG table (step : Int)) (ups : Int))).2.1)), .da (eQ (((ixG (ixG table (step : Int)) (ups : Int))).2.2)), .da (eQ (market).1), .da (eQ (market).2.1), .da (eQ (market).2.2.1), .da (eQ (market).2.2.2), .da (eQ (nodeP (market) ((step : Int)) ((ups : Int)))), .no, .no]) (le_same (le_same (le_same (le_same (le_same (le_same (le_same (le_same (le_same (le_same (le_same (le_same (le_no (le_no le_nil)))))))))))))) (fun T0 hT0 i0 x0 hx0 => ⟨_, [12, 13], (eg_tup (egs_cons (eg_name (by simp)) (egs_cons (eg_name (by simp)) egs_nil))), ?_⟩) ?_)
    · show Ss _ _ [.da ((eP4 eQ eQ eQ eQ) market), .da ((eT (eT (eP3 eQ eQ eQ))) table), .da (PyData.int (step : Int)), .da (PyData.int (ups : Int)), .da (eQ (((ixG (ixG table (step : Int)) (ups : Int))).1)), .da (eQ (((ixG (ixG table (step : Int)) (ups : Int))).2.1)), .da (eQ (((ixG (ixG table (step : Int)) (ups : Int))).2.2)), .da (eQ (market).1), .da (eQ (market).2.1), .da (eQ (market).2.2.1), .da (eQ (market).2.2.2), .da (eQ (nodeP (market) ((step : Int)) ((ups : Int)))), .da (eQ (x0).1), .da (PyData.int (x0).2)] _ _
      have hf := pair_of (List.mem_of_getElem? hx0)
      have hlt : 0 ≤ x0.2 ∧ x0.2 ≤ (step : Int) + 1 := by rcases hf with e | e <;> rw [e] <;> dsimp only <;> omega
      have hfq : Qk 10 x0.1 := by rcases hf with e | e <;> rw [e]; exact hq.2.1.qk; exact hq.2.2.1.qk
      have hsl := (ht.2 (step + 1) (by omega)).2 x0.2.toNat (by omega)
      unfold ndA at hsl
      rw [show ((step + 1 : Nat) : Int) = (step : Int) + 1 by omega, show ((x0.2.toNat : Nat) : Int) = x0.2 by omega] at hsl
      refine (s_skip (et_truB (ed_is (ed_call (ds := [((eP PyData.int PyData.int) (qp ((((((ixG (ixG table (step : Int)) (ups : Int))).2.1) * ((((nodeP (market) ((step : Int)) ((ups : Int)))) * ((x0).1))))) + (((((ixG (ixG table (step : Int)) (ups : Int))).2.2) * ((market).2.2.2)))))), ((eP PyData.int PyData.int) (qp (((ixG (ixG table ((step : Int) + (1 : Int))) (x0).2)).1)))]) (ea_cons (ed_is (ed_call (ds := [(eQ ((((ixG (ixG table (step : Int)) (ups : Int))).2.1) * ((((nodeP (market) ((step : Int)) ((ups : Int)))) * ((x0).1))))), (eQ ((((ixG (ixG table (step : Int)) (ups : Int))).2.2) * ((market).2.2.2)))]) (ea_cons (ed_call (ds := [(eQ (((ixG (ixG table (step : Int)) (ups : Int))).2.1)), (eQ (((nodeP (market) ((step : Int)) ((ups : Int)))) * ((x0).1)))]) (ea_cons (ed_var rfl) (ea_cons (ed_call (ds := [(eQ (nodeP (market) ((step : Int)) ((ups : Int)))), (eQ (x0).1)]) (ea_cons (ed_var rfl) (ea_cons (ed_var rfl) ea_nil)) ⟨(nodeP (market) ((step : Int)) ((ups : Int))), (x0).1, rfl, by exact hP.2.qb (by decide), by exact hfq.qb (by decide), rfl⟩) ea_nil)) ⟨((ixG (ixG table (step : Int)) (ups : Int))).2.1, (((nodeP (market) ((step : Int)) ((ups : Int)))) * ((x0).1)), rfl, by exact hz2.qb (by decide), by exact (Qk_mul hP.2 hfq).qb (by decide), rfl⟩) (ea_cons (ed_call (ds := [(eQ (((ixG (ixG table (step : Int)) (ups : Int))).2.2)), (eQ (market).2.2.2)]) (ea_cons (ed_var rfl) (ea_cons (ed_var rfl) ea_nil)) ⟨((ixG (ixG table (step : Int)) (ups : Int))).2.2, (market).2.2.2, rfl, by exact hz3.qb (by decide), by exact hq.2.2.2.qk.qb (by decide), rfl⟩) ea_nil)) ⟨((((ixG (ixG table (step : Int)) (ups : Int))).2.1) * ((((nodeP (market) ((step : Int)) ((ups : Int)))) * ((x0).1)))), ((((ixG (ixG table (step : Int)) (ups : Int))).2.2) * ((market).2.2.2)), rfl, by exact (Qk_mul hz2 (Qk_mul hP.2 hfq)).qb (by decide), by exact (Qk_mul hz3 hq.2.2.2.qk).qb (by decide), rfl⟩) (rfl : _ = ((eP PyData.int PyData.int) (qp ((((((ixG (ixG table (step : Int)) (ups : Int))).2.1) * ((((nodeP (market) ((step : Int)) ((ups : Int)))) * ((x0).1))))) + (((((ixG (ixG table (step : Int)) (ups : Int))).2.2) * ((market).2.2.2)))))))) (ea_cons (ed_is (ed_ixT (ed_ixTX (f := (eP3 eQ eQ eQ)) (l := (ixG table ((step : Int) + (1 : Int)))) (ed_ixTX (f := (fun l : List (Rat × Rat × Rat) => PyData.tuple (l.map (eP3 eQ eQ eQ)))) (l := table) (ed_var rfl) (ed_I0 (ed_var rfl) ed_int) (by exact inb (by omega))) (ed_var rfl) (by exact inb (by rw [show (step : Int) + 1 = ((step + 1 : Nat) : Int) by omega, hrow2]; omega))) ed_int rfl) (rfl : _ = ((eP PyData.int PyData.int) (qp (((ixG (ixG table ((step : Int) + (1 : Int))) (x0).2)).1))))) ea_nil)) ⟨(qp ((((((ixG (ixG table (step : Int)) (ups : Int))).2.1) * ((((nodeP (market) ((step : Int)) ((ups : Int)))) * ((x0).1))))) + (((((ixG (ixG table (step : Int)) (ups : Int))).2.2) * ((market).2.2.2))))), (qp (((ixG (ixG table ((step : Int) + (1 : Int))) (x0).2)).1)), rfl, by exact den_pos _, by exact den_pos _, by exact ((Qk_add (Qk_mul hz2 (Qk_mul hP.2 hfq)) (Qk_mul hz3 hq.2.2.2.qk)).qb (by decide)).pb, by exact (hsl.1.qb (by decide)).pb, rfl⟩) (by simp only [qv_qp] : _ = (PyData.bool (decide (((((((ixG (ixG table (step : Int)) (ups : Int))).2.1) * ((((nodeP (market) ((step : Int)) ((ups : Int)))) * ((x0).1))))) + (((((ixG (ixG table (step : Int)) (ups : Int))).2.2) * ((market).2.2.2)))) < (((ixG (ixG table ((step : Int) + (1 : Int))) (x0).2)).1))))))) (by rcases hf with e | e <;> rw [e]; exact nlt h3.2.1; exact nlt h3.2.2 : (decide (((((((ixG (ixG table (step : Int)) (ups : Int))).2.1) * ((((nodeP (market) ((step : Int)) ((ups : Int)))) * ((x0).1))))) + (((((ixG (ixG table (step : Int)) (ups : Int))).2.2) * ((market).2.2.2)))) < (((ixG (ixG table ((step : Int) + (1 : Int))) (x0).2)).1))) = false) ?_)
      exact s_end (le_same (le_same (le_same (le_same (le_same (le_same (le_same (le_same (le_same (le_same (le_same (le_same (le_no (le_no le_nil))))))))))))))
    exact hN rfl _ _

/-! ### accept_hedges -/
abbrev s_accept_hedges : Stmt := topS 32
abbrev N_accept_hedges : List Str := ["market", "claim", "kind", "table", "step", "row", "node", "ups", "worth", "shares", "money", "due"]
theorem sc_accept_hedges : FnScope N_accept_hedges ["market", "claim", "kind", "table"] (defScope s_accept_hedges) := ⟨rfl, rfl, rfl, by decide +kernel, rfl, by decide +kernel, by decide +kernel⟩
def R_accept_hedges : List PyData → PyData → Prop := fun ds d => ∃ (market : (Rat × Rat × Rat × Rat)) (claim : (List (List Int))) (kind : Str) (table : (List (List (Rat × Rat × Rat)))), ds = [((eP4 eQ eQ eQ eQ) market), ((eT (eT PyData.int)) claim), (PyData.str kind), ((eT (eT (eP3 eQ eQ eQ))) table)] ∧ (MkOk market) ∧ (ClOk claim) ∧ (kind = anyS) ∧ (TabOk claim.length table) ∧ (∀ s j : Nat, s < claim.length → j ≤ s → cellQ claim s j ≤ (ndA table s j).1) ∧ (∀ s j : Nat, s + 1 < claim.length → j ≤ s → NodeOk market table s j) ∧ d = PyData.none
set_option maxHeartbeats 4000000 in
theorem ok_accept_hedges {P : Program} {w : World} {K : PySem.W.Frag} {mg : Str → Option Value} {base : Heap} (B : Gb mg) (F : Fd K mg "accept_hedges" s_accept_hedges) (C_check_claim : Cl P w K mg base 2 "check_claim" ["claim"] (SpP K R_check_claim)) (C_check_market : Cl P w K mg base 4 "check_market" ["market"] (SpP K R_check_market)) (C_check_node : Cl P w K mg base 6 "check_node" ["market", "table", "step", "ups"] (SpP K R_check_node)) (C_is_less : Cl P w K mg base 1 "is_less" ["first", "second"] (SpP K R_is_less)) (C_is_node : Cl P w K mg base 3 "is_node" ["value"] (SpP K R_is_node)) : Cl P w K mg base 7 "accept_hedges" ["market", "claim", "kind", "table"] (SpP K R_accept_hedges) := by
  obtain ⟨f, fd, F, hm⟩ := F.ex
  refine ⟨f, fd, fnG_of (k := 6) F sc_accept_hedges (spP_len fun ds d h => ?_) (fun cdv A outer s H hr hgd => ⟨_, (pss_cons (ps_expr (pe_cl C_check_market (hr.mono (by decide)) hgd (by rfl) (pa_cons (pv 0) pa_nil))) (pss_cons (ps_expr (pe_cl C_check_claim (hr.mono (by decide)) hgd (by rfl) (pa_cons (pv 1) pa_nil))) (pss_cons (ps_if (PW.pt (pw_or (pt_not (pt_truth (pe_callB (r := rIsi K) call_isi (by rfl) B.isinstance_ boot_isinstance (pa_cons (pv 2) (pa_cons (pe_bltn (v := .ty "str") (u := .type "str") (by rfl) B.str_ (by decide +kernel) rfl) pa_nil))) (fun _ => rfl))) (pw_or1 (pt_cmpR (r := rIn K true) op_notIn_seq (pv 2) (pe_tupF (pa_cons pe_str (pa_cons pe_str pa_nil))) (by rfl))))) pss_never pss_nil) (pss_cons (ps_if (PW.pt (pw_or (pt_not (pt_truth (pe_callB (r := rIsi K) call_isi (by rfl) B.isinstance_ boot_isinstance (pa_cons (pv 3) (pa_cons (pe_bltn (v := .ty "tuple") (u := .type "tuple") (by rfl) B.tuple_ PyProof.Rows.boot_tuple rfl) pa_nil))) (fun _ => rfl))) (pw_or1 (pt_cmpR (r := rNeD K) (op_neD hr.units) (pe_callB (r := rLenS K) call_len_seq (by rfl) B.len_ PySem.boot_len (pa_cons (pv 3) pa_nil)) (pe_callB (r := rLenS K) call_len_seq (by rfl) B.len_ PySem.boot_len (pa_cons (pv 1) pa_nil)) (nomark _))))) pss_never pss_nil) (pss_cons (ps_for PassesOwn.never rfl (pi_enumT (by rfl) B.enumerate_ (pa_cons (pv 3) pa_nil)) (pg_tup rfl (pgs_cons (pg_name (i := 4) sc_accept_hedges.nd rfl (Or.inl rfl)) (pgs_cons (pg_name (i := 5) sc_accept_hedges.nd rfl (Or.inl rfl)) pgs_nil))) (pss_one (ps_if (PW.pt (pw_or (pt_not (pt_truth (pe_callB (r := rIsi K) call_isi (by rfl) B.isinstance_ boot_isinstance (pa_cons (pv 5) (pa_cons (pe_bltn (v := .ty "tuple") (u := .type "tuple") (by rfl) B.tuple_ PyProof.Rows.boot_tuple rfl) pa_nil))) (fun _ => rfl))) (pw_or (pt_cmpR (r := rNeD K) (op_neD hr.units) (pe_callB (r := rLenS K) call_len_seq (by rfl) B.len_ PySem.boot_len (pa_cons (pv 5) pa_nil)) (pe_op op_add (pv 4) pe_int) (nomark _)) (pw_or1 (pt_not (pt_truth (pe_callB (r := rAll K) (cr_all rfl) (by rfl) B.all_ (by decide +kernel) (pa_cons (pe_lc (own := [("node", 6)]) (g := _) (tt := tYes) rfl sc_accept_hedges.nd (pi_tup (pv 5)) (blkOk_by (N := N_accept_hedges) (sc := defScope s_accept_hedges) (by decide +kernel)) (fun _ _ _ _ _ => (pg_name (i := 6) sc_accept_hedges.nd rfl (by first | exact Or.inl rfl | exact Or.inr rfl))) (fun _ _ _ _ _ => pts_nil) (fun _ _ _ _ _ => (pe_cl C_is_node (hr.mono (by decide)) hgd (by rfl) (pa_cons (pv 6) pa_nil)))) pa_nil)) (fun _ => rfl))))))) pss_never pss_nil))) (pss_one (ps_for PassesOwn.never rfl (pi_enumT (by rfl) B.enumerate_ (pa_cons (pv 3) pa_nil)) (pg_tup rfl (pgs_cons (pg_name (i := 4) sc_accept_hedges.nd rfl (Or.inl rfl)) (pgs_cons (pg_name (i := 5) sc_accept_hedges.nd rfl (Or.inl rfl)) pgs_nil))) (pss_one (ps_for PassesOwn.never rfl (pi_enumT (by rfl) B.enumerate_ (pa_cons (pv 5) pa_nil)) (pg_tup rfl (pgs_cons (pg_name (i := 7) sc_accept_hedges.nd rfl (Or.inl rfl)) (pgs_cons (pg_tup rfl (pgs_cons (pg_name (i := 8) sc_accept_hedges.nd rfl (Or.inl rfl)) (pgs_cons (pg_name (i := 9) sc_accept_hedges.nd rfl (Or.inl rfl)) (pgs_cons (pg_name (i := 10) sc_accept_hedges.nd rfl (Or.inl rfl)) pgs_nil)))) pgs_nil))) (pss_cons (ps_set (i := 11) sc_accept_hedges.nd rfl (Or.inl rfl) (pe_or (pe_cmpR op_eq (pv 2) pe_str (nomark _)) (pe_one (pe_cmpR (r := rEqD K) (op_eqD hr.units) (pe_op op_add (pv 4) pe_int) (pe_callB (r := rLenS K) call_len_seq (by rfl) B.len_ PySem.boot_len (pa_cons (pv 1) pa_nil)) (nomark _))))) (pss_cons (ps_if (PW.pt (pw_and (pt_truth (pv 11) (fun _ => rfl)) (pw_and1 (pt_truth (pe_cl C_is_less (hr.mono (by decide)) hgd (by rfl) (pa_cons (pv 8) (pa_cons (pe_tupF (pa_cons (pe_ix (r := rIxT K) ix_tup (pe_ix (r := rIxT K) ix_tup (pv 1) (pv 4) (fun _ _ => rfl)) (pv 7) (fun _ _ => rfl)) (pa_cons pe_int pa_nil))) pa_nil))) (fun _ => rfl))))) pss_never pss_nil) (pss_one (ps_if (pt_cmpR op_lt (pe_op op_add (pv 4) pe_int) (pe_callB (r := rLenS K) call_len_seq (by rfl) B.len_ PySem.boot_len (pa_cons (pv 1) pa_nil)) (nomark _)) (pss_one (ps_expr (pe_cl C_check_node (hr.mono (by decide)) hgd (by rfl) (pa_cons (pv 0) (pa_cons (pv 3) (pa_cons (pv 4) (pa_cons (pv 7) pa_nil))))))) pss_nil))))))))))))), fun vs Q => fn_pure (N := N_accept_hedges) (fun ds d h => ?_) (fun B S ds d h D hR hN => ?_) vs H Q E0⟩), hm, F.kp, F.binds fun _ _ _ _ _ _ us hl => match us, hl with | [_, _, _, _], _ => rfl⟩
  · obtain ⟨market, claim, kind, table, rfl, h0, h1, h2, h3, h4, h5, rfl⟩ := h; rfl
  · obtain ⟨market, claim, kind, table, rfl, h0, h1, h2, h3, h4, h5, rfl⟩ := h; simp
  · obtain ⟨market, claim, kind, table, rfl, h0, h1, h2, h3, h4, h5, rfl⟩ := h
    have hl2 := h1.2.1
    have hlen := h3.1
    show Ss _ _ [.da ((eP4 eQ eQ eQ eQ) market), .da ((eT (eT PyData.int)) claim), .da (PyData.str kind), .da ((eT (eT (eP3 eQ eQ eQ))) table), .no, .no, .no, .no, .no, .no, .no, .no] _ _
    refine s_seq (s_drop (ed_call (ds := [((eP4 eQ eQ eQ eQ) market)]) (ea_cons (ed_var rfl) ea_nil) ⟨market, rfl, by assumption, rfl⟩) ?_)
    refine s_seq (s_drop (ed_call (ds := [((eT (eT PyData.int)) claim)]) (ea_cons (ed_var rfl) ea_nil) ⟨claim, rfl, by assumption, rfl⟩) ?_)
    refine s_seq (s_skip (et_or (et_not (et_truB (ed_isi (ed_var rfl) (show kitB "str" "str" = some true by decide +kernel)))) (fun hb1 => (et_test (ed_ninTS (ed_var rfl) (ed_tup (ds := [(PyData.str (Str.ofString "end")), (PyData.str (Str.ofString "any"))]) (ea_cons ed_str (ea_cons ed_str ea_nil))))))) (by rw [h2]; decide +kernel : ((!true) || (!decide (kind ∈ [(Str.ofString "end"), (Str.ofString "any")]))) = false) ?_)
    refine s_seq (s_skip (et_or (et_not (et_truB (ed_isi (ed_var rfl) (show kitB "tuple" "tuple" = some true by decide +kernel)))) (fun hb2 => (et_test (ed_neI (ed_lenTX (ed_var rfl)) (ed_lenTX (ed_var rfl)))))) (by simp [hlen] : ((!true) || (!decide (((table).length : Int) = ((claim).length : Int)))) = false) ?_)
    refine s_seq (s_forX ((table).zipIdx) (fun p => Itm.soft [PyData.int (p.2 : Int), (eT (eP3 eQ eQ eQ)) p.1]) (ei_enumTX (ed_var rfl)) (fun i0 => [.da ((eP4 eQ eQ eQ eQ) market), .da ((eT (eT PyData.int)) claim), .da (PyData.str kind), .da ((eT (eT (eP3 eQ eQ eQ))) table), .no, .no, .no, .no, .no, .no, .no, .no]) (le_same (le_same (le_same (le_same (le_no (le_no (le_no (le_no (le_no (le_no (le_no (le_no le_nil)))))))))))) (fun T0 hT0 i0 x0 hx0 => ⟨_, [4, 5], (eg_soft (egs_cons (eg_name (by simp)) (egs_cons (eg_name (by simp)) egs_nil))), ?_⟩) ?_)
    · show Ss _ _ [.da ((eP4 eQ eQ eQ eQ) market), .da ((eT (eT PyData.int)) claim), .da (PyData.str kind), .da ((eT (eT (eP3 eQ eQ eQ))) table), .da (PyData.int ((x0).2 : Int)), .da ((eT (eP3 eQ eQ eQ)) (x0).1), .no, .no, .no, .no, .no, .no] _ _
      have hr := en_row hx0
      have hr2 := (h3.2 _ (hlen ▸ hr.1)).1
      rw [← hr.2] at hr2
      refine (s_skip (et_or (et_not (et_truB (ed_isi (ed_var rfl) (show kitB "tuple" "tuple" = some true by decide +kernel)))) (fun hb5 => (et_or (et_test (ed_neI (ed_lenTX (ed_var rfl)) (ed_I0 (ed_var rfl) ed_int))) (fun hb4 => (et_not (et_truB (ed_all (ed_L (el_lcAX (xs := (x0).1) (ea := fun x => Itm.hard ((eP3 eQ eQ eQ) x)) (enc := PyData.bool) (fb := fun (x3 : (Rat × Rat × Rat)) => (true)) (ei_tupX (ed_var rfl)) (by omega) (by simp) (fun _ _ x3 hx3 => ⟨_, rfl, (eg_name (by simp)), (ed_call (ds := [((eP3 eQ eQ eQ) x3)]) (ea_cons (ed_var rfl) ea_nil) ⟨x3, rfl, rfl⟩)⟩)))))))))) (by rw [all_id (fun x hx => rfl)]; simp [hr2] : ((!true) || ((!decide ((((x0).1).length : Int) = (((x0).2 : Int) + (1 : Int)))) || (!(((((x0).1).map fun (x3 : (Rat × Rat × Rat)) => (true))).all id)))) = false) ?_)
      exact s_end (le_same (le_same (le_same (le_same (le_no (le_no (le_no (le_no (le_no (le_no (le_no (le_no le_nil))))))))))))
    refine (s_forX ((table).zipIdx) (fun p => Itm.soft [PyData.int (p.2 : Int), (eT (eP3 eQ eQ eQ)) p.1]) (ei_enumTX (ed_var rfl)) (fun i1 => [.da ((eP4 eQ eQ eQ eQ) market), .da ((eT (eT PyData.int)) claim), .da (PyData.str kind), .da ((eT (eT (eP3 eQ eQ eQ))) table), .no, .no, .no, .no, .no, .no, .no, .no]) (le_same (le_same (le_same (le_same (le_no (le_no (le_no (le_no (le_no (le_no (le_no (le_no le_nil)))))))))))) (fun T1 hT1 i1 x1 hx1 => ⟨_, [4, 5], (eg_soft (egs_cons (eg_name (by simp)) (egs_cons (eg_name (by simp)) egs_nil))), ?_⟩) ?_)
    · show Ss _ _ [.da ((eP4 eQ eQ eQ eQ) market), .da ((eT (eT PyData.int)) claim), .da (PyData.str kind), .da ((eT (eT (eP3 eQ eQ eQ))) table), .da (PyData.int ((x1).2 : Int)), .da ((eT (eP3 eQ eQ eQ)) (x1).1), .no, .no, .no, .no, .no, .no] _ _
      have hr := en_row hx1
      have hr2 := (h3.2 _ (hlen ▸ hr.1)).1
      rw [← hr.2] at hr2
      refine (s_forX (((x1).1).zipIdx) (fun p => Itm.soft [PyData.int (p.2 : Int), (eP3 eQ eQ eQ) p.1]) (ei_enumTX (ed_var rfl)) (fun i2 => [.da ((eP4 eQ eQ eQ eQ) market), .da ((eT (eT PyData.int)) claim), .da (PyData.str kind), .da ((eT (eT (eP3 eQ eQ eQ))) table), .da (PyData.int ((x1).2 : Int)), .da ((eT (eP3 eQ eQ eQ)) (x1).1), .no, .no, .no, .no, .no, .no]) (le_same (le_same (le_same (le_same (le_same (le_same (le_no (le_no (le_no (le_no (le_no (le_no le_nil)))))))))))) (fun T2 hT2 i2 x2 hx2 => ⟨_, [7, 8, 9, 10], (eg_soft (egs_cons (eg_name (by simp)) (egs_cons (eg_tup (egs_cons (eg_name (by simp)) (egs_cons (eg_name (by simp)) (egs_cons (eg_name (by simp)) egs_nil)))) egs_nil))), ?_⟩) ?_)
      · show Ss _ _ [.da ((eP4 eQ eQ eQ eQ) market), .da ((eT (eT PyData.int)) claim), .da (PyData.str kind), .da ((eT (eT (eP3 eQ eQ eQ))) table), .da (PyData.int ((x1).2 : Int)), .da ((eT (eP3 eQ eQ eQ)) (x1).1), .no, .da (PyData.int ((x2).2 : Int)), .da (eQ ((x2).1).1), .da (eQ ((x2).1).2.1), .da (eQ ((x2).1).2.2), .no] _ _
        have hy := en_nd hx1 hx2
        have hj : x2.2 ≤ x1.2 := by omega
        have hs : x1.2 < claim.length := by omega
        have hsz := (h3.2 _ hs).2 _ hj
        have hcl := cl_ix h1 (s := (x1.2 : Int)) (by omega)
        have hci := hcl.2 _ (ixG_mem (l := ixG claim (x1.2 : Int)) (i := (x2.2 : Int)) (by omega))
        have hpay := pay_le h4 hs hj
        refine s_seq (s_asg (ed_or (ed_eqS (ed_var rfl) ed_str) (fun hb6 => (ed_eqI (ed_I0 (ed_var rfl) ed_int) (ed_lenTX (ed_var rfl))))) (s_le (ρ1 := [.da ((eP4 eQ eQ eQ eQ) market), .da ((eT (eT PyData.int)) claim), .da (PyData.str kind), .da ((eT (eT (eP3 eQ eQ eQ))) table), .da (PyData.int ((x1).2 : Int)), .da ((eT (eP3 eQ eQ eQ)) (x1).1), .no, .da (PyData.int ((x2).2 : Int)), .da (eQ ((x2).1).1), .da (eQ ((x2).1).2.1), .da (eQ ((x2).1).2.2), .da (PyData.bool ((decide (kind = (Str.ofString "any"))) || (decide ((((x1).2 : Int) + (1 : Int)) = ((claim).length : Int)))))]) (le_rfl rfl) ?_))
        refine s_seq (s_skip (et_and (et_truB (ed_var rfl)) (fun hb7 => (et_truB (ed_is (ed_call (ds := [((eP PyData.int PyData.int) (qp ((x2).1).1)), ((eP PyData.int PyData.int) ((ixG (ixG claim ((x1).2 : Int)) ((x2).2 : Int)), (1 : Int)))]) (ea_cons (ed_is (ed_var rfl) (rfl : _ = ((eP PyData.int PyData.int) (qp ((x2).1).1)))) (ea_cons (ed_tup (ds := [(PyData.int (ixG (ixG claim ((x1).2 : Int)) ((x2).2 : Int))), (PyData.int (1 : Int))]) (ea_cons (ed_ixTX (f := PyData.int) (l := (ixG claim ((x1).2 : Int))) (ed_ixTX (f := (fun l : List Int => PyData.tuple (l.map PyData.int))) (l := claim) (ed_var rfl) (ed_var rfl) (by exact inb (by omega))) (ed_var rfl) (by exact inb (by rw [hcl.1]; omega))) (ea_cons ed_int ea_nil))) ea_nil)) ⟨(qp ((x2).1).1), ((ixG (ixG claim ((x1).2 : Int)) ((x2).2 : Int)), (1 : Int)), rfl, by exact den_pos _, by show (0 : Int) < 1; decide, by rw [hy.1]; exact (hsz.1.qb (by decide)).pb, by exact pb_small (by omega) (by decide) (by decide), rfl⟩) (by simp only [qv_qp] : _ = (PyData.bool (decide (((x2).1).1 < qv (((ixG (ixG claim ((x1).2 : Int)) ((x2).2 : Int)), (1 : Int))))))))))) (by rw [hy.1, qv_1, hpay]; simp : (((decide (kind = (Str.ofString "any"))) || (decide ((((x1).2 : Int) + (1 : Int)) = ((claim).length : Int)))) && (decide (((x2).1).1 < qv (((ixG (ixG claim ((x1).2 : Int)) ((x2).2 : Int)), (1 : Int)))))) = false) ?_)
        refine (s_if (b := (decide ((((x1).2 : Int) + (1 : Int)) < ((claim).length : Int)))) (et_test (ed_B0 (ed_I0 (ed_var rfl) ed_int) (ed_lenTX (ed_var rfl)))) (fun hc4 => ?_) (fun hc4 => ?_))
        · refine (s_drop (ed_call (ds := [((eP4 eQ eQ eQ eQ) market), ((eT (eT (eP3 eQ eQ eQ))) table), (eN (x1).2), (eN (x2).2)]) (ea_cons (ed_var rfl) (ea_cons (ed_var rfl) (ea_cons (ed_is (ed_var rfl) (by rfl : _ = (eN (x1).2))) (ea_cons (ed_is (ed_var rfl) (by rfl : _ = (eN (x2).2))) ea_nil)))) ⟨market, table, (x1).2, (x2).2, rfl, by exact h0, by exact ⟨_, h3, by have := of_decide_eq_true hc4; omega, hl2⟩, by exact hj, by exact h5 _ _ (by have := of_decide_eq_true hc4; omega) hj, rfl⟩) ?_)
          exact s_end (le_same (le_same (le_same (le_same (le_same (le_same (le_no (le_no (le_no (le_no (le_no (le_no le_nil))))))))))))
        · refine s_next ?_
          exact s_end (le_same (le_same (le_same (le_same (le_same (le_same (le_no (le_no (le_no (le_no (le_no (le_no le_nil))))))))))))
      exact s_end (le_same (le_same (le_same (le_same (le_no (le_no (le_no (le_no (le_no (le_no (le_no (le_no le_nil))))))))))))
    exact hN rfl _ _

/-! ### first_uses -/
abbrev s_first_uses : Stmt := topS 34
abbrev N_first_uses : List Str := ["market", "claim", "rows", "found", "open_nodes", "step", "further", "ups"]
theorem sc_first_uses : FnScope N_first_uses ["market", "claim"] (defScope s_first_uses) := ⟨rfl, rfl, rfl, by decide +kernel, rfl, by decide +kernel, by decide +kernel⟩
def R_first_uses : List PyData → PyData → Prop := fun ds d => ∃ (market : (Rat × Rat × Rat × Rat)) (claim : (List (List Int))), ds = [((eP4 eQ eQ eQ eQ) market), ((eT (eT PyData.int)) claim)] ∧ (MkOk market) ∧ (ClOk claim) ∧ d = ((eT (eP PyData.int PyData.int)) ((fuS market claim claim.length).1))
set_option maxHeartbeats 4000000 in
theorem ok_first_uses {P : Program} {w : World} {K : PySem.W.Frag} {mg : Str → Option Value} {base : Heap} (B : Gb mg) (F : Fd K mg "first_uses" s_first_uses) (C_check_fair : Cl P w K mg base 6 "check_fair" ["market", "claim", "kind"] (SpP K R_check_fair)) (C_nodes_of : Cl P w K mg base 6 "nodes_of" ["market", "claim", "kind"] (SpP K R_nodes_of)) : Cl P w K mg base 7 "first_uses" ["market", "claim"] (SpP K R_first_uses) := by
  obtain ⟨f, fd, F, hm⟩ := F.ex
  refine ⟨f, fd, fnG_of (k := 6) F sc_first_uses (spP_len fun ds d h => ?_) (fun cdv A outer s H hr hgd => ⟨_, (pss_cons (ps_expr (pe_cl C_check_fair (hr.mono (by decide)) hgd (by rfl) (pa_cons (pv 0) (pa_cons (pv 1) (pa_cons pe_str pa_nil))))) (pss_cons (ps_set (i := 2) sc_first_uses.nd rfl (Or.inl rfl) (pe_cl C_nodes_of (hr.mono (by decide)) hgd (by rfl) (pa_cons (pv 0) (pa_cons (pv 1) (pa_cons pe_str pa_nil))))) (pss_cons (ps_set (i := 3) sc_first_uses.nd rfl (Or.inl rfl) (pe_lst pa_nil)) (pss_cons (ps_set (i := 4) sc_first_uses.nd rfl (Or.inl rfl) (pe_lst (pa_cons pe_int pa_nil))) (pss_cons (ps_for PassesOwn.never rfl (pi_range1 (by rfl) B.range_ (pa_cons (pe_callB (r := rLenS K) call_len_seq (by rfl) B.len_ PySem.boot_len (pa_cons (pv 1) pa_nil)) pa_nil)) (pg_name (i := 5) sc_first_uses.nd rfl (Or.inl rfl)) (pss_cons (ps_set (i := 6) sc_first_uses.nd rfl (Or.inl rfl) pe_dnewK) (pss_cons (ps_for PassesOwn.never rfl (pi_list (pv 4)) (pg_name (i := 7) sc_first_uses.nd rfl (Or.inl rfl)) (pss_one (ps_if (pt_cmpR (r := rEqD K) (op_eqD hr.units) (pe_ix (r := rIxT K) ix_tup (pe_ix (r := rIxL K) ix_list (pe_ix (r := rIxL K) ix_list (pv 2) (pv 5) (fun _ _ => rfl)) (pv 7) (fun _ _ => rfl)) pe_int (fun _ _ => rfl)) (pe_tupF (pa_cons (pe_ix (r := rIxT K) ix_tup (pe_ix (r := rIxT K) ix_tup (pv 1) (pv 5) (fun _ _ => rfl)) (pv 7) (fun _ _ => rfl)) (pa_cons pe_int pa_nil))) (nomark _)) (pss_one (ps_expr (pe_bm PySem.F.plainAttrs_list PySem.F.slot_list_append PySem.F.type_list_append mt_append (pv 3) (pa_cons (pe_tupF (pa_cons (pv 5) (pa_cons (pv 7) pa_nil))) pa_nil)))) (pss_cons (ps_dput (hu_of hr) (pv 6) (pv 7) pe_bl (by rfl)) (pss_one (ps_dput (hu_of hr) (pv 6) (pe_op op_add (pv 7) pe_int) pe_bl (by rfl))))))) (pss_one (ps_set (i := 4) sc_first_uses.nd rfl (Or.inl rfl) (pe_callB (r := rSortD K) (call_sortedDI rfl) (by rfl) B.sorted_ (by decide +kernel) (pa_cons (pv 6) pa_nil))))))) (pss_one (ps_ret (pe_callTy (r := rTupOf K) call_tupleF (by rfl) B.tuple_ PyProof.Rows.boot_tuple (pa_cons (pv 3) pa_nil))))))))), fun vs Q => fn_pure (N := N_first_uses) (fun ds d h => ?_) (fun B S ds d h D hR hN => ?_) vs H Q E0⟩), hm, F.kp, F.binds fun _ _ _ _ _ _ us hl => match us, hl with | [_, _], _ => rfl⟩
  · obtain ⟨market, claim, rfl, h0, h1, rfl⟩ := h; rfl
  · obtain ⟨market, claim, rfl, h0, h1, rfl⟩ := h; simp
  · obtain ⟨market, claim, rfl, h0, h1, rfl⟩ := h
    have hl1 := h1.1
    have hl2 := h1.2.1
    show Ss _ _ [.da ((eP4 eQ eQ eQ eQ) market), .da ((eT (eT PyData.int)) claim), .no, .no, .no, .no, .no, .no] _ _
    refine s_seq (s_drop (ed_call (ds := [((eP4 eQ eQ eQ eQ) market), ((eT (eT PyData.int)) claim), (PyData.str (Str.ofString "any"))]) (ea_cons (ed_var rfl) (ea_cons (ed_var rfl) (ea_cons ed_str ea_nil))) ⟨market, claim, (Str.ofString "any"), rfl, by assumption, by assumption, by exact Or.inl rfl, rfl⟩) ?_)
    refine s_seq (s_asg (ed_call (ds := [((eP4 eQ eQ eQ eQ) market), ((eT (eT PyData.int)) claim), (PyData.str (Str.ofString "any"))]) (ea_cons (ed_var rfl) (ea_cons (ed_var rfl) (ea_cons ed_str ea_nil))) ⟨market, claim, (Str.ofString "any"), rfl, by assumption, by assumption, by exact Or.inl rfl, rfl⟩) (s_le (ρ1 := [.da ((eP4 eQ eQ eQ eQ) market), .da ((eT (eT PyData.int)) claim), .da ((eL (eL (eP3 eQ eQ eQ))) (nodesOf (market) ((Str.ofString "any")) (claim))), .no, .no, .no, .no, .no]) (le_rfl rfl) ?_))
    refine s_seq (s_asgM (ds := ([]).map (eP PyData.int PyData.int)) (el_lst (ds := [].map (eP PyData.int PyData.int)) ea_nil) (fun p_found1 => s_le (ρ1 := [.da ((eP4 eQ eQ eQ eQ) market), .da ((eT (eT PyData.int)) claim), .da ((eL (eL (eP3 eQ eQ eQ))) (nodesOf (market) ((Str.ofString "any")) (claim))), .mu true p_found1 (.lst ([].map (eP PyData.int PyData.int))), .no, .no, .no, .no]) (le_rfl rfl) ?_))
    refine s_seq (s_asg (ed_L (el_lst (ds := [(0 : Int)].map PyData.int) (ea_cons ed_int ea_nil))) (s_le (ρ1 := [.da ((eP4 eQ eQ eQ eQ) market), .da ((eT (eT PyData.int)) claim), .da ((eL (eL (eP3 eQ eQ eQ))) (nodesOf (market) ((Str.ofString "any")) (claim))), .mu true p_found1 (.lst ([].map (eP PyData.int PyData.int))), .da ((eL PyData.int) [(0 : Int)]), .no, .no, .no]) (le_rfl rfl) ?_))
    refine s_seq (s_forX ((List.range (((claim).length : Int)).toNat)) (fun (i : Nat) => Itm.hard (PyData.int (i : Int))) (ei_rng (ed_lenTX (ed_var rfl)) (by omega)) (fun i0 => [.da ((eP4 eQ eQ eQ eQ) market), .da ((eT (eT PyData.int)) claim), .da ((eL (eL (eP3 eQ eQ eQ))) (nodesOf (market) ((Str.ofString "any")) (claim))), .mu true p_found1 (.lst (((fuS market claim (i0)).1).map (eP PyData.int PyData.int))), .da ((eL PyData.int) ((fuS market claim (i0)).2)), .no, .no, .no]) (le_same (le_same (le_same (le_mu (congrArg MO.lst (by rfl)) (le_da (by rfl) (le_no (le_no (le_no le_nil)))))))) (fun T0 hT0 i0 x0 hx0 => ⟨_, [5], (eg_name (by simp)), ?_⟩) ?_)
    · show Ss _ _ [.da ((eP4 eQ eQ eQ eQ) market), .da ((eT (eT PyData.int)) claim), .da ((eL (eL (eP3 eQ eQ eQ))) (nodesOf (market) ((Str.ofString "any")) (claim))), .mu true p_found1 (.lst (((fuS market claim (i0)).1).map (eP PyData.int PyData.int))), .da ((eL PyData.int) ((fuS market claim (i0)).2)), .da (PyData.int (x0 : Int)), .no, .no] _ _
      have hlt0 := (rng_get hx0).2
      refine s_le (ρ1 := [.da ((eP4 eQ eQ eQ eQ) market), .da ((eT (eT PyData.int)) claim), .da ((eL (eL (eP3 eQ eQ eQ))) (nodesOf (market) ((Str.ofString "any")) (claim))), .mu true p_found1 (.lst (((fuS market claim (i0)).1).map (eP PyData.int PyData.int))), .da ((eL PyData.int) ((fuS market claim (i0)).2)), .da (PyData.int (i0 : Int)), .no, .no]) (le_rfl (by rw [(rng_get hx0).1])) ?_
      have hcl : i0 < claim.length := by omega
      have hrow : (ixG (nodesOf market (Str.ofString "any") claim) (i0 : Int)).length = i0 + 1 := node_row (m := market) (kind := anyS) h1 hcl
      have hfu := fuS_ok (m := market) h1 i0 (by omega)
      have hci := (cl_ix h1 (s := (i0 : Int)) (by omega)).1
      refine s_seq (s_asgD (fun p_further2 => s_le (ρ1 := [.da ((eP4 eQ eQ eQ eQ) market), .da ((eT (eT PyData.int)) claim), .da ((eL (eL (eP3 eQ eQ eQ))) (nodesOf (market) ((Str.ofString "any")) (claim))), .mu true p_found1 (.lst (((fuS market claim (i0)).1).map (eP PyData.int PyData.int))), .da ((eL PyData.int) ((fuS market claim (i0)).2)), .da (PyData.int (i0 : Int)), .mu true p_further2 (.dK (eD PyData.bool [])), .no]) (le_rfl rfl) ?_))
      refine s_seq (s_forX (((fuS market claim (i0)).2)) (fun x => Itm.hard (PyData.int x)) (ei_listX (ed_var rfl)) (fun i1 => [.da ((eP4 eQ eQ eQ eQ) market), .da ((eT (eT PyData.int)) claim), .da ((eL (eL (eP3 eQ eQ eQ))) (nodesOf (market) ((Str.ofString "any")) (claim))), .mu true p_found1 (.lst (((fuI market claim i0 (fuS market claim i0).1 ((fuS market claim i0).2.take (i1))).1).map (eP PyData.int PyData.int))), .da ((eL PyData.int) ((fuS market claim (i0)).2)), .da (PyData.int (i0 : Int)), .mu true p_further2 (.dK (eD PyData.bool ((fuI market claim i0 (fuS market claim i0).1 ((fuS market claim i0).2.take (i1))).2))), .no]) (le_same (le_same (le_same (le_mu (congrArg MO.lst (by rfl)) (le_same (le_same (le_mu (congrArg (fun z => MO.dK (eD PyData.bool z)) (by rfl)) (le_no le_nil)))))))) (fun T1 hT1 i1 x1 hx1 => ⟨_, [7], (eg_name (by simp)), ?_⟩) ?_)
      · show Ss _ _ [.da ((eP4 eQ eQ eQ eQ) market), .da ((eT (eT PyData.int)) claim), .da ((eL (eL (eP3 eQ eQ eQ))) (nodesOf (market) ((Str.ofString "any")) (claim))), .mu true p_found1 (.lst (((fuI market claim i0 (fuS market claim i0).1 ((fuS market claim i0).2.take (i1))).1).map (eP PyData.int PyData.int))), .da ((eL PyData.int) ((fuS market claim (i0)).2)), .da (PyData.int (i0 : Int)), .mu true p_further2 (.dK (eD PyData.bool ((fuI market claim i0 (fuS market claim i0).1 ((fuS market claim i0).2.take (i1))).2))), .da (PyData.int x1)] _ _
        have hu := hfu.2.2.1 x1 (List.mem_of_getElem? hx1)
        have hat := fuI_at (m := market) h1 hcl i1
        have hat1 := hat.1
        have hat2 := hat.2.2
        have hpl := putP_len (fuI market claim i0 (fuS market claim i0).1 ((fuS market claim i0).2.take i1)).2 x1 true
        refine (s_if (b := (decide (((ixG (ixG (nodesOf (market) ((Str.ofString "any")) (claim)) (i0 : Int)) x1)).1 = (((ixG (ixG claim (i0 : Int)) x1) : Int) : Rat)))) (et_test (ed_eqQ (ed_ixT (ed_ixLX (f := (eP3 eQ eQ eQ)) (l := (ixG (nodesOf (market) ((Str.ofString "any")) (claim)) (i0 : Int))) (ed_ixLX (f := (fun l : List (Rat × Rat × Rat) => PyData.list (l.map (eP3 eQ eQ eQ)))) (l := (nodesOf (market) ((Str.ofString "any")) (claim))) (ed_var rfl) (ed_var rfl) (by exact inb (by rw [nodes_len h0 h1]; omega))) (ed_var rfl) (by exact inb (by rw [hrow]; omega))) ed_int rfl) (ed_is (d1 := eQ (((ixG (ixG claim (i0 : Int)) x1) : Int) : Rat)) (ed_tup (ds := [PyData.int (ixG (ixG claim (i0 : Int)) x1), PyData.int (1 : Int)]) (ea_cons (ed_ixTX (f := PyData.int) (l := (ixG claim (i0 : Int))) (ed_ixTX (f := (fun l : List Int => PyData.tuple (l.map PyData.int))) (l := claim) (ed_var rfl) (ed_var rfl) (by exact inb (by omega))) (ed_var rfl) (by exact inb (by rw [hci]; omega))) (ea_cons ed_int ea_nil))) rfl))) (fun hc0 => ?_) (fun hc0 => ?_))
        · refine (s_append (ed_tup (ds := [(PyData.int (i0 : Int)), (PyData.int x1)]) (ea_cons (ed_var rfl) (ea_cons (ed_var rfl) ea_nil))) ⟨_, _, rfl⟩ rfl (by simp; omega) (s_le (ρ1 := [.da ((eP4 eQ eQ eQ eQ) market), .da ((eT (eT PyData.int)) claim), .da ((eL (eL (eP3 eQ eQ eQ))) (nodesOf (market) ((Str.ofString "any")) (claim))), .mu true p_found1 (.lst ((((fuI market claim i0 (fuS market claim i0).1 ((fuS market claim i0).2.take (i1))).1) ++ [((i0 : Int), x1)]).map (eP PyData.int PyData.int))), .da ((eL PyData.int) ((fuS market claim (i0)).2)), .da (PyData.int (i0 : Int)), .mu true p_further2 (.dK (eD PyData.bool ((fuI market claim i0 (fuS market claim i0).1 ((fuS market claim i0).2.take (i1))).2))), .da (PyData.int x1)]) (le_same (le_same (le_same (le_mu (congrArg MO.lst (by simp)) (le_same (le_same (le_same (le_same le_nil)))))))) ?_))
          exact s_end (le_same (le_same (le_same (le_mu (congrArg MO.lst (by first | exact congrArg (List.map (eP PyData.int PyData.int)) (fu_yes hx1 hc0).1 | exact congrArg (List.map (eP PyData.int PyData.int)) (fu_no hx1 hc0).1)) (le_same (le_same (le_mu (congrArg (fun z => MO.dK (eD PyData.bool z)) (by first | exact (fu_yes hx1 hc0).2 | exact (fu_no hx1 hc0).2)) (le_no le_nil))))))))
        · refine s_seq (s_dput ed_bl (ed_var rfl) ⟨_, _, rfl⟩ rfl (by simp only [List.length_map]; omega) (s_le (ρ1 := [.da ((eP4 eQ eQ eQ eQ) market), .da ((eT (eT PyData.int)) claim), .da ((eL (eL (eP3 eQ eQ eQ))) (nodesOf (market) ((Str.ofString "any")) (claim))), .mu true p_found1 (.lst (((fuI market claim i0 (fuS market claim i0).1 ((fuS market claim i0).2.take (i1))).1).map (eP PyData.int PyData.int))), .da ((eL PyData.int) ((fuS market claim (i0)).2)), .da (PyData.int (i0 : Int)), .mu true p_further2 (.dK (eD PyData.bool (putP ((fuI market claim i0 (fuS market claim i0).1 ((fuS market claim i0).2.take (i1))).2) x1 true))), .da (PyData.int x1)]) (le_same (le_same (le_same (le_same (le_same (le_same (le_mu (congrArg MO.dK (eD_put _ _ _ _)) (le_same le_nil)))))))) ?_))
          refine (s_dput ed_bl (ed_I0 (ed_var rfl) ed_int) ⟨_, _, rfl⟩ rfl (by simp only [List.length_map]; omega) (s_le (ρ1 := [.da ((eP4 eQ eQ eQ eQ) market), .da ((eT (eT PyData.int)) claim), .da ((eL (eL (eP3 eQ eQ eQ))) (nodesOf (market) ((Str.ofString "any")) (claim))), .mu true p_found1 (.lst (((fuI market claim i0 (fuS market claim i0).1 ((fuS market claim i0).2.take (i1))).1).map (eP PyData.int PyData.int))), .da ((eL PyData.int) ((fuS market claim (i0)).2)), .da (PyData.int (i0 : Int)), .mu true p_further2 (.dK (eD PyData.bool (putP (putP ((fuI market claim i0 (fuS market claim i0).1 ((fuS market claim i0).2.take (i1))).2) x1 true) (x1 + (1 : Int)) true))), .da (PyData.int x1)]) (le_same (le_same (le_same (le_same (le_same (le_same (le_mu (congrArg MO.dK (eD_put _ _ _ _)) (le_same le_nil)))))))) ?_))
          exact s_end (le_same (le_same (le_same (le_mu (congrArg MO.lst (by first | exact congrArg (List.map (eP PyData.int PyData.int)) (fu_yes hx1 hc0).1 | exact congrArg (List.map (eP PyData.int PyData.int)) (fu_no hx1 hc0).1)) (le_same (le_same (le_mu (congrArg (fun z => MO.dK (eD PyData.bool z)) (by first | exact (fu_yes hx1 hc0).2 | exact (fu_no hx1 hc0).2)) (le_no le_nil))))))))
      refine (s_asg (ed_L (el_sortD rfl (by have := (fuI_at (m := market) h1 hcl (fuS market claim i0).2.length).2.2; omega))) (s_le (ρ1 := [.da ((eP4 eQ eQ eQ eQ) market), .da ((eT (eT PyData.int)) claim), .da ((eL (eL (eP3 eQ eQ eQ))) (nodesOf (market) ((Str.ofString "any")) (claim))), .mu true p_found1 (.lst (((fuI market claim i0 (fuS market claim i0).1 ((fuS market claim i0).2.take ((((fuS market claim (i0)).2)).length))).1).map (eP PyData.int PyData.int))), .da ((eL PyData.int) (sortI (((fuI market claim i0 (fuS market claim i0).1 ((fuS market claim i0).2.take ((((fuS market claim (i0)).2)).length))).2).map Prod.fst))), .da (PyData.int (i0 : Int)), .mu true p_further2 (.dK (eD PyData.bool ((fuI market claim i0 (fuS market claim i0).1 ((fuS market claim i0).2.take ((((fuS market claim (i0)).2)).length))).2))), .no]) (le_rfl rfl) ?_))
      exact s_end (le_same (le_same (le_same (le_mu (congrArg MO.lst (by rw [List.take_length]; rfl)) (le_da (by rw [List.take_length]; rfl) (le_no (le_no (le_no le_nil))))))))
    refine s_le (ρ1 := [.da ((eP4 eQ eQ eQ eQ) market), .da ((eT (eT PyData.int)) claim), .da ((eL (eL (eP3 eQ eQ eQ))) (nodesOf (market) ((Str.ofString "any")) (claim))), .da ((eL (eP PyData.int PyData.int)) ((fuS market claim (((List.range (((claim).length : Int)).toNat)).length)).1)), .da ((eL PyData.int) ((fuS market claim (((List.range (((claim).length : Int)).toNat)).length)).2)), .no, .no, .no]) (le_same (le_same (le_same (le_frz (le_same (le_no (le_no (le_no le_nil)))))))) ?_
    exact s_ret (ed_is (ed_tupleL (ed_var rfl)) (by simp : ((eT (eP PyData.int PyData.int)) ((fuS market claim (((List.range (((claim).length : Int)).toNat)).length)).1)) = ((eT (eP PyData.int PyData.int)) ((fuS market claim claim.length).1)))) hR

/-! ### ups_and_downs -/
abbrev s_ups_and_downs : Stmt := topS 35
abbrev N_ups_and_downs : List Str := ["market", "claim", "chance", "steps", "total", "ways", "ups", "share"]
theorem sc_ups_and_downs : FnScope N_ups_and_downs ["market", "claim"] (defScope s_ups_and_downs) := ⟨rfl, rfl, rfl, by decide +kernel, rfl, by decide +kernel, by decide +kernel⟩
def R_ups_and_downs : List PyData → PyData → Prop := fun ds d => ∃ (market : (Rat × Rat × Rat × Rat)) (claim : (List (List Int))), ds = [((eP4 eQ eQ eQ eQ) market), ((eT (eT PyData.int)) claim)] ∧ (MkOk market) ∧ (ClOk claim) ∧ d = (eQ (uadV market claim))
set_option maxHeartbeats 4000000 in
theorem ok_ups_and_downs {P : Program} {w : World} {K : PySem.W.Frag} {mg : Str → Option Value} {base : Heap} (B : Gb mg) (F : Fd K mg "ups_and_downs" s_ups_and_downs) (C_check_fair : Cl P w K mg base 6 "check_fair" ["market", "claim", "kind"] (SpP K R_check_fair)) (C_judge_market : Cl P w K mg base 5 "judge_market" ["market"] (SpP K R_judge_market)) (C_minus : Cl P w K mg base 3 "minus" ["first", "second"] (SpP K R_minus)) (C_over : Cl P w K mg base 3 "over" ["first", "second"] (SpP K R_over)) (C_plus : Cl P w K mg base 3 "plus" ["first", "second"] (SpP K R_plus)) (C_power : Cl P w K mg base 4 "power" ["base", "many"] (SpP K R_power)) (C_times : Cl P w K mg base 3 "times" ["first", "second"] (SpP K R_times)) : Cl P w K mg base 7 "ups_and_downs" ["market", "claim"] (SpP K R_ups_and_downs) := by
  obtain ⟨f, fd, F, hm⟩ := F.ex
  refine ⟨f, fd, fnG_of (k := 6) F sc_ups_and_downs (spP_len fun ds d h => ?_) (fun cdv A outer s H hr hgd => ⟨_, (pss_cons (ps_expr (pe_cl C_check_fair (hr.mono (by decide)) hgd (by rfl) (pa_cons (pv 0) (pa_cons (pv 1) (pa_cons pe_str pa_nil))))) (pss_cons (ps_set (i := 2) sc_ups_and_downs.nd rfl (Or.inl rfl) (pe_ix (r := rIxT K) ix_tup (pe_cl C_judge_market (hr.mono (by decide)) hgd (by rfl) (pa_cons (pv 0) pa_nil)) pe_int (fun _ _ => rfl))) (pss_cons (ps_set (i := 3) sc_ups_and_downs.nd rfl (Or.inl rfl) (pe_op op_sub (pe_callB (r := rLenS K) call_len_seq (by rfl) B.len_ PySem.boot_len (pa_cons (pv 1) pa_nil)) pe_int)) (pss_cons (ps_set (i := 4) sc_ups_and_downs.nd rfl (Or.inl rfl) (pe_tupF (pa_cons pe_int (pa_cons pe_int pa_nil)))) (pss_cons (ps_set (i := 5) sc_ups_and_downs.nd rfl (Or.inl rfl) pe_int) (pss_cons (ps_for PassesOwn.never rfl (pi_range1 (by rfl) B.range_ (pa_cons (pe_op op_add (pv 3) pe_int) pa_nil)) (pg_name (i := 6) sc_ups_and_downs.nd rfl (Or.inl rfl)) (pss_cons (ps_set (i := 7) sc_ups_and_downs.nd rfl (Or.inl rfl) (pe_cl C_times (hr.mono (by decide)) hgd (by rfl) (pa_cons (pe_cl C_power (hr.mono (by decide)) hgd (by rfl) (pa_cons (pv 2) (pa_cons (pv 6) pa_nil))) (pa_cons (pe_cl C_power (hr.mono (by decide)) hgd (by rfl) (pa_cons (pe_cl C_minus (hr.mono (by decide)) hgd (by rfl) (pa_cons (pe_tupF (pa_cons pe_int (pa_cons pe_int pa_nil))) (pa_cons (pv 2) pa_nil))) (pa_cons (pe_op op_sub (pv 3) (pv 6)) pa_nil))) pa_nil)))) (pss_cons (ps_set (i := 4) sc_ups_and_downs.nd rfl (Or.inl rfl) (pe_cl C_plus (hr.mono (by decide)) hgd (by rfl) (pa_cons (pv 4) (pa_cons (pe_cl C_times (hr.mono (by decide)) hgd (by rfl) (pa_cons (pv 7) (pa_cons (pe_tupF (pa_cons (pe_op op_mulG (pv 5) (pe_ix (r := rIxT K) ix_tup (pe_ix (r := rIxT K) ix_tup (pv 1) (pe_un un_neg pe_int) (fun _ _ => rfl)) (pv 6) (fun _ _ => rfl))) (pa_cons pe_int pa_nil))) pa_nil))) pa_nil)))) (pss_one (ps_set (i := 5) sc_ups_and_downs.nd rfl (Or.inl rfl) (pe_op op_fdivG (pe_op op_mulG (pv 5) (pe_op op_sub (pv 3) (pv 6))) (pe_op op_add (pv 6) pe_int))))))) (pss_one (ps_ret (pe_cl C_over (hr.mono (by decide)) hgd (by rfl) (pa_cons (pv 4) (pa_cons (pe_cl C_power (hr.mono (by decide)) hgd (by rfl) (pa_cons (pe_ix (r := rIxT K) ix_tup (pv 0) pe_int (fun _ _ => rfl)) (pa_cons (pv 3) pa_nil))) pa_nil))))))))))), fun vs Q => fn_pure (N := N_ups_and_downs) (fun ds d h => ?_) (fun B S ds d h D hR hN => ?_) vs H Q E0⟩), hm, F.kp, F.binds fun _ _ _ _ _ _ us hl => match us, hl with | [_, _], _ => rfl⟩
  · obtain ⟨market, claim, rfl, h0, h1, rfl⟩ := h; rfl
  · obtain ⟨market, claim, rfl, h0, h1, rfl⟩ := h; simp
  · obtain ⟨market, claim, rfl, h0, h1, rfl⟩ := h
    have hl1 := h1.1
    have hl2 := h1.2.1
    show Ss _ _ [.da ((eP4 eQ eQ eQ eQ) market), .da ((eT (eT PyData.int)) claim), .no, .no, .no, .no, .no, .no] _ _
    refine s_seq (s_drop (ed_call (ds := [((eP4 eQ eQ eQ eQ) market), ((eT (eT PyData.int)) claim), (PyData.str (Str.ofString "end"))]) (ea_cons (ed_var rfl) (ea_cons (ed_var rfl) (ea_cons ed_str ea_nil))) ⟨market, claim, (Str.ofString "end"), rfl, by assumption, by assumption, by exact Or.inr rfl, rfl⟩) ?_)
    refine s_seq (s_asg (ed_ixT (ed_call (ds := [((eP4 eQ eQ eQ eQ) market)]) (ea_cons (ed_var rfl) ea_nil) ⟨market, rfl, by assumption, rfl⟩) ed_int rfl) (s_le (ρ1 := [.da ((eP4 eQ eQ eQ eQ) market), .da ((eT (eT PyData.int)) claim), .da (eQ ((((Str.ofString "fair", share (market)))).2)), .no, .no, .no, .no, .no]) (le_rfl rfl) ?_))
    refine s_seq (s_asg (ed_I0 (ed_lenTX (ed_var rfl)) ed_int) (s_le (ρ1 := [.da ((eP4 eQ eQ eQ eQ) market), .da ((eT (eT PyData.int)) claim), .da (eQ ((((Str.ofString "fair", share (market)))).2)), .da (PyData.int (((claim).length : Int) - (1 : Int))), .no, .no, .no, .no]) (le_rfl rfl) ?_))
    refine s_seq (s_asg (ed_is (d1 := eQ (0 : Rat)) (ed_tup (ds := [PyData.int (0 : Int), PyData.int (1 : Int)]) (ea_cons ed_int (ea_cons ed_int ea_nil))) (by rfl)) (s_le (ρ1 := [.da ((eP4 eQ eQ eQ eQ) market), .da ((eT (eT PyData.int)) claim), .da (eQ ((((Str.ofString "fair", share (market)))).2)), .da (PyData.int (((claim).length : Int) - (1 : Int))), .da (eQ (0 : Rat)), .no, .no, .no]) (le_rfl rfl) ?_))
    refine s_seq (s_asg ed_int (s_le (ρ1 := [.da ((eP4 eQ eQ eQ eQ) market), .da ((eT (eT PyData.int)) claim), .da (eQ ((((Str.ofString "fair", share (market)))).2)), .da (PyData.int (((claim).length : Int) - (1 : Int))), .da (eQ (0 : Rat)), .da (PyData.int (1 : Int)), .no, .no]) (le_rfl rfl) ?_))
    refine s_seq (s_forX ((List.range (((((claim).length : Int) - (1 : Int)) + (1 : Int))).toNat)) (fun (i : Nat) => Itm.hard (PyData.int (i : Int))) (ei_rng (ed_I0 (ed_var rfl) ed_int) (by omega)) (fun i0 => [.da ((eP4 eQ eQ eQ eQ) market), .da ((eT (eT PyData.int)) claim), .da (eQ ((((Str.ofString "fair", share (market)))).2)), .da (PyData.int (((claim).length : Int) - (1 : Int))), .da (eQ ((uad market claim (claim.length - 1) (i0)).1)), .da (PyData.int ((uad market claim (claim.length - 1) (i0)).2)), .no, .no]) (le_same (le_same (le_same (le_same (le_da (by rfl) (le_da (by rfl) (le_no (le_no le_nil)))))))) (fun T0 hT0 i0 x0 hx0 => ⟨_, [6], (eg_name (by simp)), ?_⟩) ?_)
    · show Ss _ _ [.da ((eP4 eQ eQ eQ eQ) market), .da ((eT (eT PyData.int)) claim), .da (eQ ((((Str.ofString "fair", share (market)))).2)), .da (PyData.int (((claim).length : Int) - (1 : Int))), .da (eQ ((uad market claim (claim.length - 1) (i0)).1)), .da (PyData.int ((uad market claim (claim.length - 1) (i0)).2)), .da (PyData.int (x0 : Int)), .no] _ _
      have hlt0 := (rng_get hx0).2
      refine s_le (ρ1 := [.da ((eP4 eQ eQ eQ eQ) market), .da ((eT (eT PyData.int)) claim), .da (eQ ((((Str.ofString "fair", share (market)))).2)), .da (PyData.int (((claim).length : Int) - (1 : Int))), .da (eQ ((uad market claim (claim.length - 1) (i0)).1)), .da (PyData.int ((uad market claim (claim.length - 1) (i0)).2)), .da (PyData.int (i0 : Int)), .no]) (le_rfl (by rw [(rng_get hx0).1])) ?_
      have hw := way_le (m := market) h1 (n := claim.length - 1) (k := i0) (by omega) (by omega)
      have hu := uad_small (m := market) (claim := claim) (n := claim.length - 1) (by omega) (k := i0) (by omega)
      have hq := uad_qk h0 h1 (n := claim.length - 1) (k := i0) (by omega) (by omega)
      refine s_seq (s_asg (ed_call (ds := [(eQ (((((Str.ofString "fair", share (market)))).2) ^ (((i0 : Int))).toNat)), (eQ (((((1 : Rat)) - ((((Str.ofString "fair", share (market)))).2))) ^ ((((((claim).length : Int) - (1 : Int)) - (i0 : Int)))).toNat))]) (ea_cons (ed_call (ds := [(eQ ((((Str.ofString "fair", share (market)))).2)), (PyData.int (i0 : Int))]) (ea_cons (ed_var rfl) (ea_cons (ed_var rfl) ea_nil)) ⟨(((Str.ofString "fair", share (market)))).2, (i0 : Int), rfl, by omega, by exact (share_qk h0).mono (by decide), rfl⟩) (ea_cons (ed_call (ds := [(eQ (((1 : Rat)) - ((((Str.ofString "fair", share (market)))).2))), (PyData.int ((((claim).length : Int) - (1 : Int)) - (i0 : Int)))]) (ea_cons (ed_call (ds := [(eQ (1 : Rat)), (eQ ((((Str.ofString "fair", share (market)))).2))]) (ea_cons (ed_is (d1 := eQ (1 : Rat)) (ed_tup (ds := [PyData.int (1 : Int), PyData.int (1 : Int)]) (ea_cons ed_int (ea_cons ed_int ea_nil))) (by rfl)) (ea_cons (ed_var rfl) ea_nil)) ⟨(1 : Rat), (((Str.ofString "fair", share (market)))).2, rfl, by exact (Qk_one 1).qb (by decide), by exact (share_qk h0).qb (by decide), rfl⟩) (ea_cons (ed_I0 (ed_var rfl) (ed_var rfl)) ea_nil)) ⟨(((1 : Rat)) - ((((Str.ofString "fair", share (market)))).2)), ((((claim).length : Int) - (1 : Int)) - (i0 : Int)), rfl, by omega, by exact (cosh_qk h0).mono (by decide), rfl⟩) ea_nil)) ⟨(((((Str.ofString "fair", share (market)))).2) ^ (((i0 : Int))).toNat), (((((1 : Rat)) - ((((Str.ofString "fair", share (market)))).2))) ^ ((((((claim).length : Int) - (1 : Int)) - (i0 : Int)))).toNat), rfl, by exact (Qk_pow (share_qk h0) _).qb (by omega), by exact (Qk_pow (cosh_qk h0) _).qb (by omega), rfl⟩) (s_le (ρ1 := [.da ((eP4 eQ eQ eQ eQ) market), .da ((eT (eT PyData.int)) claim), .da (eQ ((((Str.ofString "fair", share (market)))).2)), .da (PyData.int (((claim).length : Int) - (1 : Int))), .da (eQ ((uad market claim (claim.length - 1) (i0)).1)), .da (PyData.int ((uad market claim (claim.length - 1) (i0)).2)), .da (PyData.int (i0 : Int)), .da (eQ (((((((Str.ofString "fair", share (market)))).2) ^ (((i0 : Int))).toNat)) * ((((((1 : Rat)) - ((((Str.ofString "fair", share (market)))).2))) ^ ((((((claim).length : Int) - (1 : Int)) - (i0 : Int)))).toNat))))]) (le_rfl rfl) ?_))
      refine s_seq (s_asg (ed_call (ds := [(eQ ((uad market claim (claim.length - 1) (i0)).1)), (eQ (((((((((Str.ofString "fair", share (market)))).2) ^ (((i0 : Int))).toNat)) * ((((((1 : Rat)) - ((((Str.ofString "fair", share (market)))).2))) ^ ((((((claim).length : Int) - (1 : Int)) - (i0 : Int)))).toNat)))) * (((((uad market claim (claim.length - 1) (i0)).2) * ixG (ixG claim (-(1 : Int))) (i0 : Int) : Int) : Rat))))]) (ea_cons (ed_var rfl) (ea_cons (ed_call (ds := [(eQ (((((((Str.ofString "fair", share (market)))).2) ^ (((i0 : Int))).toNat)) * ((((((1 : Rat)) - ((((Str.ofString "fair", share (market)))).2))) ^ ((((((claim).length : Int) - (1 : Int)) - (i0 : Int)))).toNat)))), (eQ ((((uad market claim (claim.length - 1) (i0)).2) * ixG (ixG claim (-(1 : Int))) (i0 : Int) : Int) : Rat))]) (ea_cons (ed_var rfl) (ea_cons (ed_is (ed_tup (ds := [(PyData.int (((uad market claim (claim.length - 1) (i0)).2) * (ixG (ixG claim (-1)) (i0 : Int)))), (PyData.int (1 : Int))]) (ea_cons (ed_I (ed_var rfl) (ed_ixTX (f := PyData.int) (l := (ixG claim (-1))) (ed_ixTX (f := (fun l : List Int => PyData.tuple (l.map PyData.int))) (l := claim) (ed_var rfl) (ed_neg ed_int) (by exact ⟨by omega, by omega⟩)) (ed_var rfl) (by exact inb (by rw [last_len h1]; omega))) (by first | exact mul_l (by omega) (by omega) | exact mul_l ⟨hu.1, by omega⟩ (by omega))) (ea_cons ed_int ea_nil))) (by rfl : _ = (eQ ((((uad market claim (claim.length - 1) (i0)).2) * ixG (ixG claim (-(1 : Int))) (i0 : Int) : Int) : Rat)))) ea_nil)) ⟨(((((((Str.ofString "fair", share (market)))).2) ^ (((i0 : Int))).toNat)) * ((((((1 : Rat)) - ((((Str.ofString "fair", share (market)))).2))) ^ ((((((claim).length : Int) - (1 : Int)) - (i0 : Int)))).toNat))), ((((uad market claim (claim.length - 1) (i0)).2) * ixG (ixG claim (-(1 : Int))) (i0 : Int) : Int) : Rat), rfl, by exact (Qk_mul (Qk_pow (share_qk h0) _) (Qk_pow (cosh_qk h0) _)).qb (by omega), by exact (int_qk hw).qb (by decide), rfl⟩) ea_nil)) ⟨((uad market claim (claim.length - 1) (i0)).1), (((((((((Str.ofString "fair", share (market)))).2) ^ (((i0 : Int))).toNat)) * ((((((1 : Rat)) - ((((Str.ofString "fair", share (market)))).2))) ^ ((((((claim).length : Int) - (1 : Int)) - (i0 : Int)))).toNat)))) * (((((uad market claim (claim.length - 1) (i0)).2) * ixG (ixG claim (-(1 : Int))) (i0 : Int) : Int) : Rat))), rfl, by exact hq.qb (by decide), by exact (Qk_mul (Qk_mul (Qk_pow (share_qk h0) _) (Qk_pow (cosh_qk h0) _)) (int_qk hw)).qb (by omega), rfl⟩) (s_le (ρ1 := [.da ((eP4 eQ eQ eQ eQ) market), .da ((eT (eT PyData.int)) claim), .da (eQ ((((Str.ofString "fair", share (market)))).2)), .da (PyData.int (((claim).length : Int) - (1 : Int))), .da (eQ ((((uad market claim (claim.length - 1) (i0)).1)) + ((((((((((Str.ofString "fair", share (market)))).2) ^ (((i0 : Int))).toNat)) * ((((((1 : Rat)) - ((((Str.ofString "fair", share (market)))).2))) ^ ((((((claim).length : Int) - (1 : Int)) - (i0 : Int)))).toNat)))) * (((((uad market claim (claim.length - 1) (i0)).2) * ixG (ixG claim (-(1 : Int))) (i0 : Int) : Int) : Rat)))))), .da (PyData.int ((uad market claim (claim.length - 1) (i0)).2)), .da (PyData.int (i0 : Int)), .da (eQ (((((((Str.ofString "fair", share (market)))).2) ^ (((i0 : Int))).toNat)) * ((((((1 : Rat)) - ((((Str.ofString "fair", share (market)))).2))) ^ ((((((claim).length : Int) - (1 : Int)) - (i0 : Int)))).toNat))))]) (le_rfl rfl) ?_))
      refine (s_asg (ed_I (ed_I (ed_var rfl) (ed_I0 (ed_var rfl) (ed_var rfl)) (by first | exact mul_l (by omega) (by omega) | exact mul_l ⟨hu.1, by omega⟩ (by omega))) (ed_I0 (ed_var rfl) ed_int) (by exact div_small (by omega) (by omega))) (s_le (ρ1 := [.da ((eP4 eQ eQ eQ eQ) market), .da ((eT (eT PyData.int)) claim), .da (eQ ((((Str.ofString "fair", share (market)))).2)), .da (PyData.int (((claim).length : Int) - (1 : Int))), .da (eQ ((((uad market claim (claim.length - 1) (i0)).1)) + ((((((((((Str.ofString "fair", share (market)))).2) ^ (((i0 : Int))).toNat)) * ((((((1 : Rat)) - ((((Str.ofString "fair", share (market)))).2))) ^ ((((((claim).length : Int) - (1 : Int)) - (i0 : Int)))).toNat)))) * (((((uad market claim (claim.length - 1) (i0)).2) * ixG (ixG claim (-(1 : Int))) (i0 : Int) : Int) : Rat)))))), .da (PyData.int ((((uad market claim (claim.length - 1) (i0)).2) * ((((claim).length : Int) - (1 : Int)) - (i0 : Int))) / ((i0 : Int) + (1 : Int)))), .da (PyData.int (i0 : Int)), .da (eQ (((((((Str.ofString "fair", share (market)))).2) ^ (((i0 : Int))).toNat)) * ((((((1 : Rat)) - ((((Str.ofString "fair", share (market)))).2))) ^ ((((((claim).length : Int) - (1 : Int)) - (i0 : Int)))).toNat))))]) (le_rfl rfl) ?_))
      exact s_end (le_same (le_same (le_same (le_same (le_da (by exact congrArg eQ (uad_s1 (by omega))) (le_da (by exact congrArg PyData.int (uad_s2 (by omega))) (le_no (le_no le_nil))))))))
    exact s_ret (ed_is (ed_call (ds := [(eQ ((uad market claim (claim.length - 1) (((List.range (((((claim).length : Int) - (1 : Int)) + (1 : Int))).toNat)).length)).1)), (eQ (((market).2.2.2) ^ (((((claim).length : Int) - (1 : Int)))).toNat))]) (ea_cons (ed_var rfl) (ea_cons (ed_call (ds := [(eQ (market).2.2.2), (PyData.int (((claim).length : Int) - (1 : Int)))]) (ea_cons (ed_ixT (ed_var rfl) ed_int rfl) (ea_cons (ed_var rfl) ea_nil)) ⟨(market).2.2.2, (((claim).length : Int) - (1 : Int)), rfl, by omega, by exact h0.1.2.2.2.qk.mono (by decide), rfl⟩) ea_nil)) ⟨((uad market claim (claim.length - 1) (((List.range (((((claim).length : Int) - (1 : Int)) + (1 : Int))).toNat)).length)).1), (((market).2.2.2) ^ (((((claim).length : Int) - (1 : Int)))).toNat), rfl, by exact (uad_qk h0 h1 (by omega) (by simp; omega)).qb (by decide), by exact (Qk_pow h0.1.2.2.2.qk _).qb (by omega), by exact pos_ne (Rat.pow_pos (mk_pos h0).2.2), rfl⟩) (by rw [List.length_range, show ((claim.length : Int) - 1 + 1).toNat = claim.length by omega, show ((claim.length : Int) - 1).toNat = claim.length - 1 by omega]; rfl : (eQ ((((uad market claim (claim.length - 1) (((List.range (((((claim).length : Int) - (1 : Int)) + (1 : Int))).toNat)).length)).1)) / ((((market).2.2.2) ^ (((((claim).length : Int) - (1 : Int)))).toNat)))) = (eQ (uadV market claim)))) hR

/-! ### _law_q -/
abbrev s_law_q : Stmt := topS 41
abbrev N_law_q : List Str := ["up", "down", "one", "other"]
theorem sc_law_q : FnScope N_law_q ["up", "down"] (defScope s_law_q) := ⟨rfl, rfl, rfl, by decide +kernel, rfl, by decide +kernel, by decide +kernel⟩
def R_law_q : List PyData → PyData → Prop := fun ds d => ∃ (up : Int) (down : Int), ds = [(PyData.int up), (PyData.int down)] ∧ (down ≠ 0) ∧ (down.natAbs < 2 ^ 8999) ∧ d = (eQ (Rat.divInt up down))
set_option maxHeartbeats 4000000 in
theorem ok_law_q {P : Program} {w : World} {K : PySem.W.Frag} {mg : Str → Option Value} {base : Heap} (B : Gb mg) (F : Fd K mg "_law_q" s_law_q) : Cl P w K mg base 1 "_law_q" ["up", "down"] (SpP K R_law_q) := by
  obtain ⟨f, fd, F, hm⟩ := F.ex
  refine ⟨f, fd, fnG_of (k := 0) F sc_law_q (spP_len fun ds d h => ?_) (fun cdv A outer s H hr hgd => ⟨_, (pss_cons (ps_par (i := 2) (j := 3) rfl sc_law_q.nd rfl rfl (by decide) rfl rfl (pa_cons (pe_callB call_abs (by rfl) B.abs_ PyProof.Rows.boot_abs (pa_cons (pv 0) pa_nil)) (pa_cons (pe_callB call_abs (by rfl) B.abs_ PyProof.Rows.boot_abs (pa_cons (pv 1) pa_nil)) pa_nil)) rfl rfl) (pss_cons (ps_while PassesOwn.never (pt_cmpR op_gt (pv 3) pe_int (nomark _)) (pss_one (ps_par (i := 2) (j := 3) rfl sc_law_q.nd rfl rfl (by decide) rfl rfl (pa_cons (pv 3) (pa_cons (pe_op op_mod (pe_callTy call_int1 (by rfl) B.int_ PyProof.Rows.boot_int (pa_cons (pv 2) pa_nil)) (pe_callTy call_int1 (by rfl) B.int_ PyProof.Rows.boot_int (pa_cons (pv 3) pa_nil))) pa_nil)) rfl rfl))) (pss_one (ps_ret (pe_ifExp (pt_cmpR op_gt (pv 1) pe_int (nomark _)) (pe_tupF (pa_cons (pe_op op_fdivG (pv 0) (pv 2)) (pa_cons (pe_op op_fdivG (pv 1) (pv 2)) pa_nil))) (pe_tupF (pa_cons (pe_op op_fdivG (pe_op op_sub pe_int (pv 0)) (pv 2)) (pa_cons (pe_op op_fdivG (pe_op op_sub pe_int (pv 1)) (pv 2)) pa_nil)))))))), fun vs Q => fn_pure (N := N_law_q) (fun ds d h => ?_) (fun B S ds d h D hR hN => ?_) vs H Q E0⟩), hm, F.kp, F.binds fun _ _ _ _ _ _ us hl => match us, hl with | [_, _], _ => rfl⟩
  · obtain ⟨up, down, rfl, h0, h1, rfl⟩ := h; rfl
  · obtain ⟨up, down, rfl, h0, h1, rfl⟩ := h; simp
  · obtain ⟨up, down, rfl, h0, h1, rfl⟩ := h
    show Ss _ _ [.da (PyData.int up), .da (PyData.int down), .no, .no] _ _
    refine s_seq (s_par (ea_cons (ed_abs (ed_var rfl)) (ea_cons (ed_abs (ed_var rfl)) ea_nil)) (s_le (ρ1 := [.da (PyData.int up), .da (PyData.int down), .da (PyData.int ((up).natAbs : Int)), .da (PyData.int ((down).natAbs : Int))]) (le_rfl rfl) ?_))
    refine s_seq (s_while (α := Nat × Nat) (fun a => [.da (PyData.int up), .da (PyData.int down), .da (PyData.int (a.1 : Int)), .da (PyData.int (a.2 : Int))]) (fun a => Nat.gcd a.1 a.2 = Nat.gcd up.natAbs down.natAbs) (fun a => a.2) ((up.natAbs, down.natAbs)) (by rfl) (le_same (le_same (le_da (by rfl) (le_da (by rfl) le_nil)))) (fun a hP => ⟨_, _, (et_test (ed_B0 (ed_var rfl) ed_int)), fun hb => ?_, fun hb => ?_⟩))
    · refine (s_par (ea_cons (ed_var rfl) (ea_cons (ed_I (ed_intI (ed_var rfl)) (ed_intI (ed_var rfl)) (by have := of_decide_eq_true hb; omega)) ea_nil)) (s_le (ρ1 := [.da (PyData.int up), .da (PyData.int down), .da (PyData.int (a.2 : Int)), .da (PyData.int ((a.1 : Int) % (a.2 : Int)))]) (le_rfl rfl) ?_))
      exact s_endW ((a.2, a.1 % a.2)) (by exact (gcd_turn a.1 a.2).trans hP) (by have := of_decide_eq_true hb; exact Nat.mod_lt _ (by omega)) (le_same (le_same (le_da (by rfl) (le_da (by rfl) le_nil))))
    · exact s_ret (ed_is (ed_ite (e := eQ) (et_test (ed_B0 (ed_var rfl) ed_int)) (fun hb1 => (ed_is (ed_tup (ds := [(PyData.int (up / (a.1 : Int))), (PyData.int (down / (a.1 : Int)))]) (ea_cons (ed_I (ed_var rfl) (ed_var rfl) (by exact lawq_div h0 h1 hP hb)) (ea_cons (ed_I (ed_var rfl) (ed_var rfl) (by exact lawq_div h0 h1 hP hb)) ea_nil))) (by exact lawq_pos hP hb (by assumption) : _ = (eQ (Rat.divInt up down))))) (fun hb1 => (ed_is (ed_tup (ds := [(PyData.int (((0 : Int) - up) / (a.1 : Int))), (PyData.int (((0 : Int) - down) / (a.1 : Int)))]) (ea_cons (ed_I (ed_I0 ed_int (ed_var rfl)) (ed_var rfl) (by exact lawq_div h0 h1 hP hb)) (ea_cons (ed_I (ed_I0 ed_int (ed_var rfl)) (ed_var rfl) (by exact lawq_div h0 h1 hP hb)) ea_nil))) (by exact lawq_neg hP hb h0 (by assumption) : _ = (eQ (Rat.divInt up down)))))) (by rw [ite_self] : (eQ (if (decide ((0 : Int) < down)) = true then (Rat.divInt up down) else (Rat.divInt up down))) = (eQ (Rat.divInt up down)))) hR

/-! ### _law_add -/
abbrev s_law_add : Stmt := topS 42
abbrev N_law_add : List Str := ["one", "other"]
theorem sc_law_add : FnScope N_law_add ["one", "other"] (defScope s_law_add) := ⟨rfl, rfl, rfl, by decide +kernel, rfl, by decide +kernel, by decide +kernel⟩
def R_law_add : List PyData → PyData → Prop := fun ds d => ∃ (one : (Int × Int)) (other : (Int × Int)), ds = [((eP PyData.int PyData.int) one), ((eP PyData.int PyData.int) other)] ∧ (Pb one) ∧ (Pb other) ∧ d = (eQ (qv one + qv other))
set_option maxHeartbeats 4000000 in
theorem ok_law_add {P : Program} {w : World} {K : PySem.W.Frag} {mg : Str → Option Value} {base : Heap} (B : Gb mg) (F : Fd K mg "_law_add" s_law_add) (C_law_q : Cl P w K mg base 1 "_law_q" ["up", "down"] (SpP K R_law_q)) : Cl P w K mg base 2 "_law_add" ["one", "other"] (SpP K R_law_add) := by
  obtain ⟨f, fd, F, hm⟩ := F.ex
  refine ⟨f, fd, fnG_of (k := 1) F sc_law_add (spP_len fun ds d h => ?_) (fun cdv A outer s H hr hgd => ⟨_, (pss_one (ps_ret (pe_cl C_law_q (hr.mono (by decide)) hgd (by rfl) (pa_cons (pe_op op_add (pe_op op_mulG (pe_ix (r := rIxT K) ix_tup (pv 0) pe_int (fun _ _ => rfl)) (pe_ix (r := rIxT K) ix_tup (pv 1) pe_int (fun _ _ => rfl))) (pe_op op_mulG (pe_ix (r := rIxT K) ix_tup (pv 1) pe_int (fun _ _ => rfl)) (pe_ix (r := rIxT K) ix_tup (pv 0) pe_int (fun _ _ => rfl)))) (pa_cons (pe_op op_mulG (pe_ix (r := rIxT K) ix_tup (pv 0) pe_int (fun _ _ => rfl)) (pe_ix (r := rIxT K) ix_tup (pv 1) pe_int (fun _ _ => rfl))) pa_nil))))), fun vs Q => fn_pure (N := N_law_add) (fun ds d h => ?_) (fun B S ds d h D hR hN => ?_) vs H Q E0⟩), hm, F.kp, F.binds fun _ _ _ _ _ _ us hl => match us, hl with | [_, _], _ => rfl⟩
  · obtain ⟨one, other, rfl, h0, h1, rfl⟩ := h; rfl
  · obtain ⟨one, other, rfl, h0, h1, rfl⟩ := h; simp
  · obtain ⟨one, other, rfl, h0, h1, rfl⟩ := h
    show Ss _ _ [.da ((eP PyData.int PyData.int) one), .da ((eP PyData.int PyData.int) other)] _ _
    exact s_ret (ed_is (ed_call (ds := [(PyData.int (((one).1 * (other).2) + ((other).1 * (one).2))), (PyData.int ((one).2 * (other).2))]) (ea_cons (ed_I0 (ed_I (ed_ixT (ed_var rfl) ed_int rfl) (ed_ixT (ed_var rfl) ed_int rfl) (by first | exact mul_b h0.1 h1.2.2 | exact mul_b h1.1 h0.2.2 | exact mul_b h0.2.2 h1.2.2)) (ed_I (ed_ixT (ed_var rfl) ed_int rfl) (ed_ixT (ed_var rfl) ed_int rfl) (by first | exact mul_b h0.1 h1.2.2 | exact mul_b h1.1 h0.2.2 | exact mul_b h0.2.2 h1.2.2))) (ea_cons (ed_I (ed_ixT (ed_var rfl) ed_int rfl) (ed_ixT (ed_var rfl) ed_int rfl) (by first | exact mul_b h0.1 h1.2.2 | exact mul_b h1.1 h0.2.2 | exact mul_b h0.2.2 h1.2.2)) ea_nil)) ⟨(((one).1 * (other).2) + ((other).1 * (one).2)), ((one).2 * (other).2), rfl, by exact Int.mul_ne_zero h0.2.1 h1.2.1, by exact pb_den h0 h1, rfl⟩) (by exact congrArg eQ (pb_add h0 h1).symm : (eQ (Rat.divInt ((((one).1 * (other).2) + ((other).1 * (one).2))) (((one).2 * (other).2)))) = (eQ (qv one + qv other)))) hR

/-! ### _law_mul -/
abbrev s_law_mul : Stmt := topS 43
abbrev N_law_mul : List Str := ["one", "other"]
theorem sc_law_mul : FnScope N_law_mul ["one", "other"] (defScope s_law_mul) := ⟨rfl, rfl, rfl, by decide +kernel, rfl, by decide +kernel, by decide +kernel⟩
def R_law_mul : List PyData → PyData → Prop := fun ds d => ∃ (one : (Int × Int)) (other : (Int × Int)), ds = [((eP PyData.int PyData.int) one), ((eP PyData.int PyData.int) other)] ∧ (Pb one) ∧ (Pb other) ∧ d = (eQ (qv one * qv other))
set_option maxHeartbeats 4000000 in
theorem ok_law_mul {P : Program} {w : World} {K : PySem.W.Frag} {mg : Str → Option Value} {base : Heap} (B : Gb mg) (F : Fd K mg "_law_mul" s_law_mul) (C_law_q : Cl P w K mg base 1 "_law_q" ["up", "down"] (SpP K R_law_q)) : Cl P w K mg base 2 "_law_mul" ["one", "other"] (SpP K R_law_mul) := by
  obtain ⟨f, fd, F, hm⟩ := F.ex
  refine ⟨f, fd, fnG_of (k := 1) F sc_law_mul (spP_len fun ds d h => ?_) (fun cdv A outer s H hr hgd => ⟨_, (pss_one (ps_ret (pe_cl C_law_q (hr.mono (by decide)) hgd (by rfl) (pa_cons (pe_op op_mulG (pe_ix (r := rIxT K) ix_tup (pv 0) pe_int (fun _ _ => rfl)) (pe_ix (r := rIxT K) ix_tup (pv 1) pe_int (fun _ _ => rfl))) (pa_cons (pe_op op_mulG (pe_ix (r := rIxT K) ix_tup (pv 0) pe_int (fun _ _ => rfl)) (pe_ix (r := rIxT K) ix_tup (pv 1) pe_int (fun _ _ => rfl))) pa_nil))))), fun vs Q => fn_pure (N := N_law_mul) (fun ds d h => ?_) (fun B S ds d h D hR hN => ?_) vs H Q E0⟩), hm, F.kp, F.binds fun _ _ _ _ _ _ us hl => match us, hl with | [_, _], _ => rfl⟩
  · obtain ⟨one, other, rfl, h0, h1, rfl⟩ := h; rfl
  · obtain ⟨one, other, rfl, h0, h1, rfl⟩ := h; simp
  · obtain ⟨one, other, rfl, h0, h1, rfl⟩ := h
    show Ss _ _ [.da ((eP PyData.int PyData.int) one), .da ((eP PyData.int PyData.int) other)] _ _
    exact s_ret (ed_is (ed_call (ds := [(PyData.int ((one).1 * (other).1)), (PyData.int ((one).2 * (other).2))]) (ea_cons (ed_I (ed_ixT (ed_var rfl) ed_int rfl) (ed_ixT (ed_var rfl) ed_int rfl) (by first | exact mul_b h0.1 h1.1 | exact mul_b h0.2.2 h1.2.2)) (ea_cons (ed_I (ed_ixT (ed_var rfl) ed_int rfl) (ed_ixT (ed_var rfl) ed_int rfl) (by first | exact mul_b h0.1 h1.1 | exact mul_b h0.2.2 h1.2.2)) ea_nil)) ⟨((one).1 * (other).1), ((one).2 * (other).2), rfl, by exact Int.mul_ne_zero h0.2.1 h1.2.1, by exact pb_den h0 h1, rfl⟩) (by exact congrArg eQ (pb_mul _ _).symm : (eQ (Rat.divInt (((one).1 * (other).1)) (((one).2 * (other).2)))) = (eQ (qv one * qv other)))) hR

/-! ### _law_less -/
abbrev s_law_less : Stmt := topS 44
abbrev N_law_less : List Str := ["one", "other"]
theorem sc_law_less : FnScope N_law_less ["one", "other"] (defScope s_law_less) := ⟨rfl, rfl, rfl, by decide +kernel, rfl, by decide +kernel, by decide +kernel⟩
def R_law_less : List PyData → PyData → Prop := fun ds d => ∃ (one : (Int × Int)) (other : (Int × Int)), ds = [((eP PyData.int PyData.int) one), ((eP PyData.int PyData.int) other)] ∧ (0 < one.2) ∧ (0 < other.2) ∧ (Pb one) ∧ (Pb other) ∧ d = (PyData.bool (decide (qv one < qv other)))
set_option maxHeartbeats 4000000 in
theorem ok_law_less {P : Program} {w : World} {K : PySem.W.Frag} {mg : Str → Option Value} {base : Heap} (B : Gb mg) (F : Fd K mg "_law_less" s_law_less) : Cl P w K mg base 1 "_law_less" ["one", "other"] (SpP K R_law_less) := by
  obtain ⟨f, fd, F, hm⟩ := F.ex
  refine ⟨f, fd, fnG_of (k := 0) F sc_law_less (spP_len fun ds d h => ?_) (fun cdv A outer s H hr hgd => ⟨_, (pss_one (ps_ret (pe_cmpR op_lt (pe_op op_mulG (pe_ix (r := rIxT K) ix_tup (pv 0) pe_int (fun _ _ => rfl)) (pe_ix (r := rIxT K) ix_tup (pv 1) pe_int (fun _ _ => rfl))) (pe_op op_mulG (pe_ix (r := rIxT K) ix_tup (pv 1) pe_int (fun _ _ => rfl)) (pe_ix (r := rIxT K) ix_tup (pv 0) pe_int (fun _ _ => rfl))) (nomark _)))), fun vs Q => fn_pure (N := N_law_less) (fun ds d h => ?_) (fun B S ds d h D hR hN => ?_) vs H Q E0⟩), hm, F.kp, F.binds fun _ _ _ _ _ _ us hl => match us, hl with | [_, _], _ => rfl⟩
  · obtain ⟨one, other, rfl, h0, h1, h2, h3, rfl⟩ := h; rfl
  · obtain ⟨one, other, rfl, h0, h1, h2, h3, rfl⟩ := h; simp
  · obtain ⟨one, other, rfl, h0, h1, h2, h3, rfl⟩ := h
    show Ss _ _ [.da ((eP PyData.int PyData.int) one), .da ((eP PyData.int PyData.int) other)] _ _
    exact s_ret (ed_is (ed_B0 (ed_I (ed_ixT (ed_var rfl) ed_int rfl) (ed_ixT (ed_var rfl) ed_int rfl) (by first | exact mul_b h2.1 h3.2.2 | exact mul_b h3.1 h2.2.2)) (ed_I (ed_ixT (ed_var rfl) ed_int rfl) (ed_ixT (ed_var rfl) ed_int rfl) (by first | exact mul_b h2.1 h3.2.2 | exact mul_b h3.1 h2.2.2))) (by exact congrArg PyData.bool (less_iff h0 h1) : (PyData.bool (decide (((one).1 * (other).2) < ((other).1 * (one).2)))) = (PyData.bool (decide (qv one < qv other))))) hR

/-! ### _law_power -/
abbrev s_law_power : Stmt := topS 47
abbrev N_law_power : List Str := ["base", "many", "found", "k"]
theorem sc_law_power : FnScope N_law_power ["base", "many"] (defScope s_law_power) := ⟨rfl, rfl, rfl, by decide +kernel, rfl, by decide +kernel, by decide +kernel⟩
def R_law_power : List PyData → PyData → Prop := fun ds d => ∃ (base : Rat) (many : Int), ds = [(eQ base), (PyData.int many)] ∧ (0 ≤ many ∧ many ≤ 40) ∧ (Qk 100 base) ∧ d = (eQ (base ^ (many).toNat))
set_option maxHeartbeats 4000000 in
theorem ok_law_power {P : Program} {w : World} {K : PySem.W.Frag} {mg : Str → Option Value} {base : Heap} (B : Gb mg) (F : Fd K mg "_law_power" s_law_power) (C_law_mul : Cl P w K mg base 2 "_law_mul" ["one", "other"] (SpP K R_law_mul)) : Cl P w K mg base 3 "_law_power" ["base", "many"] (SpP K R_law_power) := by
  obtain ⟨f, fd, F, hm⟩ := F.ex
  refine ⟨f, fd, fnG_of (k := 2) F sc_law_power (spP_len fun ds d h => ?_) (fun cdv A outer s H hr hgd => ⟨_, (pss_cons (ps_set (i := 2) sc_law_power.nd rfl (Or.inl rfl) (pe_tupF (pa_cons pe_int (pa_cons pe_int pa_nil)))) (pss_cons (ps_for PassesOwn.never rfl (pi_range1 (by rfl) B.range_ (pa_cons (pv 1) pa_nil)) (pg_name (i := 3) sc_law_power.nd rfl (Or.inl rfl)) (pss_one (ps_set (i := 2) sc_law_power.nd rfl (Or.inl rfl) (pe_cl C_law_mul (hr.mono (by decide)) hgd (by rfl) (pa_cons (pv 2) (pa_cons (pv 0) pa_nil)))))) (pss_one (ps_ret (pv 2))))), fun vs Q => fn_pure (N := N_law_power) (fun ds d h => ?_) (fun B S ds d h D hR hN => ?_) vs H Q E0⟩), hm, F.kp, F.binds fun _ _ _ _ _ _ us hl => match us, hl with | [_, _], _ => rfl⟩
  · obtain ⟨base, many, rfl, h0, h1, rfl⟩ := h; rfl
  · obtain ⟨base, many, rfl, h0, h1, rfl⟩ := h; simp
  · obtain ⟨base, many, rfl, h0, h1, rfl⟩ := h
    show Ss _ _ [.da (eQ base), .da (PyData.int many), .no, .no] _ _
    refine s_seq (s_asg (ed_is (d1 := eQ (1 : Rat)) (ed_tup (ds := [PyData.int (1 : Int), PyData.int (1 : Int)]) (ea_cons ed_int (ea_cons ed_int ea_nil))) (by rfl)) (s_le (ρ1 := [.da (eQ base), .da (PyData.int many), .da (eQ (1 : Rat)), .no]) (le_rfl rfl) ?_))
    refine s_seq (s_forX ((List.range (many).toNat)) (fun (i : Nat) => Itm.hard (PyData.int (i : Int))) (ei_rng (ed_var rfl) (by omega)) (fun i0 => [.da (eQ base), .da (PyData.int many), .da (eQ (base ^ (i0))), .no]) (le_same (le_same (le_da (by rw [Rat.pow_zero]) (le_no le_nil)))) (fun T0 hT0 i0 x0 hx0 => ⟨_, [3], (eg_name (by simp)), ?_⟩) ?_)
    · show Ss _ _ [.da (eQ base), .da (PyData.int many), .da (eQ (base ^ (i0))), .da (PyData.int (x0 : Int))] _ _
      have hlt0 := (rng_get hx0).2
      refine s_le (ρ1 := [.da (eQ base), .da (PyData.int many), .da (eQ (base ^ (i0))), .da (PyData.int (i0 : Int))]) (le_rfl (by rw [(rng_get hx0).1])) ?_
      refine (s_asg (ed_is (ed_call (ds := [((eP PyData.int PyData.int) (qp (base ^ (i0)))), ((eP PyData.int PyData.int) (qp base))]) (ea_cons (ed_is (ed_var rfl) (rfl : _ = ((eP PyData.int PyData.int) (qp (base ^ (i0)))))) (ea_cons (ed_is (ed_var rfl) (rfl : _ = ((eP PyData.int PyData.int) (qp base)))) ea_nil)) ⟨(qp (base ^ (i0))), (qp base), rfl, by exact ((Qk_pow h1 _).qb (by omega)).pb, by exact (h1.qb (by decide)).pb, rfl⟩) (by simp only [qv_qp] : _ = (eQ ((base ^ (i0)) * base)))) (s_le (ρ1 := [.da (eQ base), .da (PyData.int many), .da (eQ ((base ^ (i0)) * base)), .da (PyData.int (i0 : Int))]) (le_rfl rfl) ?_))
      exact s_end (le_same (le_same (le_da (by rw [pow_succ']) (le_no le_nil))))
    exact s_ret (ed_is (ed_var rfl) (by rw [List.length_range] : (eQ (base ^ (((List.range (many).toNat)).length))) = (eQ (base ^ (many).toNat)))) hR

/-! ### _law_end -/
abbrev s_law_end : Stmt := topS 49
abbrev N_law_end : List Str := ["market", "claim", "price", "up", "down", "rate", "chance", "steps", "ways", "total", "ups", "part"]
theorem sc_law_end : FnScope N_law_end ["market", "claim"] (defScope s_law_end) := ⟨rfl, rfl, rfl, by decide +kernel, rfl, by decide +kernel, by decide +kernel⟩
def R_law_end : List PyData → PyData → Prop := fun ds d => ∃ (market : (Rat × Rat × Rat × Rat)) (claim : (List (List Int))), ds = [((eP4 eQ eQ eQ eQ) market), ((eT (eT PyData.int)) claim)] ∧ (MkOk market) ∧ (ClOk claim) ∧ d = (eQ (uadV market claim))
set_option maxHeartbeats 4000000 in
theorem ok_law_end {P : Program} {w : World} {K : PySem.W.Frag} {mg : Str → Option Value} {base : Heap} (B : Gb mg) (F : Fd K mg "_law_end" s_law_end) (C_law_add : Cl P w K mg base 2 "_law_add" ["one", "other"] (SpP K R_law_add)) (C_law_mul : Cl P w K mg base 2 "_law_mul" ["one", "other"] (SpP K R_law_mul)) (C_law_power : Cl P w K mg base 3 "_law_power" ["base", "many"] (SpP K R_law_power)) (C_judge_market : Cl P w K mg base 5 "judge_market" ["market"] (SpP K R_judge_market)) : Cl P w K mg base 6 "_law_end" ["market", "claim"] (SpP K R_law_end) := by
  obtain ⟨f, fd, F, hm⟩ := F.ex
  refine ⟨f, fd, fnG_of (k := 5) F sc_law_end (spP_len fun ds d h => ?_) (fun cdv A outer s H hr hgd => ⟨_, (pss_cons (ps_asg (pv 0) (pg_tup rfl (pgs_cons (pg_name (i := 2) sc_law_end.nd rfl (Or.inl rfl)) (pgs_cons (pg_name (i := 3) sc_law_end.nd rfl (Or.inl rfl)) (pgs_cons (pg_name (i := 4) sc_law_end.nd rfl (Or.inl rfl)) (pgs_cons (pg_name (i := 5) sc_law_end.nd rfl (Or.inl rfl)) pgs_nil))))) rfl) (pss_cons (ps_set (i := 6) sc_law_end.nd rfl (Or.inl rfl) (pe_ix (r := rIxT K) ix_tup (pe_cl C_judge_market (hr.mono (by decide)) hgd (by rfl) (pa_cons (pv 0) pa_nil)) pe_int (fun _ _ => rfl))) (pss_cons (ps_par3 (i := 7) (j := 8) (l := 9) rfl sc_law_end.nd rfl rfl rfl (by decide) (by decide) (by decide) rfl rfl rfl (pa_cons (pe_op op_sub (pe_callB (r := rLenS K) call_len_seq (by rfl) B.len_ PySem.boot_len (pa_cons (pv 1) pa_nil)) pe_int) (pa_cons pe_int (pa_cons (pe_tupF (pa_cons pe_int (pa_cons pe_int pa_nil))) pa_nil))) rfl) (pss_cons (ps_for PassesOwn.never rfl (pi_range1 (by rfl) B.range_ (pa_cons (pe_op op_add (pv 7) pe_int) pa_nil)) (pg_name (i := 10) sc_law_end.nd rfl (Or.inl rfl)) (pss_cons (ps_set (i := 11) sc_law_end.nd rfl (Or.inl rfl) (pe_cl C_law_mul (hr.mono (by decide)) hgd (by rfl) (pa_cons (pe_cl C_law_power (hr.mono (by decide)) hgd (by rfl) (pa_cons (pv 6) (pa_cons (pv 10) pa_nil))) (pa_cons (pe_cl C_law_power (hr.mono (by decide)) hgd (by rfl) (pa_cons (pe_tupF (pa_cons (pe_op op_sub (pe_ix (r := rIxT K) ix_tup (pv 6) pe_int (fun _ _ => rfl)) (pe_ix (r := rIxT K) ix_tup (pv 6) pe_int (fun _ _ => rfl))) (pa_cons (pe_ix (r := rIxT K) ix_tup (pv 6) pe_int (fun _ _ => rfl)) pa_nil))) (pa_cons (pe_op op_sub (pv 7) (pv 10)) pa_nil))) pa_nil)))) (pss_cons (ps_set (i := 9) sc_law_end.nd rfl (Or.inl rfl) (pe_cl C_law_add (hr.mono (by decide)) hgd (by rfl) (pa_cons (pv 9) (pa_cons (pe_cl C_law_mul (hr.mono (by decide)) hgd (by rfl) (pa_cons (pv 11) (pa_cons (pe_tupF (pa_cons (pe_op op_mulG (pv 8) (pe_ix (r := rIxT K) ix_tup (pe_ix (r := rIxT K) ix_tup (pv 1) (pe_un un_neg pe_int) (fun _ _ => rfl)) (pv 10) (fun _ _ => rfl))) (pa_cons pe_int pa_nil))) pa_nil))) pa_nil)))) (pss_one (ps_set (i := 8) sc_law_end.nd rfl (Or.inl rfl) (pe_op op_fdivG (pe_op op_mulG (pv 8) (pe_op op_sub (pv 7) (pv 10))) (pe_op op_add (pv 10) pe_int))))))) (pss_one (ps_ret (pe_cl C_law_mul (hr.mono (by decide)) hgd (by rfl) (pa_cons (pv 9) (pa_cons (pe_cl C_law_power (hr.mono (by decide)) hgd (by rfl) (pa_cons (pe_tupF (pa_cons (pe_ix (r := rIxT K) ix_tup (pv 5) pe_int (fun _ _ => rfl)) (pa_cons (pe_ix (r := rIxT K) ix_tup (pv 5) pe_int (fun _ _ => rfl)) pa_nil))) (pa_cons (pv 7) pa_nil))) pa_nil))))))))), fun vs Q => fn_pure (N := N_law_end) (fun ds d h => ?_) (fun B S ds d h D hR hN => ?_) vs H Q E0⟩), hm, F.kp, F.binds fun _ _ _ _ _ _ us hl => match us, hl with | [_, _], _ => rfl⟩
  · obtain ⟨market, claim, rfl, h0, h1, rfl⟩ := h; rfl
  · obtain ⟨market, claim, rfl, h0, h1, rfl⟩ := h; simp
  · obtain ⟨market, claim, rfl, h0, h1, rfl⟩ := h
    have hl1 := h1.1
    have hl2 := h1.2.1
    have hsh := share_qk h0
    have hco := cosh_qk h0
    show Ss _ _ [.da ((eP4 eQ eQ eQ eQ) market), .da ((eT (eT PyData.int)) claim), .no, .no, .no, .no, .no, .no, .no, .no, .no, .no] _ _
    refine s_seq (s_asgG (ws := [2, 3, 4, 5]) (ed_var rfl) (eg_tup (egs_cons (eg_name (by simp)) (egs_cons (eg_name (by simp)) (egs_cons (eg_name (by simp)) (egs_cons (eg_name (by simp)) egs_nil))))) (s_le (ρ1 := [.da ((eP4 eQ eQ eQ eQ) market), .da ((eT (eT PyData.int)) claim), .da (eQ (market).1), .da (eQ (market).2.1), .da (eQ (market).2.2.1), .da (eQ (market).2.2.2), .no, .no, .no, .no, .no, .no]) (le_rfl rfl) ?_))
    refine s_seq (s_asg (ed_ixT (ed_call (ds := [((eP4 eQ eQ eQ eQ) market)]) (ea_cons (ed_var rfl) ea_nil) ⟨market, rfl, by assumption, rfl⟩) ed_int rfl) (s_le (ρ1 := [.da ((eP4 eQ eQ eQ eQ) market), .da ((eT (eT PyData.int)) claim), .da (eQ (market).1), .da (eQ (market).2.1), .da (eQ (market).2.2.1), .da (eQ (market).2.2.2), .da (eQ ((((Str.ofString "fair", share (market)))).2)), .no, .no, .no, .no, .no]) (le_rfl rfl) ?_))
    refine s_seq (s_par3 (ea_cons (ed_I0 (ed_lenTX (ed_var rfl)) ed_int) (ea_cons ed_int (ea_cons (ed_is (d1 := eQ (0 : Rat)) (ed_tup (ds := [PyData.int (0 : Int), PyData.int (1 : Int)]) (ea_cons ed_int (ea_cons ed_int ea_nil))) (by rfl)) ea_nil))) (s_le (ρ1 := [.da ((eP4 eQ eQ eQ eQ) market), .da ((eT (eT PyData.int)) claim), .da (eQ (market).1), .da (eQ (market).2.1), .da (eQ (market).2.2.1), .da (eQ (market).2.2.2), .da (eQ ((((Str.ofString "fair", share (market)))).2)), .da (PyData.int (((claim).length : Int) - (1 : Int))), .da (PyData.int (1 : Int)), .da (eQ (0 : Rat)), .no, .no]) (le_rfl rfl) ?_))
    refine s_seq (s_forX ((List.range (((((claim).length : Int) - (1 : Int)) + (1 : Int))).toNat)) (fun (i : Nat) => Itm.hard (PyData.int (i : Int))) (ei_rng (ed_I0 (ed_var rfl) ed_int) (by omega)) (fun i0 => [.da ((eP4 eQ eQ eQ eQ) market), .da ((eT (eT PyData.int)) claim), .da (eQ (market).1), .da (eQ (market).2.1), .da (eQ (market).2.2.1), .da (eQ (market).2.2.2), .da (eQ ((((Str.ofString "fair", share (market)))).2)), .da (PyData.int (((claim).length : Int) - (1 : Int))), .da (PyData.int ((uad market claim (claim.length - 1) (i0)).2)), .da (eQ ((uad market claim (claim.length - 1) (i0)).1)), .no, .no]) (le_same (le_same (le_same (le_same (le_same (le_same (le_same (le_same (le_da (by rfl) (le_da (by rfl) (le_no (le_no le_nil)))))))))))) (fun T0 hT0 i0 x0 hx0 => ⟨_, [10], (eg_name (by simp)), ?_⟩) ?_)
    · show Ss _ _ [.da ((eP4 eQ eQ eQ eQ) market), .da ((eT (eT PyData.int)) claim), .da (eQ (market).1), .da (eQ (market).2.1), .da (eQ (market).2.2.1), .da (eQ (market).2.2.2), .da (eQ ((((Str.ofString "fair", share (market)))).2)), .da (PyData.int (((claim).length : Int) - (1 : Int))), .da (PyData.int ((uad market claim (claim.length - 1) (i0)).2)), .da (eQ ((uad market claim (claim.length - 1) (i0)).1)), .da (PyData.int (x0 : Int)), .no] _ _
      have hlt0 := (rng_get hx0).2
      refine s_le (ρ1 := [.da ((eP4 eQ eQ eQ eQ) market), .da ((eT (eT PyData.int)) claim), .da (eQ (market).1), .da (eQ (market).2.1), .da (eQ (market).2.2.1), .da (eQ (market).2.2.2), .da (eQ ((((Str.ofString "fair", share (market)))).2)), .da (PyData.int (((claim).length : Int) - (1 : Int))), .da (PyData.int ((uad market claim (claim.length - 1) (i0)).2)), .da (eQ ((uad market claim (claim.length - 1) (i0)).1)), .da (PyData.int (i0 : Int)), .no]) (le_rfl (by rw [(rng_get hx0).1])) ?_
      have hw := way_le (m := market) h1 (n := claim.length - 1) (k := i0) (by omega) (by omega)
      have hu := uad_small (m := market) (claim := claim) (n := claim.length - 1) (by omega) (k := i0) (by omega)
      have hq := uad_qk h0 h1 (n := claim.length - 1) (k := i0) (by omega) (by omega)
      refine s_seq (s_asg (ed_is (ed_call (ds := [((eP PyData.int PyData.int) (qp (((((Str.ofString "fair", share (market)))).2) ^ (((i0 : Int))).toNat))), ((eP PyData.int PyData.int) (qp (((1 - share market)) ^ ((((((claim).length : Int) - (1 : Int)) - (i0 : Int)))).toNat)))]) (ea_cons (ed_is (ed_call (ds := [(eQ ((((Str.ofString "fair", share (market)))).2)), (PyData.int (i0 : Int))]) (ea_cons (ed_var rfl) (ea_cons (ed_var rfl) ea_nil)) ⟨(((Str.ofString "fair", share (market)))).2, (i0 : Int), rfl, by omega, by exact hsh.mono (by decide), rfl⟩) (rfl : _ = ((eP PyData.int PyData.int) (qp (((((Str.ofString "fair", share (market)))).2) ^ (((i0 : Int))).toNat))))) (ea_cons (ed_is (ed_call (ds := [(eQ (1 - share market)), (PyData.int ((((claim).length : Int) - (1 : Int)) - (i0 : Int)))]) (ea_cons (ed_is (ed_tup (ds := [(PyData.int ((((((Str.ofString "fair", share (market)))).2).den : Int) - ((((Str.ofString "fair", share (market)))).2).num)), (PyData.int (((((Str.ofString "fair", share (market)))).2).den : Int))]) (ea_cons (ed_I0 (ed_ixT (ed_var rfl) ed_int rfl) (ed_ixT (ed_var rfl) ed_int rfl)) (ea_cons (ed_ixT (ed_var rfl) ed_int rfl) ea_nil))) (by exact congrArg PyData.tuple (co_pair _) : _ = (eQ (1 - share market)))) (ea_cons (ed_I0 (ed_var rfl) (ed_var rfl)) ea_nil)) ⟨(1 - share market), ((((claim).length : Int) - (1 : Int)) - (i0 : Int)), rfl, by omega, by exact hco.mono (by decide), rfl⟩) (rfl : _ = ((eP PyData.int PyData.int) (qp (((1 - share market)) ^ ((((((claim).length : Int) - (1 : Int)) - (i0 : Int)))).toNat))))) ea_nil)) ⟨(qp (((((Str.ofString "fair", share (market)))).2) ^ (((i0 : Int))).toNat)), (qp (((1 - share market)) ^ ((((((claim).length : Int) - (1 : Int)) - (i0 : Int)))).toNat)), rfl, by exact ((Qk_pow hsh _).qb (by omega)).pb, by exact ((Qk_pow hco _).qb (by omega)).pb, rfl⟩) (by simp only [qv_qp] : _ = (eQ ((((((Str.ofString "fair", share (market)))).2) ^ (((i0 : Int))).toNat) * (((1 - share market)) ^ ((((((claim).length : Int) - (1 : Int)) - (i0 : Int)))).toNat))))) (s_le (ρ1 := [.da ((eP4 eQ eQ eQ eQ) market), .da ((eT (eT PyData.int)) claim), .da (eQ (market).1), .da (eQ (market).2.1), .da (eQ (market).2.2.1), .da (eQ (market).2.2.2), .da (eQ ((((Str.ofString "fair", share (market)))).2)), .da (PyData.int (((claim).length : Int) - (1 : Int))), .da (PyData.int ((uad market claim (claim.length - 1) (i0)).2)), .da (eQ ((uad market claim (claim.length - 1) (i0)).1)), .da (PyData.int (i0 : Int)), .da (eQ ((((((Str.ofString "fair", share (market)))).2) ^ (((i0 : Int))).toNat) * (((1 - share market)) ^ ((((((claim).length : Int) - (1 : Int)) - (i0 : Int)))).toNat)))]) (le_rfl rfl) ?_))
      refine s_seq (s_asg (ed_is (ed_call (ds := [((eP PyData.int PyData.int) (qp ((uad market claim (claim.length - 1) (i0)).1))), ((eP PyData.int PyData.int) (qp (((((((Str.ofString "fair", share (market)))).2) ^ (((i0 : Int))).toNat) * (((1 - share market)) ^ ((((((claim).length : Int) - (1 : Int)) - (i0 : Int)))).toNat)) * ((((uad market claim (claim.length - 1) (i0)).2) * ixG (ixG claim (-(1 : Int))) (i0 : Int) : Int) : Rat))))]) (ea_cons (ed_is (ed_var rfl) (rfl : _ = ((eP PyData.int PyData.int) (qp ((uad market claim (claim.length - 1) (i0)).1))))) (ea_cons (ed_is (ed_is (ed_call (ds := [((eP PyData.int PyData.int) (qp ((((((Str.ofString "fair", share (market)))).2) ^ (((i0 : Int))).toNat) * (((1 - share market)) ^ ((((((claim).length : Int) - (1 : Int)) - (i0 : Int)))).toNat)))), ((eP PyData.int PyData.int) (qp ((((uad market claim (claim.length - 1) (i0)).2) * ixG (ixG claim (-(1 : Int))) (i0 : Int) : Int) : Rat)))]) (ea_cons (ed_is (ed_var rfl) (rfl : _ = ((eP PyData.int PyData.int) (qp ((((((Str.ofString "fair", share (market)))).2) ^ (((i0 : Int))).toNat) * (((1 - share market)) ^ ((((((claim).length : Int) - (1 : Int)) - (i0 : Int)))).toNat)))))) (ea_cons (ed_is (ed_is (ed_tup (ds := [(PyData.int (((uad market claim (claim.length - 1) (i0)).2) * (ixG (ixG claim (-1)) (i0 : Int)))), (PyData.int (1 : Int))]) (ea_cons (ed_I (ed_var rfl) (ed_ixTX (f := PyData.int) (l := (ixG claim (-1))) (ed_ixTX (f := (fun l : List Int => PyData.tuple (l.map PyData.int))) (l := claim) (ed_var rfl) (ed_neg ed_int) (by exact ⟨by omega, by omega⟩)) (ed_var rfl) (by exact inb (by rw [last_len h1]; omega))) (by first | exact mul_l (by omega) (by omega) | exact mul_l ⟨hu.1, by omega⟩ (by omega))) (ea_cons ed_int ea_nil))) (by rfl : _ = (eQ ((((uad market claim (claim.length - 1) (i0)).2) * ixG (ixG claim (-(1 : Int))) (i0 : Int) : Int) : Rat)))) (rfl : _ = ((eP PyData.int PyData.int) (qp ((((uad market claim (claim.length - 1) (i0)).2) * ixG (ixG claim (-(1 : Int))) (i0 : Int) : Int) : Rat))))) ea_nil)) ⟨(qp ((((((Str.ofString "fair", share (market)))).2) ^ (((i0 : Int))).toNat) * (((1 - share market)) ^ ((((((claim).length : Int) - (1 : Int)) - (i0 : Int)))).toNat))), (qp ((((uad market claim (claim.length - 1) (i0)).2) * ixG (ixG claim (-(1 : Int))) (i0 : Int) : Int) : Rat)), rfl, by exact ((Qk_mul (Qk_pow hsh _) (Qk_pow hco _)).qb (by omega)).pb, by exact ((int_qk hw).qb (by decide)).pb, rfl⟩) (by simp only [qv_qp] : _ = (eQ (((((((Str.ofString "fair", share (market)))).2) ^ (((i0 : Int))).toNat) * (((1 - share market)) ^ ((((((claim).length : Int) - (1 : Int)) - (i0 : Int)))).toNat)) * ((((uad market claim (claim.length - 1) (i0)).2) * ixG (ixG claim (-(1 : Int))) (i0 : Int) : Int) : Rat))))) (rfl : _ = ((eP PyData.int PyData.int) (qp (((((((Str.ofString "fair", share (market)))).2) ^ (((i0 : Int))).toNat) * (((1 - share market)) ^ ((((((claim).length : Int) - (1 : Int)) - (i0 : Int)))).toNat)) * ((((uad market claim (claim.length - 1) (i0)).2) * ixG (ixG claim (-(1 : Int))) (i0 : Int) : Int) : Rat)))))) ea_nil)) ⟨(qp ((uad market claim (claim.length - 1) (i0)).1)), (qp (((((((Str.ofString "fair", share (market)))).2) ^ (((i0 : Int))).toNat) * (((1 - share market)) ^ ((((((claim).length : Int) - (1 : Int)) - (i0 : Int)))).toNat)) * ((((uad market claim (claim.length - 1) (i0)).2) * ixG (ixG claim (-(1 : Int))) (i0 : Int) : Int) : Rat))), rfl, by exact (hq.qb (by decide)).pb, by exact ((Qk_mul (Qk_mul (Qk_pow hsh _) (Qk_pow hco _)) (int_qk hw)).qb (by omega)).pb, rfl⟩) (by simp only [qv_qp] : _ = (eQ (((uad market claim (claim.length - 1) (i0)).1) + (((((((Str.ofString "fair", share (market)))).2) ^ (((i0 : Int))).toNat) * (((1 - share market)) ^ ((((((claim).length : Int) - (1 : Int)) - (i0 : Int)))).toNat)) * ((((uad market claim (claim.length - 1) (i0)).2) * ixG (ixG claim (-(1 : Int))) (i0 : Int) : Int) : Rat)))))) (s_le (ρ1 := [.da ((eP4 eQ eQ eQ eQ) market), .da ((eT (eT PyData.int)) claim), .da (eQ (market).1), .da (eQ (market).2.1), .da (eQ (market).2.2.1), .da (eQ (market).2.2.2), .da (eQ ((((Str.ofString "fair", share (market)))).2)), .da (PyData.int (((claim).length : Int) - (1 : Int))), .da (PyData.int ((uad market claim (claim.length - 1) (i0)).2)), .da (eQ (((uad market claim (claim.length - 1) (i0)).1) + (((((((Str.ofString "fair", share (market)))).2) ^ (((i0 : Int))).toNat) * (((1 - share market)) ^ ((((((claim).length : Int) - (1 : Int)) - (i0 : Int)))).toNat)) * ((((uad market claim (claim.length - 1) (i0)).2) * ixG (ixG claim (-(1 : Int))) (i0 : Int) : Int) : Rat)))), .da (PyData.int (i0 : Int)), .da (eQ ((((((Str.ofString "fair", share (market)))).2) ^ (((i0 : Int))).toNat) * (((1 - share market)) ^ ((((((claim).length : Int) - (1 : Int)) - (i0 : Int)))).toNat)))]) (le_rfl rfl) ?_))
      refine (s_asg (ed_I (ed_I (ed_var rfl) (ed_I0 (ed_var rfl) (ed_var rfl)) (by first | exact mul_l (by omega) (by omega) | exact mul_l ⟨hu.1, by omega⟩ (by omega))) (ed_I0 (ed_var rfl) ed_int) (by exact div_small (by omega) (by omega))) (s_le (ρ1 := [.da ((eP4 eQ eQ eQ eQ) market), .da ((eT (eT PyData.int)) claim), .da (eQ (market).1), .da (eQ (market).2.1), .da (eQ (market).2.2.1), .da (eQ (market).2.2.2), .da (eQ ((((Str.ofString "fair", share (market)))).2)), .da (PyData.int (((claim).length : Int) - (1 : Int))), .da (PyData.int ((((uad market claim (claim.length - 1) (i0)).2) * ((((claim).length : Int) - (1 : Int)) - (i0 : Int))) / ((i0 : Int) + (1 : Int)))), .da (eQ (((uad market claim (claim.length - 1) (i0)).1) + (((((((Str.ofString "fair", share (market)))).2) ^ (((i0 : Int))).toNat) * (((1 - share market)) ^ ((((((claim).length : Int) - (1 : Int)) - (i0 : Int)))).toNat)) * ((((uad market claim (claim.length - 1) (i0)).2) * ixG (ixG claim (-(1 : Int))) (i0 : Int) : Int) : Rat)))), .da (PyData.int (i0 : Int)), .da (eQ ((((((Str.ofString "fair", share (market)))).2) ^ (((i0 : Int))).toNat) * (((1 - share market)) ^ ((((((claim).length : Int) - (1 : Int)) - (i0 : Int)))).toNat)))]) (le_rfl rfl) ?_))
      exact s_end (le_same (le_same (le_same (le_same (le_same (le_same (le_same (le_same (le_da (by exact congrArg PyData.int (uad_s2 (by omega))) (le_da (by exact congrArg eQ (uad_s1 (by omega))) (le_no (le_no le_nil))))))))))))
    exact s_ret (ed_is (ed_is (ed_call (ds := [((eP PyData.int PyData.int) (qp ((uad market claim (claim.length - 1) (((List.range (((((claim).length : Int) - (1 : Int)) + (1 : Int))).toNat)).length)).1))), ((eP PyData.int PyData.int) (qp (((market.2.2.2)⁻¹) ^ (((((claim).length : Int) - (1 : Int)))).toNat)))]) (ea_cons (ed_is (ed_var rfl) (rfl : _ = ((eP PyData.int PyData.int) (qp ((uad market claim (claim.length - 1) (((List.range (((((claim).length : Int) - (1 : Int)) + (1 : Int))).toNat)).length)).1))))) (ea_cons (ed_is (ed_call (ds := [(eQ (market.2.2.2)⁻¹), (PyData.int (((claim).length : Int) - (1 : Int)))]) (ea_cons (ed_is (ed_tup (ds := [(PyData.int (((market).2.2.2).den : Int)), (PyData.int ((market).2.2.2).num)]) (ea_cons (ed_ixT (ed_var rfl) ed_int rfl) (ea_cons (ed_ixT (ed_var rfl) ed_int rfl) ea_nil))) (by exact congrArg PyData.tuple (inv_pair (mk_pos h0).2.2) : _ = (eQ (market.2.2.2)⁻¹))) (ea_cons (ed_var rfl) ea_nil)) ⟨(market.2.2.2)⁻¹, (((claim).length : Int) - (1 : Int)), rfl, by omega, by exact (inv_qk h0).mono (by decide), rfl⟩) (rfl : _ = ((eP PyData.int PyData.int) (qp (((market.2.2.2)⁻¹) ^ (((((claim).length : Int) - (1 : Int)))).toNat))))) ea_nil)) ⟨(qp ((uad market claim (claim.length - 1) (((List.range (((((claim).length : Int) - (1 : Int)) + (1 : Int))).toNat)).length)).1)), (qp (((market.2.2.2)⁻¹) ^ (((((claim).length : Int) - (1 : Int)))).toNat)), rfl, by exact ((uad_qk h0 h1 (by omega) (by simp; omega)).qb (by decide)).pb, by exact ((Qk_pow (inv_qk h0) _).qb (by omega)).pb, rfl⟩) (by simp only [qv_qp] : _ = (eQ (((uad market claim (claim.length - 1) (((List.range (((((claim).length : Int) - (1 : Int)) + (1 : Int))).toNat)).length)).1) * (((market.2.2.2)⁻¹) ^ (((((claim).length : Int) - (1 : Int)))).toNat))))) (by rw [List.length_range, show ((claim.length : Int) - 1 + 1).toNat = claim.length by omega, show ((claim.length : Int) - 1).toNat = claim.length - 1 by omega]; exact congrArg eQ (uadV_inv h0 claim) : (eQ (((uad market claim (claim.length - 1) (((List.range (((((claim).length : Int) - (1 : Int)) + (1 : Int))).toNat)).length)).1) * (((market.2.2.2)⁻¹) ^ (((((claim).length : Int) - (1 : Int)))).toNat))) = (eQ (uadV market claim)))) hR

/-! ### _law_together -/
abbrev s_law_together : Stmt := topS 48
abbrev N_law_together : List Str := ["one", "other", "factor", "k", "n"]
theorem sc_law_together : FnScope N_law_together ["one", "other", "factor"] (defScope s_law_together) := ⟨rfl, rfl, rfl, by decide +kernel, rfl, by decide +kernel, by decide +kernel⟩
def R_law_together : List PyData → PyData → Prop := fun ds d => ∃ (one : (List (List Int))) (other : (List (List Int))) (factor : Int), ds = [((eT (eT PyData.int)) one), ((eT (eT PyData.int)) other), (PyData.int factor)] ∧ (ClOk one) ∧ (ClOk other) ∧ (one.length = other.length) ∧ (0 ≤ factor ∧ factor ≤ 10) ∧ d = ((eT (eT PyData.int)) (tog one other factor))
set_option maxHeartbeats 4000000 in
theorem ok_law_together {P : Program} {w : World} {K : PySem.W.Frag} {mg : Str → Option Value} {base : Heap} (B : Gb mg) (F : Fd K mg "_law_together" s_law_together) : Cl P w K mg base 1 "_law_together" ["one", "other", "factor"] (SpP K R_law_together) := by
  obtain ⟨f, fd, F, hm⟩ := F.ex
  refine ⟨f, fd, fnG_of (k := 0) F sc_law_together (spP_len fun ds d h => ?_) (fun cdv A outer s H hr hgd => ⟨_, (pss_one (ps_ret (pe_callTy (r := rTupOf K) call_tupleF (by rfl) B.tuple_ PyProof.Rows.boot_tuple (pa_cons (pe_lc (own := [("n", 4)]) (g := _) (tt := tYes) rfl sc_law_together.nd (pi_range1 (by rfl) B.range_ (pa_cons (pe_callB (r := rLenS K) call_len_seq (by rfl) B.len_ PySem.boot_len (pa_cons (pv 0) pa_nil)) pa_nil)) (blkOk_by (N := N_law_together) (sc := defScope s_law_together) (by decide +kernel)) (fun _ _ _ _ _ => (pg_name (i := 4) sc_law_together.nd rfl (by first | exact Or.inl rfl | exact Or.inr rfl))) (fun _ _ _ _ _ => pts_nil) (fun _ _ _ _ _ => (pe_callTy (r := rTupOf K) call_tupleF (by rfl) B.tuple_ PyProof.Rows.boot_tuple (pa_cons (pe_lc (own := [("k", 3)]) (g := _) (tt := tYes) rfl sc_law_together.nd (pi_range1 (by rfl) B.range_ (pa_cons (pe_op op_add (pv 4) pe_int) pa_nil)) (blkOk_by rfl) (fun _ _ _ _ _ => (pg_name (i := 3) sc_law_together.nd rfl (by first | exact Or.inl rfl | exact Or.inr rfl))) (fun _ _ _ _ _ => pts_nil) (fun _ _ _ _ _ => (pe_op op_add (pe_ix (r := rIxT K) ix_tup (pe_ix (r := rIxT K) ix_tup (pv 0) (pv 4) (fun _ _ => rfl)) (pv 3) (fun _ _ => rfl)) (pe_op op_mulG (pv 2) (pe_ix (r := rIxT K) ix_tup (pe_ix (r := rIxT K) ix_tup (pv 1) (pv 4) (fun _ _ => rfl)) (pv 3) (fun _ _ => rfl)))))) pa_nil)))) pa_nil)))), fun vs Q => fn_pure (N := N_law_together) (fun ds d h => ?_) (fun B S ds d h D hR hN => ?_) vs H Q E0⟩), hm, F.kp, F.binds fun _ _ _ _ _ _ us hl => match us, hl with | [_, _, _], _ => rfl⟩
  · obtain ⟨one, other, factor, rfl, h0, h1, h2, h3, rfl⟩ := h; rfl
  · obtain ⟨one, other, factor, rfl, h0, h1, h2, h3, rfl⟩ := h; simp
  · obtain ⟨one, other, factor, rfl, h0, h1, h2, h3, rfl⟩ := h
    show Ss _ _ [.da ((eT (eT PyData.int)) one), .da ((eT (eT PyData.int)) other), .da (PyData.int factor), .no, .no] _ _
    exact s_ret (ed_is (ed_tupleL (ed_L (el_lcAX (xs := (List.range (((one).length : Int)).toNat)) (ea := fun (i : Nat) => Itm.hard (PyData.int (i : Int))) (enc := (fun l : List Int => PyData.tuple (l.map PyData.int))) (fb := fun (x1 : Nat) => (((List.range (((x1 : Int) + (1 : Int))).toNat)).map fun (x2 : Nat) => ((ixG (ixG one (x1 : Int)) (x2 : Int)) + (factor * (ixG (ixG other (x1 : Int)) (x2 : Int)))))) (ei_rng (ed_lenTX (ed_var rfl)) (by have hl := h0.2.1; (try simp only [List.mem_range] at *); omega)) (by have hl := h0.2.1; (try simp only [List.mem_range, List.length_range] at *); omega) (by simp) (fun _ _ x1 hx1 => ⟨_, rfl, (eg_name (by simp)), (ed_tupleL (ed_L (el_lcAX (xs := (List.range (((x1 : Int) + (1 : Int))).toNat)) (ea := fun (i : Nat) => Itm.hard (PyData.int (i : Int))) (enc := PyData.int) (fb := fun (x2 : Nat) => ((ixG (ixG one (x1 : Int)) (x2 : Int)) + (factor * (ixG (ixG other (x1 : Int)) (x2 : Int))))) (ei_rng (ed_I0 (ed_var rfl) ed_int) (by have hl := h0.2.1; (try simp only [List.mem_range] at *); omega)) (by have hl := h0.2.1; (try simp only [List.mem_range, List.length_range] at *); omega) (by simp) (fun _ _ x2 hx2 => ⟨_, rfl, (eg_name (by simp)), (ed_I0 (ed_ixTX (f := PyData.int) (l := (ixG one (x1 : Int))) (ed_ixTX (f := (fun l : List Int => PyData.tuple (l.map PyData.int))) (l := one) (ed_var rfl) (ed_var rfl) (by (try simp only [List.mem_range] at *); first | exact inb (by omega) | exact inb (by rw [(cl_ix h0 (by omega)).1]; omega) | exact inb (by rw [(cl_ix h1 (by omega)).1]; omega))) (ed_var rfl) (by (try simp only [List.mem_range] at *); first | exact inb (by omega) | exact inb (by rw [(cl_ix h0 (by omega)).1]; omega) | exact inb (by rw [(cl_ix h1 (by omega)).1]; omega))) (ed_I (ed_var rfl) (ed_ixTX (f := PyData.int) (l := (ixG other (x1 : Int))) (ed_ixTX (f := (fun l : List Int => PyData.tuple (l.map PyData.int))) (l := other) (ed_var rfl) (ed_var rfl) (by (try simp only [List.mem_range] at *); first | exact inb (by omega) | exact inb (by rw [(cl_ix h0 (by omega)).1]; omega) | exact inb (by rw [(cl_ix h1 (by omega)).1]; omega))) (ed_var rfl) (by (try simp only [List.mem_range] at *); first | exact inb (by omega) | exact inb (by rw [(cl_ix h0 (by omega)).1]; omega) | exact inb (by rw [(cl_ix h1 (by omega)).1]; omega))) (by exact mul_l (by omega) (by omega))))⟩))))⟩)))) (by rfl : ((eT (eT PyData.int)) (((List.range (((one).length : Int)).toNat)).map fun (x1 : Nat) => (((List.range (((x1 : Int) + (1 : Int))).toNat)).map fun (x2 : Nat) => ((ixG (ixG one (x1 : Int)) (x2 : Int)) + (factor * (ixG (ixG other (x1 : Int)) (x2 : Int))))))) = ((eT (eT PyData.int)) (tog one other factor)))) hR

/-! ### _law_sub -/
abbrev s_law_sub : Stmt := topS 50
abbrev N_law_sub : List Str := ["claim", "step", "ups", "n"]
theorem sc_law_sub : FnScope N_law_sub ["claim", "step", "ups"] (defScope s_law_sub) := ⟨rfl, rfl, rfl, by decide +kernel, rfl, by decide +kernel, by decide +kernel⟩
def R_law_sub : List PyData → PyData → Prop := fun ds d => ∃ (claim : (List (List Int))) (step : Int) (ups : Int), ds = [((eT (eT PyData.int)) claim), (PyData.int step), (PyData.int ups)] ∧ (ClOk claim) ∧ (0 ≤ ups ∧ ups ≤ step ∧ step < claim.length) ∧ d = ((eT (eT PyData.int)) (subC claim step ups))
set_option maxHeartbeats 4000000 in
theorem ok_law_sub {P : Program} {w : World} {K : PySem.W.Frag} {mg : Str → Option Value} {base : Heap} (B : Gb mg) (F : Fd K mg "_law_sub" s_law_sub) : Cl P w K mg base 1 "_law_sub" ["claim", "step", "ups"] (SpP K R_law_sub) := by
  obtain ⟨f, fd, F, hm⟩ := F.ex
  refine ⟨f, fd, fnG_of (k := 0) F sc_law_sub (spP_len fun ds d h => ?_) (fun cdv A outer s H hr hgd => ⟨_, (pss_one (ps_ret (pe_callTy (r := rTupOf K) call_tupleF (by rfl) B.tuple_ PyProof.Rows.boot_tuple (pa_cons (pe_lc (own := [("n", 3)]) (g := _) (tt := tYes) rfl sc_law_sub.nd (pi_range2 (by rfl) B.range_ (pa_cons (pv 1) (pa_cons (pe_callB (r := rLenS K) call_len_seq (by rfl) B.len_ PySem.boot_len (pa_cons (pv 0) pa_nil)) pa_nil))) (blkOk_by (N := N_law_sub) (sc := defScope s_law_sub) (by decide +kernel)) (fun _ _ _ _ _ => (pg_name (i := 3) sc_law_sub.nd rfl (by first | exact Or.inl rfl | exact Or.inr rfl))) (fun _ _ _ _ _ => pts_nil) (fun _ _ _ _ _ => (pe_slice (r := rSlF K) sl_tupF (pe_ix (r := rIxT K) ix_tup (pv 0) (pv 3) (fun _ _ => rfl)) (po_some (pv 2)) (po_some (pe_op op_add (pe_op op_sub (pe_op op_add (pv 2) (pv 3)) (pv 1)) pe_int))))) pa_nil)))), fun vs Q => fn_pure (N := N_law_sub) (fun ds d h => ?_) (fun B S ds d h D hR hN => ?_) vs H Q E0⟩), hm, F.kp, F.binds fun _ _ _ _ _ _ us hl => match us, hl with | [_, _, _], _ => rfl⟩
  · obtain ⟨claim, step, ups, rfl, h0, h1, rfl⟩ := h; rfl
  · obtain ⟨claim, step, ups, rfl, h0, h1, rfl⟩ := h; simp
  · obtain ⟨claim, step, ups, rfl, h0, h1, rfl⟩ := h
    show Ss _ _ [.da ((eT (eT PyData.int)) claim), .da (PyData.int step), .da (PyData.int ups), .no] _ _
    exact s_ret (ed_is (ed_tupleL (ed_L (el_lcAX (xs := (rngX step ((claim).length : Int))) (ea := fun (i : Int) => Itm.hard (PyData.int i)) (enc := (fun l : List Int => PyData.tuple (l.map PyData.int))) (fb := fun (x1 : Int) => (cutX (ixG claim x1) (some ups) (some (((ups + x1) - step) + (1 : Int))))) (ei_rngX2 (ed_var rfl) (ed_lenTX (ed_var rfl)) (by have hl := h0.2.1; omega)) (by have hl := h0.2.1; unfold rngX; rw [List.length_map, List.length_range]; omega) (by simp) (fun _ _ x1 hx1 => ⟨_, rfl, (eg_name (by simp)), (ed_sliceT (ed_ixTX (f := (fun l : List Int => PyData.tuple (l.map PyData.int))) (l := claim) (ed_var rfl) (ed_var rfl) (by obtain ⟨k, hk, rfl⟩ := List.mem_map.mp (by assumption); have := List.mem_range.mp hk; exact inb (by omega))) (eo_some (ed_var rfl)) (eo_some (ed_I0 (ed_I0 (ed_I0 (ed_var rfl) (ed_var rfl)) (ed_var rfl)) ed_int)))⟩)))) (by rfl : ((eT (eT PyData.int)) (((rngX step ((claim).length : Int))).map fun (x1 : Int) => (cutX (ixG claim x1) (some ups) (some (((ups + x1) - step) + (1 : Int)))))) = ((eT (eT PyData.int)) (subC claim step ups)))) hR

/-! ### _law_same -/
abbrev s_law_same : Stmt := topS 40
abbrev N_law_same : List Str := ["actual", "due"]
theorem sc_law_same : FnScope N_law_same ["actual", "due"] (defScope s_law_same) := ⟨rfl, rfl, rfl, by decide +kernel, rfl, by decide +kernel, by decide +kernel⟩
def R_law_same : List PyData → PyData → Prop := fun ds d => ∃ (actual : PyData) (due : PyData), ds = [actual, due] ∧ (actual = due) ∧ (Gd 20 15000000 actual) ∧ d = (PyData.bool (true))
set_option maxHeartbeats 4000000 in
theorem ok_law_same {P : Program} {w : World} {K : PySem.W.Frag} {mg : Str → Option Value} {base : Heap} (B : Gb mg) (F : Fd K mg "_law_same" s_law_same) : Cl P w K mg base 1 "_law_same" ["actual", "due"] (SpP K R_law_same) := by
  obtain ⟨f, fd, F, hm⟩ := F.ex
  refine ⟨f, fd, fnG_of (k := 0) F sc_law_same (spP_len fun ds d h => ?_) (fun cdv A outer s H hr hgd => ⟨_, (pss_one (ps_ret (pe_and (pe_cmpR (r := rEqD K) (op_eqD hr.units) (pv 0) (pv 1) (nomark _)) (pe_one (pe_cmpR op_eq (pe_callB (r := rRepr K) (call_repr hgd (Nat.lt_of_le_of_lt (Nat.add_le_add_left (by decide : 61 ≤ 64) _) hr.units)) (by rfl) B.repr_ (by decide +kernel) (pa_cons (pv 0) pa_nil)) (pe_callB (r := rRepr K) (call_repr hgd (Nat.lt_of_le_of_lt (Nat.add_le_add_left (by decide : 61 ≤ 64) _) hr.units)) (by rfl) B.repr_ (by decide +kernel) (pa_cons (pv 1) pa_nil)) (nomark _)))))), fun vs Q => fn_pure (N := N_law_same) (fun ds d h => ?_) (fun B S ds d h D hR hN => ?_) vs H Q E0⟩), hm, F.kp, F.binds fun _ _ _ _ _ _ us hl => match us, hl with | [_, _], _ => rfl⟩
  · obtain ⟨actual, due, rfl, h0, h1, rfl⟩ := h; rfl
  · obtain ⟨actual, due, rfl, h0, h1, rfl⟩ := h; simp
  · obtain ⟨actual, due, rfl, h0, h1, rfl⟩ := h
    show Ss _ _ [.da actual, .da due] _ _
    exact s_ret (ed_is (ed_and (ed_eq (ed_var rfl) (ed_var rfl) (by exact gd_shaped h1) (by exact gd_shaped (h0 ▸ h1))) (fun hb1 => (ed_eqS (ed_repr (ed_var rfl) (by exact gd_show h1)) (ed_repr (ed_var rfl) (by exact gd_show (h0 ▸ h1)))))) (by exact same_ret h0 h1 : (PyData.bool ((PyData.eqv actual due) && (decide ((PyData.shown actual) = (PyData.shown due))))) = (PyData.bool (true)))) hR

/-! ### _law_market -/
abbrev s_law_market : Stmt := topS 45
abbrev N_law_market : List Str := ["state", "parts", "k", "at", "low"]
theorem sc_law_market : FnScope N_law_market ["state"] (defScope s_law_market) := ⟨rfl, rfl, rfl, by decide +kernel, rfl, by decide +kernel, by decide +kernel⟩
def R_law_market : List PyData → (PyData → Prop) → Prop := fun ds Φ => ds = [] ∧ ∀ z : (Rat × Rat × Rat × Rat), MkOk z → Φ ((eP4 eQ eQ eQ eQ) z)
set_option maxHeartbeats 4000000 in
theorem ok_law_market {P : Program} {w : World} {K : PySem.W.Frag} {mg : Str → Option Value} {base : Heap} (B : Gb mg) (F : Fd K mg "_law_market" s_law_market) (C_law_draw : Cl P w K mg base 1 "_law_draw" ["state", "many"] (SpW K R_draw)) (C_law_pick : Cl P w K mg base 2 "_law_pick" ["state", "some"] (SpW K R_pick)) (C_law_q : Cl P w K mg base 1 "_law_q" ["up", "down"] (SpP K R_law_q)) : Cl P w K mg base 3 "_law_market" ["state"] (SpW K R_law_market) := by
  obtain ⟨f, fd, F, hm⟩ := F.ex
  refine ⟨f, fd, fnG_of (k := 2) F sc_law_market (spW_len fun ds d h => ?_) (fun cdv A outer s H hr hgd => ⟨_, (pss_cons (ps_set (i := 1) sc_law_market.nd rfl (Or.inl rfl) (pe_callB (r := rSortedSet w) (cr_sortedSet rfl) (by rfl) B.sorted_ (by decide +kernel) (pa_cons (pe_callTy (r := rSetLI K w) (cr_setLI rfl) (by rfl) B.set_ (by decide +kernel) (pa_cons (pe_op (r := rCatG K) op_catG (pe_lc (own := [("k", 2)]) (g := _) (tt := tYes) rfl sc_law_market.nd (pi_range1 (by rfl) B.range_ (pa_cons pe_int pa_nil)) (blkOk_by (N := N_law_market) (sc := defScope s_law_market) (by decide +kernel)) (fun _ _ _ _ _ => (pg_name (i := 2) sc_law_market.nd rfl (by first | exact Or.inl rfl | exact Or.inr rfl))) (fun _ _ _ _ _ => pts_nil) (fun _ _ _ _ _ => (pe_op op_add pe_int (pe_cl C_law_draw (hr.mono (by decide)) hgd (by rfl) (pa_cons (pv 0) (pa_cons pe_int pa_nil)))))) (pe_lst (pa_cons pe_int (pa_cons pe_int (pa_cons pe_int pa_nil))))) pa_nil)) pa_nil))) (pss_cons (ps_set (i := 3) sc_law_market.nd rfl (Or.inl rfl) (pe_cl C_law_draw (hr.mono (by decide)) hgd (by rfl) (pa_cons (pv 0) (pa_cons (pe_op op_sub (pe_callB (r := rLenS K) call_len_seq (by rfl) B.len_ PySem.boot_len (pa_cons (pv 1) pa_nil)) pe_int) pa_nil)))) (pss_cons (ps_set (i := 4) sc_law_market.nd rfl (Or.inl rfl) (pe_cl C_law_pick (hr.mono (by decide)) hgd (by rfl) (pa_cons (pv 0) (pa_cons (pe_lst (pa_cons pe_int (pa_cons pe_int (pa_cons pe_int pa_nil)))) pa_nil)))) (pss_one (ps_ret (pe_tupF (pa_cons (pe_cl C_law_q (hr.mono (by decide)) hgd (by rfl) (pa_cons (pe_op op_add pe_int (pe_cl C_law_draw (hr.mono (by decide)) hgd (by rfl) (pa_cons (pv 0) (pa_cons pe_int pa_nil)))) (pa_cons (pe_op op_add pe_int (pe_cl C_law_draw (hr.mono (by decide)) hgd (by rfl) (pa_cons (pv 0) (pa_cons pe_int pa_nil)))) pa_nil))) (pa_cons (pe_cl C_law_q (hr.mono (by decide)) hgd (by rfl) (pa_cons (pe_ix (r := rIxL K) ix_list (pv 1) (pe_op op_add (pv 3) pe_int) (fun _ _ => rfl)) (pa_cons (pv 4) pa_nil))) (pa_cons (pe_cl C_law_q (hr.mono (by decide)) hgd (by rfl) (pa_cons (pe_ix (r := rIxL K) ix_list (pv 1) (pv 3) (fun _ _ => rfl)) (pa_cons (pv 4) pa_nil))) (pa_cons (pe_cl C_law_q (hr.mono (by decide)) hgd (by rfl) (pa_cons (pe_ix (r := rIxL K) ix_list (pv 1) (pe_op op_add (pv 3) pe_int) (fun _ _ => rfl)) (pa_cons (pv 4) pa_nil))) pa_nil)))))))))), fun vs Q => fn_draws (N := N_law_market) (fun ds d h => ?_) (fun B S a ds Φ h D hR => ?_) vs H Q E0⟩), hm, F.kp, F.binds fun _ _ _ _ _ _ us hl => match us, hl with | [_], _ => rfl⟩
  · obtain ⟨rfl, hΦ⟩ := h; rfl
  · obtain ⟨rfl, hΦ⟩ := h; simp
  · obtain ⟨rfl, hΦ⟩ := h
    show Ss _ _ [.mu false a (.any StOk), .no, .no, .no, .no] _ _
    refine s_seq (s_asgW (ew_L (ewl_sortU (P := (fun z16 => ∃ x10 y11, (fun l => Fa (fun (x1 : Nat) z => (fun z9 => ∃ x3 y4, (fun y => y = (2 : Int)) x3 ∧ (fun x => 0 ≤ x ∧ x < (12 : Int)) y4 ∧ z9 = (fun _ y4 => ((2 : Int) + y4)) x3 y4) z) (List.range ((6 : Int)).toNat) l) x10 ∧ (fun y => y = [(3 : Int), (7 : Int), (11 : Int)]) y11 ∧ z16 = (fun x10 _ => (x10 ++ [(3 : Int), (7 : Int), (11 : Int)])) x10 y11)) (ew_L (ewl_op (e := fun l : List Int => l.map PyData.int) (F := (fun x10 _ => (x10 ++ [(3 : Int), (7 : Int), (11 : Int)]))) (ew_L (el_lcW1 (xs := (List.range ((6 : Int)).toNat)) (ea := fun (i : Nat) => Itm.hard (PyData.int (i : Int))) (eb := PyData.int) (R := fun (x1 : Nat) z => (fun z9 => ∃ x3 y4, (fun y => y = (2 : Int)) x3 ∧ (fun x => 0 ≤ x ∧ x < (12 : Int)) y4 ∧ z9 = (fun _ y4 => ((2 : Int) + y4)) x3 y4) z) (ei_rng ed_int (by omega)) (by simp) (by simp) (fun _ _ x1 hx2 => ⟨_, rfl, (eg_name (by simp)), (ew_op (e := PyData.int) (F := (fun _ y4 => ((2 : Int) + y4))) (ew_det (f := PyData.int) (x := (2 : Int)) ed_int) (ew_drawD (i := 0) ed_int rfl rfl (by omega)) (fun x3 y4 hx5 hy6 _ _ _ ha7 hb8 => by subst hx5; exact (ed_I0 ha7 hb8)))⟩))) (ew_det (f := (fun l : List Int => PyData.list (l.map PyData.int))) (x := [(3 : Int), (7 : Int), (11 : Int)]) (ed_L (el_lst (ds := [(3 : Int), (7 : Int), (11 : Int)].map PyData.int) (ea_cons ed_int (ea_cons ed_int (ea_cons ed_int ea_nil)))))) (fun x10 y11 hx12 hy13 _ _ _ ha14 hb15 => by subst hy13; exact (el_cat ha14 hb15 (by have hz := (by assumption : Fa _ _ _).len; simp at hz; simp; omega))))) (fun l17 hl18 => by exact parts_few (by assumption)))) (fun parts_v h_parts_v => s_le (ρ1 := [.mu false a (.any StOk), .da ((eL PyData.int) parts_v), .no, .no, .no]) (le_rfl rfl) ?_))
    try dsimp only at h_parts_v
    have hp := parts_ok h_parts_v
    have hpl := hp.2.2
    have hpu : parts_v.length < 64 := parts_len h_parts_v
    refine s_seq (s_asgW (ew_drawD (i := 0) (ed_I0 (ed_lenLX (ed_var rfl)) ed_int) rfl rfl (by omega)) (fun at_v h_at_v => s_le (ρ1 := [.mu false a (.any StOk), .da ((eL PyData.int) parts_v), .no, .da (PyData.int at_v), .no]) (le_rfl rfl) ?_))
    try dsimp only at h_at_v
    have hat : 0 ≤ at_v ∧ at_v < (parts_v.length : Int) - 2 := h_at_v
    refine s_seq (s_asgW (ew_pickLD (i := 0) (ed_L (el_lst (ds := [(1 : Int), (5 : Int), (7 : Int)].map PyData.int) (ea_cons ed_int (ea_cons ed_int (ea_cons ed_int ea_nil))))) rfl rfl (by simp)) (fun low_v h_low_v => s_le (ρ1 := [.mu false a (.any StOk), .da ((eL PyData.int) parts_v), .no, .da (PyData.int at_v), .da (PyData.int low_v)]) (le_rfl rfl) ?_))
    try dsimp only at h_low_v
    have hlow : low_v = 1 ∨ low_v = 5 ∨ low_v = 7 := by simpa using h_low_v
    exact s_retW (i := 0) (ew_as (g := (eP4 eQ eQ eQ eQ)) (R := (fun q36 => (fun z => ∃ (x34 : Int × Int × Unit), ((fun z26 => ∃ x20 y21, (fun y => y = (1 : Int)) x20 ∧ (fun x => 0 ≤ x ∧ x < (50 : Int)) y21 ∧ z26 = (fun _ y21 => ((1 : Int) + y21)) x20 y21) x34.1 ∧ (fun z33 => ∃ x27 y28, (fun y => y = (1 : Int)) x27 ∧ (fun x => 0 ≤ x ∧ x < (3 : Int)) y28 ∧ z33 = (fun _ y28 => ((1 : Int) + y28)) x27 y28) x34.2.1 ∧ True) ∧ z = (Rat.divInt (x34.1) (x34.2.1))) q36.1 ∧ (fun y => y = (Rat.divInt ((ixG parts_v (at_v + (2 : Int)))) (low_v))) q36.2.1 ∧ (fun y => y = (Rat.divInt ((ixG parts_v at_v)) (low_v))) q36.2.2.1 ∧ (fun y => y = (Rat.divInt ((ixG parts_v (at_v + (1 : Int)))) (low_v))) q36.2.2.2)) (ew_tup (ds := fun p : Rat × Rat × Rat × Rat × Unit => [(eQ p.1), (eQ p.2.1), (eQ p.2.2.1), (eQ p.2.2.2.1)]) (n := 4) (ewa_cons (ew_call (e := eQ) (F := (fun (x34 : Int × Int × Unit) => (Rat.divInt (x34.1) (x34.2.1)))) (ds := fun (x34 : Int × Int × Unit) => [(PyData.int x34.1), (PyData.int x34.2.1)]) (ewa_cons (ew_op (e := PyData.int) (F := (fun _ y21 => ((1 : Int) + y21))) (ew_det (f := PyData.int) (x := (1 : Int)) ed_int) (ew_drawD (i := 0) ed_int rfl rfl (by omega)) (fun x20 y21 hx22 hy23 _ _ _ ha24 hb25 => by subst hx22; exact (ed_I0 ha24 hb25))) (ewa_cons (ew_op (e := PyData.int) (F := (fun _ y28 => ((1 : Int) + y28))) (ew_det (f := PyData.int) (x := (1 : Int)) ed_int) (ew_drawD (i := 0) ed_int rfl rfl (by omega)) (fun x27 y28 hx29 hy30 _ _ _ ha31 hb32 => by subst hx29; exact (ed_I0 ha31 hb32))) ewa_nil)) (fun x34 hx35 => by exact ⟨x34.1, x34.2.1, rfl, by exact one_ne hx35.2.1, by exact one_lt hx35.2.1 (by decide), rfl⟩)) (ewa_cons (ew_det (f := eQ) (x := (Rat.divInt ((ixG parts_v (at_v + (2 : Int)))) (low_v))) (ed_call (ds := [(PyData.int (ixG parts_v (at_v + (2 : Int)))), (PyData.int low_v)]) (ea_cons (ed_ixLX (f := PyData.int) (l := parts_v) (ed_var rfl) (ed_I0 (ed_var rfl) ed_int) (by exact inb (by omega))) (ea_cons (ed_var rfl) ea_nil)) ⟨(ixG parts_v (at_v + (2 : Int))), low_v, rfl, by omega, by exact small_lt (by omega), rfl⟩)) (ewa_cons (ew_det (f := eQ) (x := (Rat.divInt ((ixG parts_v at_v)) (low_v))) (ed_call (ds := [(PyData.int (ixG parts_v at_v)), (PyData.int low_v)]) (ea_cons (ed_ixLX (f := PyData.int) (l := parts_v) (ed_var rfl) (ed_var rfl) (by exact inb (by omega))) (ea_cons (ed_var rfl) ea_nil)) ⟨(ixG parts_v at_v), low_v, rfl, by omega, by exact small_lt (by omega), rfl⟩)) (ewa_cons (ew_det (f := eQ) (x := (Rat.divInt ((ixG parts_v (at_v + (1 : Int)))) (low_v))) (ed_call (ds := [(PyData.int (ixG parts_v (at_v + (1 : Int)))), (PyData.int low_v)]) (ea_cons (ed_ixLX (f := PyData.int) (l := parts_v) (ed_var rfl) (ed_I0 (ed_var rfl) ed_int) (by exact inb (by omega))) (ea_cons (ed_var rfl) ea_nil)) ⟨(ixG parts_v (at_v + (1 : Int))), low_v, rfl, by omega, by exact small_lt (by omega), rfl⟩)) ewa_nil)))) (fun _ => rfl)) (fun p hp => ⟨(p.1, p.2.1, p.2.2.1, p.2.2.2.1), ⟨hp.1, hp.2.1, hp.2.2.1, hp.2.2.2.1⟩, rfl⟩)) rfl hR (fun x hx => by (try dsimp only at hx); exact hΦ _ (market_made hp hat hlow hx))

/-! ### _law_claim -/
abbrev s_law_claim : Stmt := topS 46
abbrev N_law_claim : List Str := ["state", "steps", "top", "ups", "step"]
theorem sc_law_claim : FnScope N_law_claim ["state", "steps", "top"] (defScope s_law_claim) := ⟨rfl, rfl, rfl, by decide +kernel, rfl, by decide +kernel, by decide +kernel⟩
def R_law_claim : List PyData → (PyData → Prop) → Prop := fun ds Φ => ∃ (steps : Int) (top : Int), ds = [(PyData.int steps), (PyData.int top)] ∧ (0 ≤ steps ∧ steps ≤ 12) ∧ (0 ≤ top ∧ top ≤ 1000) ∧ ∀ z : (List (List Int)), ClB steps top z → Φ ((eT (eT PyData.int)) z)
set_option maxHeartbeats 4000000 in
theorem ok_law_claim {P : Program} {w : World} {K : PySem.W.Frag} {mg : Str → Option Value} {base : Heap} (B : Gb mg) (F : Fd K mg "_law_claim" s_law_claim) (C_law_draw : Cl P w K mg base 1 "_law_draw" ["state", "many"] (SpW K R_draw)) : Cl P w K mg base 2 "_law_claim" ["state", "steps", "top"] (SpW K R_law_claim) := by
  obtain ⟨f, fd, F, hm⟩ := F.ex
  refine ⟨f, fd, fnG_of (k := 1) F sc_law_claim (spW_len fun ds d h => ?_) (fun cdv A outer s H hr hgd => ⟨_, (pss_one (ps_ret (pe_callTy (r := rTupOf K) call_tupleF (by rfl) B.tuple_ PyProof.Rows.boot_tuple (pa_cons (pe_lc (own := [("step", 4)]) (g := _) (tt := tYes) rfl sc_law_claim.nd (pi_range1 (by rfl) B.range_ (pa_cons (pe_op op_add (pv 1) pe_int) pa_nil)) (blkOk_by (N := N_law_claim) (sc := defScope s_law_claim) (by decide +kernel)) (fun _ _ _ _ _ => (pg_name (i := 4) sc_law_claim.nd rfl (by first | exact Or.inl rfl | exact Or.inr rfl))) (fun _ _ _ _ _ => pts_nil) (fun _ _ _ _ _ => (pe_callTy (r := rTupOf K) call_tupleF (by rfl) B.tuple_ PyProof.Rows.boot_tuple (pa_cons (pe_lc (own := [("ups", 3)]) (g := _) (tt := tYes) rfl sc_law_claim.nd (pi_range1 (by rfl) B.range_ (pa_cons (pe_op op_add (pv 4) pe_int) pa_nil)) (blkOk_by rfl) (fun _ _ _ _ _ => (pg_name (i := 3) sc_law_claim.nd rfl (by first | exact Or.inl rfl | exact Or.inr rfl))) (fun _ _ _ _ _ => pts_nil) (fun _ _ _ _ _ => (pe_cl C_law_draw (hr.mono (by decide)) hgd (by rfl) (pa_cons (pv 0) (pa_cons (pe_op op_add (pv 2) pe_int) pa_nil))))) pa_nil)))) pa_nil)))), fun vs Q => fn_draws (N := N_law_claim) (fun ds d h => ?_) (fun B S a ds Φ h D hR => ?_) vs H Q E0⟩), hm, F.kp, F.binds fun _ _ _ _ _ _ us hl => match us, hl with | [_, _, _], _ => rfl⟩
  · obtain ⟨steps, top, rfl, h0, h1, hΦ⟩ := h; rfl
  · obtain ⟨steps, top, rfl, h0, h1, hΦ⟩ := h; simp
  · obtain ⟨steps, top, rfl, h0, h1, hΦ⟩ := h
    show Ss _ _ [.mu false a (.any StOk), .da (PyData.int steps), .da (PyData.int top), .no, .no] _ _
    exact s_retW (i := 0) (ew_imp (R := (fun l => Fa (fun (x1 : Nat) z => (fun l => Fa (fun (x3 : Nat) z => (fun x => 0 ≤ x ∧ x < (top + (1 : Int))) z) (List.range (((x1 : Int) + (1 : Int))).toNat) l) z) (List.range ((steps + (1 : Int))).toNat) l)) (ew_cb1 (e := (fun l : List (List Int) => PyData.tuple (l.map (eT PyData.int)))) (F := (fun x9 => x9)) (ew_L (el_lcW1 (xs := (List.range ((steps + (1 : Int))).toNat)) (ea := fun (i : Nat) => Itm.hard (PyData.int (i : Int))) (eb := (fun l : List Int => PyData.tuple (l.map PyData.int))) (R := fun (x1 : Nat) z => (fun l => Fa (fun (x3 : Nat) z => (fun x => 0 ≤ x ∧ x < (top + (1 : Int))) z) (List.range (((x1 : Int) + (1 : Int))).toNat) l) z) (ei_rng (ed_I0 (ed_var rfl) ed_int) (by first | omega | (have := List.mem_range.mp (by assumption); omega))) (by first | (simp; omega) | (have := List.mem_range.mp (by assumption); simp; omega)) (by simp) (fun _ _ x1 hx2 => ⟨_, rfl, (eg_name (by simp)), (ew_imp (R := (fun l => Fa (fun (x3 : Nat) z => (fun x => 0 ≤ x ∧ x < (top + (1 : Int))) z) (List.range (((x1 : Int) + (1 : Int))).toNat) l)) (ew_cb1 (e := (fun l : List Int => PyData.tuple (l.map PyData.int))) (F := (fun x5 => x5)) (ew_L (el_lcW1 (xs := (List.range (((x1 : Int) + (1 : Int))).toNat)) (ea := fun (i : Nat) => Itm.hard (PyData.int (i : Int))) (eb := PyData.int) (R := fun (x3 : Nat) z => (fun x => 0 ≤ x ∧ x < (top + (1 : Int))) z) (ei_rng (ed_I0 (ed_var rfl) ed_int) (by first | omega | (have := List.mem_range.mp (by assumption); omega))) (by first | (simp; omega) | (have := List.mem_range.mp (by assumption); simp; omega)) (by simp) (fun _ _ x3 hx4 => ⟨_, rfl, (eg_name (by simp)), (ew_drawD (i := 0) (ed_I0 (ed_var rfl) ed_int) rfl rfl (by omega))⟩))) (fun x5 hx6 _ _ ha7 => (ed_tupleL ha7))) (fun _ ⟨_, h, e⟩ => by subst e; exact h))⟩))) (fun x9 hx10 _ _ ha11 => (ed_tupleL ha11))) (fun _ ⟨_, h, e⟩ => by subst e; exact h)) rfl hR (fun x hx => by (try dsimp only at hx); exact hΦ _ (claim_made h0.1 hx))

/-! ### _law_any_holds -/
abbrev s_law_any_holds : Stmt := topS 51
abbrev N_law_any_holds : List Str := ["state", "market", "one", "other", "both", "tables", "claim", "ends", "steps", "n", "k", "step", "ups", "price", "node"]
theorem sc_law_any_holds : FnScope N_law_any_holds ["state", "market", "one", "other"] (defScope s_law_any_holds) := ⟨rfl, rfl, rfl, by decide +kernel, rfl, by decide +kernel, by decide +kernel⟩
def R_law_any_holds : List PyData → (PyData → Prop) → Prop := fun ds Φ => ∃ (market : (Rat × Rat × Rat × Rat)) (one : (List (List Int))) (other : (List (List Int))), ds = [((eP4 eQ eQ eQ eQ) market), ((eT (eT PyData.int)) one), ((eT (eT PyData.int)) other)] ∧ (MkOk market) ∧ (ClOk one) ∧ (ClOk other) ∧ (one.length = other.length) ∧ (ClOk (tog one other 1)) ∧ ∀ z : Bool, z = true → Φ (PyData.bool z)
set_option maxHeartbeats 4000000 in
theorem ok_law_any_holds {P : Program} {w : World} {K : PySem.W.Frag} {mg : Str → Option Value} {base : Heap} (B : Gb mg) (F : Fd K mg "_law_any_holds" s_law_any_holds) (C_law_add : Cl P w K mg base 2 "_law_add" ["one", "other"] (SpP K R_law_add)) (C_law_draw : Cl P w K mg base 1 "_law_draw" ["state", "many"] (SpW K R_draw)) (C_law_less : Cl P w K mg base 1 "_law_less" ["one", "other"] (SpP K R_law_less)) (C_law_mul : Cl P w K mg base 2 "_law_mul" ["one", "other"] (SpP K R_law_mul)) (C_law_power : Cl P w K mg base 3 "_law_power" ["base", "many"] (SpP K R_law_power)) (C_law_same : Cl P w K mg base 1 "_law_same" ["actual", "due"] (SpP K R_law_same)) (C_law_sub : Cl P w K mg base 1 "_law_sub" ["claim", "step", "ups"] (SpP K R_law_sub)) (C_law_together : Cl P w K mg base 1 "_law_together" ["one", "other", "factor"] (SpP K R_law_together)) (C_first_uses : Cl P w K mg base 7 "first_uses" ["market", "claim"] (SpP K R_first_uses)) (C_price_at : Cl P w K mg base 6 "price_at" ["market", "step", "ups"] (SpP K R_price_at)) (C_worths : Cl P w K mg base 7 "worths" ["market", "claim", "kind"] (SpP K R_worths)) : Cl P w K mg base 8 "_law_any_holds" ["state", "market", "one", "other"] (SpW K R_law_any_holds) := by
  obtain ⟨f, fd, F, hm⟩ := F.ex
  refine ⟨f, fd, fnG_of (k := 7) F sc_law_any_holds (spW_len fun ds d h => ?_) (fun cdv A outer s H hr hgd => ⟨_, (pss_cons (ps_set (i := 4) sc_law_any_holds.nd rfl (Or.inl rfl) (pe_cl C_law_together (hr.mono (by decide)) hgd (by rfl) (pa_cons (pv 2) (pa_cons (pv 3) (pa_cons pe_int pa_nil))))) (pss_cons (ps_set (i := 5) sc_law_any_holds.nd rfl (Or.inr rfl) (pe_lc (own := [("claim", 6)]) (g := _) (tt := tYes) rfl sc_law_any_holds.nd (pi_list (pe_lst (pa_cons (pv 2) (pa_cons (pv 3) (pa_cons (pv 4) pa_nil))))) (blkOk_by (N := N_law_any_holds) (sc := defScope s_law_any_holds) (by decide +kernel)) (fun _ _ _ _ _ => (pg_name (i := 6) sc_law_any_holds.nd rfl (by first | exact Or.inl rfl | exact Or.inr rfl))) (fun _ _ _ _ _ => pts_nil) (fun _ _ _ _ _ => (pe_cl C_worths (hr.mono (by decide)) hgd (by rfl) (pa_cons (pv 1) (pa_cons (pv 6) (pa_cons pe_str pa_nil))))))) (pss_cons (ps_set (i := 7) sc_law_any_holds.nd rfl (Or.inl rfl) (pe_cl C_worths (hr.mono (by decide)) hgd (by rfl) (pa_cons (pv 1) (pa_cons (pv 2) (pa_cons pe_str pa_nil))))) (pss_cons (ps_set (i := 8) sc_law_any_holds.nd rfl (Or.inl rfl) (pe_op op_sub (pe_callB (r := rLenS K) call_len_seq (by rfl) B.len_ PySem.boot_len (pa_cons (pv 2) pa_nil)) pe_int)) (pss_cons (ps_for PassesOwn.never rfl (pi_range1 (by rfl) B.range_ (pa_cons (pe_op op_add (pv 8) pe_int) pa_nil)) (pg_name (i := 9) sc_law_any_holds.nd rfl (Or.inl rfl)) (pss_one (ps_for PassesOwn.never rfl (pi_range1 (by rfl) B.range_ (pa_cons (pe_op op_add (pv 9) pe_int) pa_nil)) (pg_name (i := 10) sc_law_any_holds.nd rfl (Or.inl rfl)) (pss_cons (ps_if (PW.pt (pw_or (pt_truth (pe_cl C_law_less (hr.mono (by decide)) hgd (by rfl) (pa_cons (pe_ix (r := rIxT K) ix_tup (pe_ix (r := rIxT K) ix_tup (pe_ix (r := rIxL K) ix_list (pv 5) pe_int (fun _ _ => rfl)) (pv 9) (fun _ _ => rfl)) (pv 10) (fun _ _ => rfl)) (pa_cons (pe_ix (r := rIxT K) ix_tup (pe_ix (r := rIxT K) ix_tup (pv 7) (pv 9) (fun _ _ => rfl)) (pv 10) (fun _ _ => rfl)) pa_nil))) (fun _ => rfl)) (pw_or (pt_truth (pe_cl C_law_less (hr.mono (by decide)) hgd (by rfl) (pa_cons (pe_ix (r := rIxT K) ix_tup (pe_ix (r := rIxT K) ix_tup (pe_ix (r := rIxL K) ix_list (pv 5) pe_int (fun _ _ => rfl)) (pv 9) (fun _ _ => rfl)) (pv 10) (fun _ _ => rfl)) (pa_cons (pe_tupF (pa_cons (pe_ix (r := rIxT K) ix_tup (pe_ix (r := rIxT K) ix_tup (pv 2) (pv 9) (fun _ _ => rfl)) (pv 10) (fun _ _ => rfl)) (pa_cons pe_int pa_nil))) pa_nil))) (fun _ => rfl)) (pw_or1 (pt_truth (pe_cl C_law_less (hr.mono (by decide)) hgd (by rfl) (pa_cons (pe_ix (r := rIxT K) ix_tup (pe_ix (r := rIxT K) ix_tup (pe_ix (r := rIxL K) ix_list (pv 5) pe_int (fun _ _ => rfl)) (pv 9) (fun _ _ => rfl)) (pv 10) (fun _ _ => rfl)) (pa_cons (pe_ix (r := rIxT K) ix_tup (pe_ix (r := rIxT K) ix_tup (pe_ix (r := rIxL K) ix_list (pv 5) pe_int (fun _ _ => rfl)) (pv 9) (fun _ _ => rfl)) (pv 10) (fun _ _ => rfl)) pa_nil))) (fun _ => rfl)))))) pss_never pss_nil) (pss_one (ps_if (pt_truth (pe_cl C_law_less (hr.mono (by decide)) hgd (by rfl) (pa_cons (pe_cl C_law_add (hr.mono (by decide)) hgd (by rfl) (pa_cons (pe_ix (r := rIxT K) ix_tup (pe_ix (r := rIxT K) ix_tup (pe_ix (r := rIxL K) ix_list (pv 5) pe_int (fun _ _ => rfl)) (pv 9) (fun _ _ => rfl)) (pv 10) (fun _ _ => rfl)) (pa_cons (pe_ix (r := rIxT K) ix_tup (pe_ix (r := rIxT K) ix_tup (pe_ix (r := rIxL K) ix_list (pv 5) pe_int (fun _ _ => rfl)) (pv 9) (fun _ _ => rfl)) (pv 10) (fun _ _ => rfl)) pa_nil))) (pa_cons (pe_ix (r := rIxT K) ix_tup (pe_ix (r := rIxT K) ix_tup (pe_ix (r := rIxL K) ix_list (pv 5) pe_int (fun _ _ => rfl)) (pv 9) (fun _ _ => rfl)) (pv 10) (fun _ _ => rfl)) pa_nil))) (fun _ => rfl)) pss_never pss_nil)))))) (pss_cons (ps_set (i := 11) sc_law_any_holds.nd rfl (Or.inl rfl) (pe_cl C_law_draw (hr.mono (by decide)) hgd (by rfl) (pa_cons (pv 0) (pa_cons (pe_op op_add (pv 8) pe_int) pa_nil)))) (pss_cons (ps_set (i := 12) sc_law_any_holds.nd rfl (Or.inl rfl) (pe_cl C_law_draw (hr.mono (by decide)) hgd (by rfl) (pa_cons (pv 0) (pa_cons (pe_op op_add (pv 11) pe_int) pa_nil)))) (pss_cons (ps_set (i := 13) sc_law_any_holds.nd rfl (Or.inl rfl) (pe_cl C_law_mul (hr.mono (by decide)) hgd (by rfl) (pa_cons (pe_ix (r := rIxT K) ix_tup (pv 1) pe_int (fun _ _ => rfl)) (pa_cons (pe_cl C_law_mul (hr.mono (by decide)) hgd (by rfl) (pa_cons (pe_cl C_law_power (hr.mono (by decide)) hgd (by rfl) (pa_cons (pe_ix (r := rIxT K) ix_tup (pv 1) pe_int (fun _ _ => rfl)) (pa_cons (pv 12) pa_nil))) (pa_cons (pe_cl C_law_power (hr.mono (by decide)) hgd (by rfl) (pa_cons (pe_ix (r := rIxT K) ix_tup (pv 1) pe_int (fun _ _ => rfl)) (pa_cons (pe_op op_sub (pv 11) (pv 12)) pa_nil))) pa_nil))) pa_nil)))) (pss_cons (ps_if (pt_not (pt_truth (pe_cl C_law_same (hr.mono (by decide)) hgd (by rfl) (pa_cons (pe_lst (pa_cons (pe_cl C_price_at (hr.mono (by decide)) hgd (by rfl) (pa_cons (pv 1) (pa_cons (pv 11) (pa_cons (pv 12) pa_nil)))) (pa_cons (pe_ix (r := rIxT K) ix_tup (pe_ix (r := rIxT K) ix_tup (pe_cl C_worths (hr.mono (by decide)) hgd (by rfl) (pa_cons (pv 1) (pa_cons (pe_cl C_law_sub (hr.mono (by decide)) hgd (by rfl) (pa_cons (pv 2) (pa_cons (pv 11) (pa_cons (pv 12) pa_nil)))) (pa_cons pe_str pa_nil)))) pe_int (fun _ _ => rfl)) pe_int (fun _ _ => rfl)) pa_nil))) (pa_cons (pe_lst (pa_cons (pv 13) (pa_cons (pe_ix (r := rIxT K) ix_tup (pe_ix (r := rIxT K) ix_tup (pe_ix (r := rIxL K) ix_list (pv 5) pe_int (fun _ _ => rfl)) (pv 11) (fun _ _ => rfl)) (pv 12) (fun _ _ => rfl)) pa_nil))) pa_nil))) (fun _ => rfl))) pss_never pss_nil) (pss_one (ps_ret (pe_notT (pe_lc (own := [("node", 14)]) (g := _) (tt := _) rfl sc_law_any_holds.nd (pi_tup (pe_cl C_first_uses (hr.mono (by decide)) hgd (by rfl) (pa_cons (pv 1) (pa_cons (pv 2) pa_nil)))) (blkOk_by (N := N_law_any_holds) (sc := defScope s_law_any_holds) (by decide +kernel)) (fun _ _ _ _ _ => (pg_name (i := 14) sc_law_any_holds.nd rfl (by first | exact Or.inl rfl | exact Or.inr rfl))) (fun _ _ _ _ _ => (pts_one (pt_cmpR (r := rNeD K) (op_neD hr.units) (pe_ix (r := rIxT K) ix_tup (pe_ix (r := rIxT K) ix_tup (pe_ix (r := rIxL K) ix_list (pv 5) pe_int (fun _ _ => rfl)) (pe_ix (r := rIxT K) ix_tup (pv 14) pe_int (fun _ _ => rfl)) (fun _ _ => rfl)) (pe_ix (r := rIxT K) ix_tup (pv 14) pe_int (fun _ _ => rfl)) (fun _ _ => rfl)) (pe_tupF (pa_cons (pe_ix (r := rIxT K) ix_tup (pe_ix (r := rIxT K) ix_tup (pv 2) (pe_ix (r := rIxT K) ix_tup (pv 14) pe_int (fun _ _ => rfl)) (fun _ _ => rfl)) (pe_ix (r := rIxT K) ix_tup (pv 14) pe_int (fun _ _ => rfl)) (fun _ _ => rfl)) (pa_cons pe_int pa_nil))) (nomark _)))) (fun _ _ _ _ _ => (pv 14))))))))))))))), fun vs Q => fn_draws (N := N_law_any_holds) (fun ds d h => ?_) (fun B S a ds Φ h D hR => ?_) vs H Q E0⟩), hm, F.kp, F.binds fun _ _ _ _ _ _ us hl => match us, hl with | [_, _, _, _], _ => rfl⟩
  · obtain ⟨market, one, other, rfl, h0, h1, h2, h3, h4, hΦ⟩ := h; rfl
  · obtain ⟨market, one, other, rfl, h0, h1, h2, h3, h4, hΦ⟩ := h; simp
  · obtain ⟨market, one, other, rfl, h0, h1, h2, h3, h4, hΦ⟩ := h
    have hl1 := h1.1
    have hl2 := h1.2.1
    show Ss _ _ [.mu false a (.any StOk), .da ((eP4 eQ eQ eQ eQ) market), .da ((eT (eT PyData.int)) one), .da ((eT (eT PyData.int)) other), .no, .no, .no, .no, .no, .no, .no, .no, .no, .no, .no] _ _
    refine s_seq (s_asg (ed_call (ds := [((eT (eT PyData.int)) one), ((eT (eT PyData.int)) other), (PyData.int (1 : Int))]) (ea_cons (ed_var rfl) (ea_cons (ed_var rfl) (ea_cons ed_int ea_nil))) ⟨one, other, (1 : Int), rfl, by assumption, by assumption, by assumption, by decide, rfl⟩) (s_le (ρ1 := [.mu false a (.any StOk), .da ((eP4 eQ eQ eQ eQ) market), .da ((eT (eT PyData.int)) one), .da ((eT (eT PyData.int)) other), .da ((eT (eT PyData.int)) (tog (one) (other) ((1 : Int)))), .no, .no, .no, .no, .no, .no, .no, .no, .no, .no]) (le_rfl rfl) ?_))
    refine s_seq (s_asg (ed_L (el_lcAX (xs := [one, other, (tog (one) (other) ((1 : Int)))]) (ea := fun x => Itm.hard ((eT (eT PyData.int)) x)) (enc := (fun l : List (List Rat) => PyData.tuple (l.map (eT eQ)))) (fb := fun (x1 : (List (List Int))) => (wOf (market) ((Str.ofString "any")) (x1))) (ei_listX (ed_L (el_lst (ds := [one, other, (tog (one) (other) ((1 : Int)))].map (eT (eT PyData.int))) (ea_cons (ed_var rfl) (ea_cons (ed_var rfl) (ea_cons (ed_var rfl) ea_nil)))))) (by simp) (by simp) (fun _ _ x1 hx1 => ⟨_, rfl, (eg_name (by simp)), (ed_call (ds := [((eP4 eQ eQ eQ eQ) market), ((eT (eT PyData.int)) x1), (PyData.str (Str.ofString "any"))]) (ea_cons (ed_var rfl) (ea_cons (ed_var rfl) (ea_cons ed_str ea_nil))) ⟨market, x1, (Str.ofString "any"), rfl, by assumption, by rcases mem3 (by assumption) with e | e | e <;> rw [e] <;> assumption, by exact Or.inl rfl, rfl⟩)⟩))) (s_le (ρ1 := [.mu false a (.any StOk), .da ((eP4 eQ eQ eQ eQ) market), .da ((eT (eT PyData.int)) one), .da ((eT (eT PyData.int)) other), .da ((eT (eT PyData.int)) (tog (one) (other) ((1 : Int)))), .da ((eL (eT (eT eQ))) (([one, other, (tog (one) (other) ((1 : Int)))]).map fun (x1 : (List (List Int))) => (wOf (market) ((Str.ofString "any")) (x1)))), .no, .no, .no, .no, .no, .no, .no, .no, .no]) (le_rfl rfl) ?_))
    refine s_seq (s_asg (ed_call (ds := [((eP4 eQ eQ eQ eQ) market), ((eT (eT PyData.int)) one), (PyData.str (Str.ofString "end"))]) (ea_cons (ed_var rfl) (ea_cons (ed_var rfl) (ea_cons ed_str ea_nil))) ⟨market, one, (Str.ofString "end"), rfl, by assumption, by assumption, by exact Or.inr rfl, rfl⟩) (s_le (ρ1 := [.mu false a (.any StOk), .da ((eP4 eQ eQ eQ eQ) market), .da ((eT (eT PyData.int)) one), .da ((eT (eT PyData.int)) other), .da ((eT (eT PyData.int)) (tog (one) (other) ((1 : Int)))), .da ((eL (eT (eT eQ))) (([one, other, (tog (one) (other) ((1 : Int)))]).map fun (x1 : (List (List Int))) => (wOf (market) ((Str.ofString "any")) (x1)))), .no, .da ((eT (eT eQ)) (wOf (market) ((Str.ofString "end")) (one))), .no, .no, .no, .no, .no, .no, .no]) (le_rfl rfl) ?_))
    refine s_seq (s_asg (ed_I0 (ed_lenTX (ed_var rfl)) ed_int) (s_le (ρ1 := [.mu false a (.any StOk), .da ((eP4 eQ eQ eQ eQ) market), .da ((eT (eT PyData.int)) one), .da ((eT (eT PyData.int)) other), .da ((eT (eT PyData.int)) (tog (one) (other) ((1 : Int)))), .da ((eL (eT (eT eQ))) (([one, other, (tog (one) (other) ((1 : Int)))]).map fun (x1 : (List (List Int))) => (wOf (market) ((Str.ofString "any")) (x1)))), .no, .da ((eT (eT eQ)) (wOf (market) ((Str.ofString "end")) (one))), .da (PyData.int (((one).length : Int) - (1 : Int))), .no, .no, .no, .no, .no, .no]) (le_rfl rfl) ?_))
    refine s_seq (s_forX ((List.range (((((one).length : Int) - (1 : Int)) + (1 : Int))).toNat)) (fun (i : Nat) => Itm.hard (PyData.int (i : Int))) (ei_rng (ed_I0 (ed_var rfl) ed_int) (by omega)) (fun i0 => [.mu false a (.any StOk), .da ((eP4 eQ eQ eQ eQ) market), .da ((eT (eT PyData.int)) one), .da ((eT (eT PyData.int)) other), .da ((eT (eT PyData.int)) (tog (one) (other) ((1 : Int)))), .da ((eL (eT (eT eQ))) (([one, other, (tog (one) (other) ((1 : Int)))]).map fun (x1 : (List (List Int))) => (wOf (market) ((Str.ofString "any")) (x1)))), .no, .da ((eT (eT eQ)) (wOf (market) ((Str.ofString "end")) (one))), .da (PyData.int (((one).length : Int) - (1 : Int))), .no, .no, .no, .no, .no, .no]) (le_same (le_same (le_same (le_same (le_same (le_same (le_no (le_same (le_same (le_no (le_no (le_no (le_no (le_no (le_no le_nil))))))))))))))) (fun T0 hT0 i0 x0 hx0 => ⟨_, [9], (eg_name (by simp)), ?_⟩) ?_)
    · show Ss _ _ [.mu false a (.any StOk), .da ((eP4 eQ eQ eQ eQ) market), .da ((eT (eT PyData.int)) one), .da ((eT (eT PyData.int)) other), .da ((eT (eT PyData.int)) (tog (one) (other) ((1 : Int)))), .da ((eL (eT (eT eQ))) (([one, other, (tog (one) (other) ((1 : Int)))]).map fun (x1 : (List (List Int))) => (wOf (market) ((Str.ofString "any")) (x1)))), .no, .da ((eT (eT eQ)) (wOf (market) ((Str.ofString "end")) (one))), .da (PyData.int (((one).length : Int) - (1 : Int))), .da (PyData.int (x0 : Int)), .no, .no, .no, .no, .no] _ _
      have hlt0 := (rng_get hx0).2
      refine s_le (ρ1 := [.mu false a (.any StOk), .da ((eP4 eQ eQ eQ eQ) market), .da ((eT (eT PyData.int)) one), .da ((eT (eT PyData.int)) other), .da ((eT (eT PyData.int)) (tog (one) (other) ((1 : Int)))), .da ((eL (eT (eT eQ))) (([one, other, (tog (one) (other) ((1 : Int)))]).map fun (x1 : (List (List Int))) => (wOf (market) ((Str.ofString "any")) (x1)))), .no, .da ((eT (eT eQ)) (wOf (market) ((Str.ofString "end")) (one))), .da (PyData.int (((one).length : Int) - (1 : Int))), .da (PyData.int (i0 : Int)), .no, .no, .no, .no, .no]) (le_rfl (by rw [(rng_get hx0).1])) ?_
      have hi0 : i0 < one.length := by omega
      have ra := w_row (m := market) (kind := anyL) h1 hi0
      have rb := w_row (m := market) (kind := anyL) h2 (h3 ▸ hi0)
      have rc := w_row (m := market) (kind := anyL) h4 (s := i0) (by rw [tog_len]; exact hi0)
      have re := w_row (m := market) (kind := endL) h1 hi0
      refine (s_forX ((List.range (((i0 : Int) + (1 : Int))).toNat)) (fun (i : Nat) => Itm.hard (PyData.int (i : Int))) (ei_rng (ed_I0 (ed_var rfl) ed_int) (by omega)) (fun i1 => [.mu false a (.any StOk), .da ((eP4 eQ eQ eQ eQ) market), .da ((eT (eT PyData.int)) one), .da ((eT (eT PyData.int)) other), .da ((eT (eT PyData.int)) (tog (one) (other) ((1 : Int)))), .da ((eL (eT (eT eQ))) (([one, other, (tog (one) (other) ((1 : Int)))]).map fun (x1 : (List (List Int))) => (wOf (market) ((Str.ofString "any")) (x1)))), .no, .da ((eT (eT eQ)) (wOf (market) ((Str.ofString "end")) (one))), .da (PyData.int (((one).length : Int) - (1 : Int))), .da (PyData.int (i0 : Int)), .no, .no, .no, .no, .no]) (le_same (le_same (le_same (le_same (le_same (le_same (le_no (le_same (le_same (le_same (le_no (le_no (le_no (le_no (le_no le_nil))))))))))))))) (fun T1 hT1 i1 x1 hx1 => ⟨_, [10], (eg_name (by simp)), ?_⟩) ?_)
      · show Ss _ _ [.mu false a (.any StOk), .da ((eP4 eQ eQ eQ eQ) market), .da ((eT (eT PyData.int)) one), .da ((eT (eT PyData.int)) other), .da ((eT (eT PyData.int)) (tog (one) (other) ((1 : Int)))), .da ((eL (eT (eT eQ))) (([one, other, (tog (one) (other) ((1 : Int)))]).map fun (x1 : (List (List Int))) => (wOf (market) ((Str.ofString "any")) (x1)))), .no, .da ((eT (eT eQ)) (wOf (market) ((Str.ofString "end")) (one))), .da (PyData.int (((one).length : Int) - (1 : Int))), .da (PyData.int (i0 : Int)), .da (PyData.int (x1 : Int)), .no, .no, .no, .no] _ _
        have hlt1 := (rng_get hx1).2
        refine s_le (ρ1 := [.mu false a (.any StOk), .da ((eP4 eQ eQ eQ eQ) market), .da ((eT (eT PyData.int)) one), .da ((eT (eT PyData.int)) other), .da ((eT (eT PyData.int)) (tog (one) (other) ((1 : Int)))), .da ((eL (eT (eT eQ))) (([one, other, (tog (one) (other) ((1 : Int)))]).map fun (x1 : (List (List Int))) => (wOf (market) ((Str.ofString "any")) (x1)))), .no, .da ((eT (eT eQ)) (wOf (market) ((Str.ofString "end")) (one))), .da (PyData.int (((one).length : Int) - (1 : Int))), .da (PyData.int (i0 : Int)), .da (PyData.int (i1 : Int)), .no, .no, .no, .no]) (le_rfl (by rw [(rng_get hx1).1])) ?_
        have hi1 : i1 ≤ i0 := by omega
        have ka := wv_qk (kind := anyL) h0 h1 hi0 hi1
        have ke := wv_qk (kind := endL) h0 h1 hi0 hi1
        have kb := wv_qk (kind := anyL) h0 h2 (h3 ▸ hi0) hi1
        have kc := wv_qk (kind := anyL) h0 h4 (s := i0) (by rw [tog_len]; exact hi0) hi1
        have kp := cl_cell h1 hi0 hi1
        refine s_seq (s_if (b := ((decide ((ixG (ixG (wOf market anyL one) (i0 : Int)) (i1 : Int)) < (ixG (ixG (wOf (market) ((Str.ofString "end")) (one)) (i0 : Int)) (i1 : Int)))) || ((decide ((ixG (ixG (wOf market anyL one) (i0 : Int)) (i1 : Int)) < qv (((ixG (ixG one (i0 : Int)) (i1 : Int)), (1 : Int))))) || (decide ((ixG (ixG (wOf market anyL (tog one other 1)) (i0 : Int)) (i1 : Int)) < (ixG (ixG (wOf market anyL one) (i0 : Int)) (i1 : Int))))))) (et_or (et_truB (ed_is (ed_call (ds := [((eP PyData.int PyData.int) (qp (ixG (ixG (wOf market anyL one) (i0 : Int)) (i1 : Int)))), ((eP PyData.int PyData.int) (qp (ixG (ixG (wOf (market) ((Str.ofString "end")) (one)) (i0 : Int)) (i1 : Int))))]) (ea_cons (ed_is (ed_ixTX (f := eQ) (l := (ixG (wOf market anyL one) (i0 : Int))) (ed_ixTX (f := (fun l : List Rat => PyData.tuple (l.map eQ))) (l := (wOf market anyL one)) (ed_is (ed_ixLX (f := (fun l : List (List Rat) => PyData.tuple (l.map (eT eQ)))) (l := (([one, other, (tog (one) (other) ((1 : Int)))]).map fun (x1 : (List (List Int))) => (wOf (market) ((Str.ofString "any")) (x1)))) (ed_var rfl) ed_int (by exact inb (by simp))) (by rfl : _ = ((eT (eT eQ)) (wOf market anyL one)))) (ed_var rfl) (by exact inb (by rw [w_len h1]; omega))) (ed_var rfl) (by exact inb (by rw [ra]; omega))) (rfl : _ = ((eP PyData.int PyData.int) (qp (ixG (ixG (wOf market anyL one) (i0 : Int)) (i1 : Int)))))) (ea_cons (ed_is (ed_ixTX (f := eQ) (l := (ixG (wOf (market) ((Str.ofString "end")) (one)) (i0 : Int))) (ed_ixTX (f := (fun l : List Rat => PyData.tuple (l.map eQ))) (l := (wOf (market) ((Str.ofString "end")) (one))) (ed_var rfl) (ed_var rfl) (by exact inb (by rw [w_len h1]; omega))) (ed_var rfl) (by exact inb (by rw [re]; omega))) (rfl : _ = ((eP PyData.int PyData.int) (qp (ixG (ixG (wOf (market) ((Str.ofString "end")) (one)) (i0 : Int)) (i1 : Int)))))) ea_nil)) ⟨(qp (ixG (ixG (wOf market anyL one) (i0 : Int)) (i1 : Int))), (qp (ixG (ixG (wOf (market) ((Str.ofString "end")) (one)) (i0 : Int)) (i1 : Int))), rfl, by exact den_pos _, by first | exact den_pos _ | (show (0 : Int) < 1; decide), by exact (ka.qb (by decide)).pb, by exact (ke.qb (by decide)).pb, rfl⟩) (by simp only [qv_qp] : _ = (PyData.bool (decide ((ixG (ixG (wOf market anyL one) (i0 : Int)) (i1 : Int)) < (ixG (ixG (wOf (market) ((Str.ofString "end")) (one)) (i0 : Int)) (i1 : Int)))))))) (fun hb3 => (et_or (et_truB (ed_is (ed_call (ds := [((eP PyData.int PyData.int) (qp (ixG (ixG (wOf market anyL one) (i0 : Int)) (i1 : Int)))), ((eP PyData.int PyData.int) ((ixG (ixG one (i0 : Int)) (i1 : Int)), (1 : Int)))]) (ea_cons (ed_is (ed_ixTX (f := eQ) (l := (ixG (wOf market anyL one) (i0 : Int))) (ed_ixTX (f := (fun l : List Rat => PyData.tuple (l.map eQ))) (l := (wOf market anyL one)) (ed_is (ed_ixLX (f := (fun l : List (List Rat) => PyData.tuple (l.map (eT eQ)))) (l := (([one, other, (tog (one) (other) ((1 : Int)))]).map fun (x1 : (List (List Int))) => (wOf (market) ((Str.ofString "any")) (x1)))) (ed_var rfl) ed_int (by exact inb (by simp))) (by rfl : _ = ((eT (eT eQ)) (wOf market anyL one)))) (ed_var rfl) (by exact inb (by rw [w_len h1]; omega))) (ed_var rfl) (by exact inb (by rw [ra]; omega))) (rfl : _ = ((eP PyData.int PyData.int) (qp (ixG (ixG (wOf market anyL one) (i0 : Int)) (i1 : Int)))))) (ea_cons (ed_tup (ds := [(PyData.int (ixG (ixG one (i0 : Int)) (i1 : Int))), (PyData.int (1 : Int))]) (ea_cons (ed_ixTX (f := PyData.int) (l := (ixG one (i0 : Int))) (ed_ixTX (f := (fun l : List Int => PyData.tuple (l.map PyData.int))) (l := one) (ed_var rfl) (ed_var rfl) (by exact inb (by omega))) (ed_var rfl) (by exact inb (by rw [(cl_ix h1 (s := (i0 : Int)) (by omega)).1]; omega))) (ea_cons ed_int ea_nil))) ea_nil)) ⟨(qp (ixG (ixG (wOf market anyL one) (i0 : Int)) (i1 : Int))), ((ixG (ixG one (i0 : Int)) (i1 : Int)), (1 : Int)), rfl, by exact den_pos _, by first | exact den_pos _ | (show (0 : Int) < 1; decide), by exact (ka.qb (by decide)).pb, by exact pb_small (by omega) (by decide) (by decide), rfl⟩) (by simp only [qv_qp] : _ = (PyData.bool (decide ((ixG (ixG (wOf market anyL one) (i0 : Int)) (i1 : Int)) < qv (((ixG (ixG one (i0 : Int)) (i1 : Int)), (1 : Int))))))))) (fun hb2 => (et_truB (ed_is (ed_call (ds := [((eP PyData.int PyData.int) (qp (ixG (ixG (wOf market anyL (tog one other 1)) (i0 : Int)) (i1 : Int)))), ((eP PyData.int PyData.int) (qp (ixG (ixG (wOf market anyL one) (i0 : Int)) (i1 : Int))))]) (ea_cons (ed_is (ed_ixTX (f := eQ) (l := (ixG (wOf market anyL (tog one other 1)) (i0 : Int))) (ed_ixTX (f := (fun l : List Rat => PyData.tuple (l.map eQ))) (l := (wOf market anyL (tog one other 1))) (ed_is (ed_ixLX (f := (fun l : List (List Rat) => PyData.tuple (l.map (eT eQ)))) (l := (([one, other, (tog (one) (other) ((1 : Int)))]).map fun (x1 : (List (List Int))) => (wOf (market) ((Str.ofString "any")) (x1)))) (ed_var rfl) ed_int (by exact inb (by simp))) (by rfl : _ = ((eT (eT eQ)) (wOf market anyL (tog one other 1))))) (ed_var rfl) (by exact inb (by rw [w_len h4, tog_len]; omega))) (ed_var rfl) (by exact inb (by rw [rc]; omega))) (rfl : _ = ((eP PyData.int PyData.int) (qp (ixG (ixG (wOf market anyL (tog one other 1)) (i0 : Int)) (i1 : Int)))))) (ea_cons (ed_is (ed_ixTX (f := eQ) (l := (ixG (wOf market anyL one) (i0 : Int))) (ed_ixTX (f := (fun l : List Rat => PyData.tuple (l.map eQ))) (l := (wOf market anyL one)) (ed_is (ed_ixLX (f := (fun l : List (List Rat) => PyData.tuple (l.map (eT eQ)))) (l := (([one, other, (tog (one) (other) ((1 : Int)))]).map fun (x1 : (List (List Int))) => (wOf (market) ((Str.ofString "any")) (x1)))) (ed_var rfl) ed_int (by exact inb (by simp))) (by rfl : _ = ((eT (eT eQ)) (wOf market anyL one)))) (ed_var rfl) (by exact inb (by rw [w_len h1]; omega))) (ed_var rfl) (by exact inb (by rw [ra]; omega))) (rfl : _ = ((eP PyData.int PyData.int) (qp (ixG (ixG (wOf market anyL one) (i0 : Int)) (i1 : Int)))))) ea_nil)) ⟨(qp (ixG (ixG (wOf market anyL (tog one other 1)) (i0 : Int)) (i1 : Int))), (qp (ixG (ixG (wOf market anyL one) (i0 : Int)) (i1 : Int))), rfl, by exact den_pos _, by first | exact den_pos _ | (show (0 : Int) < 1; decide), by exact (kc.qb (by decide)).pb, by exact (ka.qb (by decide)).pb, rfl⟩) (by simp only [qv_qp] : _ = (PyData.bool (decide ((ixG (ixG (wOf market anyL (tog one other 1)) (i0 : Int)) (i1 : Int)) < (ixG (ixG (wOf market anyL one) (i0 : Int)) (i1 : Int)))))))))))) (fun hc0 => ?_) (fun hc0 => ?_))
        · exact absurd hc0 (by rw [nlt (any_ge_end h0 h1 hi0 hi1), qv_1, nlt (any_ge_pay h0 h1 hi0 hi1), nlt (any_grow h0 h1 h2 h3 h4 hi0 hi1)]; simp)
        · refine s_next ?_
          refine (s_if (b := (decide (((ixG (ixG (wOf market anyL one) (i0 : Int)) (i1 : Int)) + (ixG (ixG (wOf market anyL other) (i0 : Int)) (i1 : Int))) < (ixG (ixG (wOf market anyL (tog one other 1)) (i0 : Int)) (i1 : Int))))) (et_truB (ed_is (ed_call (ds := [((eP PyData.int PyData.int) (qp ((ixG (ixG (wOf market anyL one) (i0 : Int)) (i1 : Int)) + (ixG (ixG (wOf market anyL other) (i0 : Int)) (i1 : Int))))), ((eP PyData.int PyData.int) (qp (ixG (ixG (wOf market anyL (tog one other 1)) (i0 : Int)) (i1 : Int))))]) (ea_cons (ed_is (ed_is (ed_call (ds := [((eP PyData.int PyData.int) (qp (ixG (ixG (wOf market anyL one) (i0 : Int)) (i1 : Int)))), ((eP PyData.int PyData.int) (qp (ixG (ixG (wOf market anyL other) (i0 : Int)) (i1 : Int))))]) (ea_cons (ed_is (ed_ixTX (f := eQ) (l := (ixG (wOf market anyL one) (i0 : Int))) (ed_ixTX (f := (fun l : List Rat => PyData.tuple (l.map eQ))) (l := (wOf market anyL one)) (ed_is (ed_ixLX (f := (fun l : List (List Rat) => PyData.tuple (l.map (eT eQ)))) (l := (([one, other, (tog (one) (other) ((1 : Int)))]).map fun (x1 : (List (List Int))) => (wOf (market) ((Str.ofString "any")) (x1)))) (ed_var rfl) ed_int (by exact inb (by simp))) (by rfl : _ = ((eT (eT eQ)) (wOf market anyL one)))) (ed_var rfl) (by exact inb (by rw [w_len h1]; omega))) (ed_var rfl) (by exact inb (by rw [ra]; omega))) (rfl : _ = ((eP PyData.int PyData.int) (qp (ixG (ixG (wOf market anyL one) (i0 : Int)) (i1 : Int)))))) (ea_cons (ed_is (ed_ixTX (f := eQ) (l := (ixG (wOf market anyL other) (i0 : Int))) (ed_ixTX (f := (fun l : List Rat => PyData.tuple (l.map eQ))) (l := (wOf market anyL other)) (ed_is (ed_ixLX (f := (fun l : List (List Rat) => PyData.tuple (l.map (eT eQ)))) (l := (([one, other, (tog (one) (other) ((1 : Int)))]).map fun (x1 : (List (List Int))) => (wOf (market) ((Str.ofString "any")) (x1)))) (ed_var rfl) ed_int (by exact inb (by simp))) (by rfl : _ = ((eT (eT eQ)) (wOf market anyL other)))) (ed_var rfl) (by exact inb (by rw [w_len h2]; omega))) (ed_var rfl) (by exact inb (by rw [rb]; omega))) (rfl : _ = ((eP PyData.int PyData.int) (qp (ixG (ixG (wOf market anyL other) (i0 : Int)) (i1 : Int)))))) ea_nil)) ⟨(qp (ixG (ixG (wOf market anyL one) (i0 : Int)) (i1 : Int))), (qp (ixG (ixG (wOf market anyL other) (i0 : Int)) (i1 : Int))), rfl, by exact (ka.qb (by decide)).pb, by exact (kb.qb (by decide)).pb, rfl⟩) (by simp only [qv_qp] : _ = (eQ ((ixG (ixG (wOf market anyL one) (i0 : Int)) (i1 : Int)) + (ixG (ixG (wOf market anyL other) (i0 : Int)) (i1 : Int)))))) (rfl : _ = ((eP PyData.int PyData.int) (qp ((ixG (ixG (wOf market anyL one) (i0 : Int)) (i1 : Int)) + (ixG (ixG (wOf market anyL other) (i0 : Int)) (i1 : Int))))))) (ea_cons (ed_is (ed_ixTX (f := eQ) (l := (ixG (wOf market anyL (tog one other 1)) (i0 : Int))) (ed_ixTX (f := (fun l : List Rat => PyData.tuple (l.map eQ))) (l := (wOf market anyL (tog one other 1))) (ed_is (ed_ixLX (f := (fun l : List (List Rat) => PyData.tuple (l.map (eT eQ)))) (l := (([one, other, (tog (one) (other) ((1 : Int)))]).map fun (x1 : (List (List Int))) => (wOf (market) ((Str.ofString "any")) (x1)))) (ed_var rfl) ed_int (by exact inb (by simp))) (by rfl : _ = ((eT (eT eQ)) (wOf market anyL (tog one other 1))))) (ed_var rfl) (by exact inb (by rw [w_len h4, tog_len]; omega))) (ed_var rfl) (by exact inb (by rw [rc]; omega))) (rfl : _ = ((eP PyData.int PyData.int) (qp (ixG (ixG (wOf market anyL (tog one other 1)) (i0 : Int)) (i1 : Int)))))) ea_nil)) ⟨(qp ((ixG (ixG (wOf market anyL one) (i0 : Int)) (i1 : Int)) + (ixG (ixG (wOf market anyL other) (i0 : Int)) (i1 : Int)))), (qp (ixG (ixG (wOf market anyL (tog one other 1)) (i0 : Int)) (i1 : Int))), rfl, by exact den_pos _, by first | exact den_pos _ | (show (0 : Int) < 1; decide), by exact ((wv_sum h0 h1 h2 h3 hi0 hi1).qb (by decide)).pb, by exact (kc.qb (by decide)).pb, rfl⟩) (by simp only [qv_qp] : _ = (PyData.bool (decide (((ixG (ixG (wOf market anyL one) (i0 : Int)) (i1 : Int)) + (ixG (ixG (wOf market anyL other) (i0 : Int)) (i1 : Int))) < (ixG (ixG (wOf market anyL (tog one other 1)) (i0 : Int)) (i1 : Int)))))))) (fun hc1 => ?_) (fun hc1 => ?_))
          · exact absurd hc1 (by rw [nlt (any_sub h0 h1 h2 h3 h4 hi0 hi1)]; simp)
          · refine s_next ?_
            exact s_end (le_same (le_same (le_same (le_same (le_same (le_same (le_no (le_same (le_same (le_same (le_no (le_no (le_no (le_no (le_no le_nil)))))))))))))))
      exact s_end (le_same (le_same (le_same (le_same (le_same (le_same (le_no (le_same (le_same (le_no (le_no (le_no (le_no (le_no (le_no le_nil)))))))))))))))
    refine s_seq (s_asgW (ew_drawD (i := 0) (ed_I0 (ed_var rfl) ed_int) rfl rfl (by omega)) (fun step_v h_step_v => s_le (ρ1 := [.mu false a (.any StOk), .da ((eP4 eQ eQ eQ eQ) market), .da ((eT (eT PyData.int)) one), .da ((eT (eT PyData.int)) other), .da ((eT (eT PyData.int)) (tog (one) (other) ((1 : Int)))), .da ((eL (eT (eT eQ))) (([one, other, (tog (one) (other) ((1 : Int)))]).map fun (x1 : (List (List Int))) => (wOf (market) ((Str.ofString "any")) (x1)))), .no, .da ((eT (eT eQ)) (wOf (market) ((Str.ofString "end")) (one))), .da (PyData.int (((one).length : Int) - (1 : Int))), .no, .no, .da (PyData.int step_v), .no, .no, .no]) (le_rfl rfl) ?_))
    try dsimp only at h_step_v
    refine s_seq (s_asgW (ew_drawD (i := 0) (ed_I0 (ed_var rfl) ed_int) rfl rfl (by omega)) (fun ups_v h_ups_v => s_le (ρ1 := [.mu false a (.any StOk), .da ((eP4 eQ eQ eQ eQ) market), .da ((eT (eT PyData.int)) one), .da ((eT (eT PyData.int)) other), .da ((eT (eT PyData.int)) (tog (one) (other) ((1 : Int)))), .da ((eL (eT (eT eQ))) (([one, other, (tog (one) (other) ((1 : Int)))]).map fun (x1 : (List (List Int))) => (wOf (market) ((Str.ofString "any")) (x1)))), .no, .da ((eT (eT eQ)) (wOf (market) ((Str.ofString "end")) (one))), .da (PyData.int (((one).length : Int) - (1 : Int))), .no, .no, .da (PyData.int step_v), .da (PyData.int ups_v), .no, .no]) (le_rfl rfl) ?_))
    try dsimp only at h_ups_v
    have hups : 0 ≤ ups_v ∧ ups_v ≤ step_v ∧ step_v < one.length := by omega
    have hsub := subC_ok h1 hups
    have hs0 : (ixG (wOf market anyL (subC one step_v ups_v)) (0 : Int)).length = 1 := w_row hsub (s := 0) (by have := hsub.1; omega)
    have hst : (ixG (wOf market anyL one) step_v).length = step_v.toNat + 1 := by have := w_row (m := market) (kind := anyL) h1 (s := step_v.toNat) (by omega); rwa [show ((step_v.toNat : Nat) : Int) = step_v by omega] at this
    refine s_seq (s_asg (ed_is (ed_call (ds := [((eP PyData.int PyData.int) (qp (market).1)), ((eP PyData.int PyData.int) (qp ((((market).2.1) ^ ((ups_v)).toNat) * (((market).2.2.1) ^ (((step_v - ups_v))).toNat))))]) (ea_cons (ed_is (ed_ixT (ed_var rfl) ed_int rfl) (rfl : _ = ((eP PyData.int PyData.int) (qp (market).1)))) (ea_cons (ed_is (ed_is (ed_call (ds := [((eP PyData.int PyData.int) (qp (((market).2.1) ^ ((ups_v)).toNat))), ((eP PyData.int PyData.int) (qp (((market).2.2.1) ^ (((step_v - ups_v))).toNat)))]) (ea_cons (ed_is (ed_call (ds := [(eQ (market).2.1), (PyData.int ups_v)]) (ea_cons (ed_ixT (ed_var rfl) ed_int rfl) (ea_cons (ed_var rfl) ea_nil)) ⟨(market).2.1, ups_v, rfl, by omega, by exact h0.1.2.1.qk.mono (by decide), rfl⟩) (rfl : _ = ((eP PyData.int PyData.int) (qp (((market).2.1) ^ ((ups_v)).toNat))))) (ea_cons (ed_is (ed_call (ds := [(eQ (market).2.2.1), (PyData.int (step_v - ups_v))]) (ea_cons (ed_ixT (ed_var rfl) ed_int rfl) (ea_cons (ed_I0 (ed_var rfl) (ed_var rfl)) ea_nil)) ⟨(market).2.2.1, (step_v - ups_v), rfl, by omega, by exact h0.1.2.2.1.qk.mono (by decide), rfl⟩) (rfl : _ = ((eP PyData.int PyData.int) (qp (((market).2.2.1) ^ (((step_v - ups_v))).toNat))))) ea_nil)) ⟨(qp (((market).2.1) ^ ((ups_v)).toNat)), (qp (((market).2.2.1) ^ (((step_v - ups_v))).toNat)), rfl, by exact ((Qk_pow h0.1.2.1.qk _).qb (by omega)).pb, by exact ((Qk_pow h0.1.2.2.1.qk _).qb (by omega)).pb, rfl⟩) (by simp only [qv_qp] : _ = (eQ ((((market).2.1) ^ ((ups_v)).toNat) * (((market).2.2.1) ^ (((step_v - ups_v))).toNat))))) (rfl : _ = ((eP PyData.int PyData.int) (qp ((((market).2.1) ^ ((ups_v)).toNat) * (((market).2.2.1) ^ (((step_v - ups_v))).toNat)))))) ea_nil)) ⟨(qp (market).1), (qp ((((market).2.1) ^ ((ups_v)).toNat) * (((market).2.2.1) ^ (((step_v - ups_v))).toNat))), rfl, by exact (h0.1.1.qk.qb (by decide)).pb, by exact ((Qk_mul (Qk_pow h0.1.2.1.qk _) (Qk_pow h0.1.2.2.1.qk _)).qb (by omega)).pb, rfl⟩) (by simp only [qv_qp] : _ = (eQ ((market).1 * ((((market).2.1) ^ ((ups_v)).toNat) * (((market).2.2.1) ^ (((step_v - ups_v))).toNat)))))) (s_le (ρ1 := [.mu false a (.any StOk), .da ((eP4 eQ eQ eQ eQ) market), .da ((eT (eT PyData.int)) one), .da ((eT (eT PyData.int)) other), .da ((eT (eT PyData.int)) (tog (one) (other) ((1 : Int)))), .da ((eL (eT (eT eQ))) (([one, other, (tog (one) (other) ((1 : Int)))]).map fun (x1 : (List (List Int))) => (wOf (market) ((Str.ofString "any")) (x1)))), .no, .da ((eT (eT eQ)) (wOf (market) ((Str.ofString "end")) (one))), .da (PyData.int (((one).length : Int) - (1 : Int))), .no, .no, .da (PyData.int step_v), .da (PyData.int ups_v), .da (eQ ((market).1 * ((((market).2.1) ^ ((ups_v)).toNat) * (((market).2.2.1) ^ (((step_v - ups_v))).toNat)))), .no]) (le_rfl rfl) ?_))
    refine s_seq (s_if (b := (!(true))) (et_not (et_truB (ed_call (ds := [((eL eQ) [(nodeP (market) (step_v) (ups_v)), (ixG (ixG (wOf (market) ((Str.ofString "any")) ((subC (one) (step_v) (ups_v)))) (0 : Int)) (0 : Int))]), ((eL eQ) [((market).1 * ((((market).2.1) ^ ((ups_v)).toNat) * (((market).2.2.1) ^ (((step_v - ups_v))).toNat))), (ixG (ixG (wOf market anyL one) step_v) ups_v)])]) (ea_cons (ed_L (el_lst (ds := [(nodeP (market) (step_v) (ups_v)), (ixG (ixG (wOf (market) ((Str.ofString "any")) ((subC (one) (step_v) (ups_v)))) (0 : Int)) (0 : Int))].map eQ) (ea_cons (ed_call (ds := [((eP4 eQ eQ eQ eQ) market), (PyData.int step_v), (PyData.int ups_v)]) (ea_cons (ed_var rfl) (ea_cons (ed_var rfl) (ea_cons (ed_var rfl) ea_nil))) ⟨market, step_v, ups_v, rfl, by assumption, by omega, rfl⟩) (ea_cons (ed_ixTX (f := eQ) (l := (ixG (wOf (market) ((Str.ofString "any")) ((subC (one) (step_v) (ups_v)))) (0 : Int))) (ed_ixTX (f := (fun l : List Rat => PyData.tuple (l.map eQ))) (l := (wOf (market) ((Str.ofString "any")) ((subC (one) (step_v) (ups_v))))) (ed_call (ds := [((eP4 eQ eQ eQ eQ) market), ((eT (eT PyData.int)) (subC (one) (step_v) (ups_v))), (PyData.str (Str.ofString "any"))]) (ea_cons (ed_var rfl) (ea_cons (ed_call (ds := [((eT (eT PyData.int)) one), (PyData.int step_v), (PyData.int ups_v)]) (ea_cons (ed_var rfl) (ea_cons (ed_var rfl) (ea_cons (ed_var rfl) ea_nil))) ⟨one, step_v, ups_v, rfl, by assumption, by exact hups, rfl⟩) (ea_cons ed_str ea_nil))) ⟨market, (subC (one) (step_v) (ups_v)), (Str.ofString "any"), rfl, by assumption, by exact hsub, by exact Or.inl rfl, rfl⟩) ed_int (by exact inb (by rw [w_len hsub]; have := hsub.1; omega))) ed_int (by exact inb (by rw [hs0]; omega))) ea_nil)))) (ea_cons (ed_L (el_lst (ds := [((market).1 * ((((market).2.1) ^ ((ups_v)).toNat) * (((market).2.2.1) ^ (((step_v - ups_v))).toNat))), (ixG (ixG (wOf market anyL one) step_v) ups_v)].map eQ) (ea_cons (ed_var rfl) (ea_cons (ed_ixTX (f := eQ) (l := (ixG (wOf market anyL one) step_v)) (ed_ixTX (f := (fun l : List Rat => PyData.tuple (l.map eQ))) (l := (wOf market anyL one)) (ed_is (ed_ixLX (f := (fun l : List (List Rat) => PyData.tuple (l.map (eT eQ)))) (l := (([one, other, (tog (one) (other) ((1 : Int)))]).map fun (x1 : (List (List Int))) => (wOf (market) ((Str.ofString "any")) (x1)))) (ed_var rfl) ed_int (by exact inb (by simp))) (by rfl : _ = ((eT (eT eQ)) (wOf market anyL one)))) (ed_var rfl) (by exact inb (by rw [w_len h1]; omega))) (ed_var rfl) (by exact inb (by rw [hst]; omega))) ea_nil)))) ea_nil)) ⟨((eL eQ) [(nodeP (market) (step_v) (ups_v)), (ixG (ixG (wOf (market) ((Str.ofString "any")) ((subC (one) (step_v) (ups_v)))) (0 : Int)) (0 : Int))]), ((eL eQ) [((market).1 * ((((market).2.1) ^ ((ups_v)).toNat) * (((market).2.2.1) ^ (((step_v - ups_v))).toNat))), (ixG (ixG (wOf market anyL one) step_v) ups_v)]), rfl, by exact congrArg (eL eQ) (any_same h0 h1 hups), by exact any_gd h0 h1 hups, rfl⟩))) (fun hc2 => ?_) (fun hc2 => ?_))
    · exact absurd hc2 (by simp)
    · refine s_next ?_
      exact s_retW (i := 0) (ew_det (f := PyData.bool) (x := (!(!((((((fuS (market) (one) (one).length).1)).filter fun (x4 : (Int × Int)) => (!decide ((ixG (ixG (wOf market anyL one) (x4).1) (x4).2) = (((ixG (ixG one (x4).1) (x4).2) : Int) : Rat)))).map fun (x4 : (Int × Int)) => x4)).isEmpty))) (ed_notL (ed_L (el_lcPX (xs := ((fuS (market) (one) (one).length).1)) (ea := fun x => Itm.hard ((eP PyData.int PyData.int) x)) (p := fun (x4 : (Int × Int)) => (!decide ((ixG (ixG (wOf market anyL one) (x4).1) (x4).2) = (((ixG (ixG one (x4).1) (x4).2) : Int) : Rat)))) (enc := (eP PyData.int PyData.int)) (fb := fun (x4 : (Int × Int)) => x4) (ei_tupX (ed_call (ds := [((eP4 eQ eQ eQ eQ) market), ((eT (eT PyData.int)) one)]) (ea_cons (ed_var rfl) (ea_cons (ed_var rfl) ea_nil)) ⟨market, one, rfl, by exact h0, by assumption, rfl⟩)) (by exact uses_few h1) (by simp) (fun _ _ x4 hx4 => ⟨_, rfl, (eg_name (by simp)), (et_test (ed_neQ (ed_ixTX (f := eQ) (l := (ixG (wOf market anyL one) (x4).1)) (ed_ixTX (f := (fun l : List Rat => PyData.tuple (l.map eQ))) (l := (wOf market anyL one)) (ed_is (ed_ixLX (f := (fun l : List (List Rat) => PyData.tuple (l.map (eT eQ)))) (l := (([one, other, (tog (one) (other) ((1 : Int)))]).map fun (x1 : (List (List Int))) => (wOf (market) ((Str.ofString "any")) (x1)))) (ed_var rfl) ed_int (by exact inb (by simp))) (by rfl : _ = ((eT (eT eQ)) (wOf market anyL one)))) (ed_ixT (ed_var rfl) ed_int rfl) (by exact (uses_w h1 (by assumption)).1)) (ed_ixT (ed_var rfl) ed_int rfl) (by exact (uses_w h1 (by assumption)).2.1)) (ed_is (d1 := eQ (((ixG (ixG one (x4).1) (x4).2) : Int) : Rat)) (ed_tup (ds := [PyData.int (ixG (ixG one (x4).1) (x4).2), PyData.int (1 : Int)]) (ea_cons (ed_ixTX (f := PyData.int) (l := (ixG one (x4).1)) (ed_ixTX (f := (fun l : List Int => PyData.tuple (l.map PyData.int))) (l := one) (ed_var rfl) (ed_ixT (ed_var rfl) ed_int rfl) (by exact (uses_w h1 (by assumption)).2.2.1)) (ed_ixT (ed_var rfl) ed_int rfl) (by exact (uses_w h1 (by assumption)).2.2.2)) (ea_cons ed_int ea_nil))) rfl))), fun hp5 => (ed_var rfl)⟩))))) rfl hR (fun x hx => by subst hx; exact hΦ _ (uses_none h1))

/-! ### law -/
abbrev s_law : Stmt := topS 52
abbrev N_law : List Str := ["script", "state", "market", "steps", "one", "other", "factor", "value", "second", "due", "flat", "n", "tables", "claim", "rows", "j", "k"]
theorem sc_law : FnScope N_law ["script"] (defScope s_law) := ⟨rfl, rfl, rfl, by decide +kernel, rfl, by decide +kernel, by decide +kernel⟩
def R_law : List PyData → PyData → Prop := fun ds d => ∃ (script : (List Int)), ds = [((eL PyData.int) script)] ∧ (script.length ≤ 100000) ∧ d = (PyData.bool (true))
set_option maxHeartbeats 4000000 in
theorem ok_law {P : Program} {w : World} {K : PySem.W.Frag} {mg : Str → Option Value} {base : Heap} (B : Gb mg) {f : Addr} {fd : FuncData} (F : Fun K "law" "law" s_law f fd) (C_law_add : Cl P w K mg base 2 "_law_add" ["one", "other"] (SpP K R_law_add)) (C_law_any_holds : Cl P w K mg base 8 "_law_any_holds" ["state", "market", "one", "other"] (SpW K R_law_any_holds)) (C_law_claim : Cl P w K mg base 2 "_law_claim" ["state", "steps", "top"] (SpW K R_law_claim)) (C_law_draw : Cl P w K mg base 1 "_law_draw" ["state", "many"] (SpW K R_draw)) (C_law_end : Cl P w K mg base 6 "_law_end" ["market", "claim"] (SpP K R_law_end)) (C_law_market : Cl P w K mg base 3 "_law_market" ["state"] (SpW K R_law_market)) (C_law_mul : Cl P w K mg base 2 "_law_mul" ["one", "other"] (SpP K R_law_mul)) (C_law_pick : Cl P w K mg base 2 "_law_pick" ["state", "some"] (SpW K R_pick)) (C_law_power : Cl P w K mg base 3 "_law_power" ["base", "many"] (SpP K R_law_power)) (C_law_same : Cl P w K mg base 1 "_law_same" ["actual", "due"] (SpP K R_law_same)) (C_law_start : Cl P w K mg base 1 "_law_start" ["script"] (SpL K R_law_start)) (C_law_together : Cl P w K mg base 1 "_law_together" ["one", "other", "factor"] (SpP K R_law_together)) (C_accept_hedges : Cl P w K mg base 7 "accept_hedges" ["market", "claim", "kind", "table"] (SpP K R_accept_hedges)) (C_hedges : Cl P w K mg base 7 "hedges" ["market", "claim", "kind"] (SpP K R_hedges)) (C_judge_market : Cl P w K mg base 5 "judge_market" ["market"] (SpP K R_judge_market)) (C_ups_and_downs : Cl P w K mg base 7 "ups_and_downs" ["market", "claim"] (SpP K R_ups_and_downs)) (C_worths : Cl P w K mg base 7 "worths" ["market", "claim", "kind"] (SpP K R_worths)) : FnG P w K mg base 9 f fd ["script"] (SpP K R_top) := by
  refine fnG_of (k := 8) F sc_law (spP_len fun ds d h => ?_) (fun cdv A outer s H hr hgd => ⟨_, (pss_cons (ps_set (i := 1) sc_law.nd rfl (Or.inl rfl) (pe_cl C_law_start (hr.mono (by decide)) hgd (by rfl) (pa_cons (pv 0) pa_nil))) (pss_cons (ps_asg (pe_tupF (pa_cons (pe_cl C_law_market (hr.mono (by decide)) hgd (by rfl) (pa_cons (pv 1) pa_nil)) (pa_cons (pe_cl C_law_pick (hr.mono (by decide)) hgd (by rfl) (pa_cons (pv 1) (pa_cons (pe_lst (pa_cons pe_int (pa_cons pe_int (pa_cons pe_int (pa_cons pe_int pa_nil))))) pa_nil))) pa_nil))) (pg_tup rfl (pgs_cons (pg_name (i := 2) sc_law.nd rfl (Or.inr rfl)) (pgs_cons (pg_name (i := 3) sc_law.nd rfl (Or.inl rfl)) pgs_nil))) rfl) (pss_cons (ps_par3 (i := 4) (j := 5) (l := 6) rfl sc_law.nd rfl rfl rfl (by decide) (by decide) (by decide) rfl rfl rfl (pa_cons (pe_cl C_law_claim (hr.mono (by decide)) hgd (by rfl) (pa_cons (pv 1) (pa_cons (pv 3) (pa_cons (pe_cl C_law_pick (hr.mono (by decide)) hgd (by rfl) (pa_cons (pv 1) (pa_cons (pe_lst (pa_cons pe_int (pa_cons pe_int (pa_cons pe_int pa_nil)))) pa_nil))) pa_nil)))) (pa_cons (pe_cl C_law_claim (hr.mono (by decide)) hgd (by rfl) (pa_cons (pv 1) (pa_cons (pv 3) (pa_cons pe_int pa_nil)))) (pa_cons (pe_op op_add pe_int (pe_cl C_law_draw (hr.mono (by decide)) hgd (by rfl) (pa_cons (pv 1) (pa_cons pe_int pa_nil)))) pa_nil))) rfl) (pss_cons (ps_if (pt_cmpR op_ne (pe_ix (r := rIxT K) ix_tup (pe_cl C_judge_market (hr.mono (by decide)) hgd (by rfl) (pa_cons (pv 2) pa_nil)) pe_int (fun _ _ => rfl)) pe_str (nomark _)) pss_never pss_nil) (pss_cons (ps_par (i := 7) (j := 8) rfl sc_law.nd rfl rfl (by decide) rfl rfl (pa_cons (pe_cl C_ups_and_downs (hr.mono (by decide)) hgd (by rfl) (pa_cons (pv 2) (pa_cons (pv 4) pa_nil))) (pa_cons (pe_cl C_ups_and_downs (hr.mono (by decide)) hgd (by rfl) (pa_cons (pv 2) (pa_cons (pv 5) pa_nil))) pa_nil)) rfl rfl) (pss_cons (ps_if (PW.pt (pw_or (pt_not (pt_truth (pe_cl C_law_same (hr.mono (by decide)) hgd (by rfl) (pa_cons (pe_lst (pa_cons (pv 7) (pa_cons (pv 8) pa_nil))) (pa_cons (pe_lst (pa_cons (pe_cl C_law_end (hr.mono (by decide)) hgd (by rfl) (pa_cons (pv 2) (pa_cons (pv 4) pa_nil))) (pa_cons (pe_cl C_law_end (hr.mono (by decide)) hgd (by rfl) (pa_cons (pv 2) (pa_cons (pv 5) pa_nil))) pa_nil))) pa_nil))) (fun _ => rfl))) (pw_or1 (pt_not (pt_truth (pe_cl C_law_same (hr.mono (by decide)) hgd (by rfl) (pa_cons (pe_ix (r := rIxT K) ix_tup (pe_ix (r := rIxT K) ix_tup (pe_cl C_worths (hr.mono (by decide)) hgd (by rfl) (pa_cons (pv 2) (pa_cons (pv 4) (pa_cons pe_str pa_nil)))) pe_int (fun _ _ => rfl)) pe_int (fun _ _ => rfl)) (pa_cons (pv 7) pa_nil))) (fun _ => rfl)))))) pss_never pss_nil) (pss_cons (ps_set (i := 9) sc_law.nd rfl (Or.inl rfl) (pe_cl C_law_add (hr.mono (by decide)) hgd (by rfl) (pa_cons (pv 7) (pa_cons (pe_cl C_law_mul (hr.mono (by decide)) hgd (by rfl) (pa_cons (pv 8) (pa_cons (pe_tupF (pa_cons (pv 6) (pa_cons pe_int pa_nil))) pa_nil))) pa_nil)))) (pss_cons (ps_if (pt_not (pt_truth (pe_cl C_law_same (hr.mono (by decide)) hgd (by rfl) (pa_cons (pe_cl C_ups_and_downs (hr.mono (by decide)) hgd (by rfl) (pa_cons (pv 2) (pa_cons (pe_cl C_law_together (hr.mono (by decide)) hgd (by rfl) (pa_cons (pv 4) (pa_cons (pv 5) (pa_cons (pv 6) pa_nil)))) pa_nil))) (pa_cons (pv 9) pa_nil))) (fun _ => rfl))) pss_never pss_nil) (pss_cons (ps_set (i := 10) sc_law.nd rfl (Or.inl rfl) (pe_callTy (r := rTupOf K) call_tupleF (by rfl) B.tuple_ PyProof.Rows.boot_tuple (pa_cons (pe_lc (own := [("n", 11)]) (g := _) (tt := tYes) rfl sc_law.nd (pi_range1 (by rfl) B.range_ (pa_cons (pe_op op_add (pv 3) pe_int) pa_nil)) (blkOk_by (N := N_law) (sc := defScope s_law) (by decide +kernel)) (fun _ _ _ _ _ => (pg_name (i := 11) sc_law.nd rfl (by first | exact Or.inl rfl | exact Or.inr rfl))) (fun _ _ _ _ _ => pts_nil) (fun _ _ _ _ _ => (pe_op (r := rRepF K) op_repF (pe_tupF (pa_cons pe_int pa_nil)) (pe_op op_add (pv 11) pe_int)))) pa_nil))) (pss_cons (ps_if (pt_not (pt_truth (pe_cl C_law_same (hr.mono (by decide)) hgd (by rfl) (pa_cons (pe_cl C_ups_and_downs (hr.mono (by decide)) hgd (by rfl) (pa_cons (pv 2) (pa_cons (pv 10) pa_nil))) (pa_cons (pe_cl C_law_mul (hr.mono (by decide)) hgd (by rfl) (pa_cons (pe_tupF (pa_cons pe_int (pa_cons pe_int pa_nil))) (pa_cons (pe_cl C_law_power (hr.mono (by decide)) hgd (by rfl) (pa_cons (pe_tupF (pa_cons (pe_ix (r := rIxT K) ix_tup (pe_ix (r := rIxT K) ix_tup (pv 2) pe_int (fun _ _ => rfl)) pe_int (fun _ _ => rfl)) (pa_cons (pe_ix (r := rIxT K) ix_tup (pe_ix (r := rIxT K) ix_tup (pv 2) pe_int (fun _ _ => rfl)) pe_int (fun _ _ => rfl)) pa_nil))) (pa_cons (pv 3) pa_nil))) pa_nil))) pa_nil))) (fun _ => rfl))) pss_never pss_nil) (pss_cons (ps_set (i := 12) sc_law.nd rfl (Or.inr rfl) (pe_lc (own := [("claim", 13)]) (g := _) (tt := tYes) rfl sc_law.nd (pi_list (pe_lst (pa_cons (pv 4) (pa_cons (pv 5) pa_nil)))) (blkOk_by (N := N_law) (sc := defScope s_law) (by decide +kernel)) (fun _ _ _ _ _ => (pg_name (i := 13) sc_law.nd rfl (by first | exact Or.inl rfl | exact Or.inr rfl))) (fun _ _ _ _ _ => pts_nil) (fun _ _ _ _ _ => (pe_cl C_hedges (hr.mono (by decide)) hgd (by rfl) (pa_cons (pv 2) (pa_cons (pv 13) (pa_cons pe_str pa_nil))))))) (pss_cons (ps_set (i := 14) sc_law.nd rfl (Or.inl rfl) (pe_lst pa_nil)) (pss_cons (ps_for PassesOwn.never rfl (pi_range1 (by rfl) B.range_ (pa_cons (pe_op op_add (pv 3) pe_int) pa_nil)) (pg_name (i := 11) sc_law.nd rfl (Or.inr rfl)) (pss_one (ps_expr (pe_bm PySem.F.plainAttrs_list PySem.F.slot_list_append PySem.F.type_list_append mt_append (pv 14) (pa_cons (pe_callTy (r := rTupOf K) call_tupleF (by rfl) B.tuple_ PyProof.Rows.boot_tuple (pa_cons (pe_lc (own := [("k", 16)]) (g := _) (tt := tYes) rfl sc_law.nd (pi_range1 (by rfl) B.range_ (pa_cons (pe_op op_add (pv 11) pe_int) pa_nil)) (blkOk_by (N := N_law) (sc := defScope s_law) (by decide +kernel)) (fun _ _ _ _ _ => (pg_name (i := 16) sc_law.nd rfl (by first | exact Or.inl rfl | exact Or.inr rfl))) (fun _ _ _ _ _ => pts_nil) (fun _ _ _ _ _ => (pe_callTy (r := rTupOf K) call_tupleF (by rfl) B.tuple_ PyProof.Rows.boot_tuple (pa_cons (pe_lc (own := [("j", 15)]) (g := _) (tt := tYes) rfl sc_law.nd (pi_range1 (by rfl) B.range_ (pa_cons pe_int pa_nil)) (blkOk_by rfl) (fun _ _ _ _ _ => (pg_name (i := 15) sc_law.nd rfl (by first | exact Or.inl rfl | exact Or.inr rfl))) (fun _ _ _ _ _ => pts_nil) (fun _ _ _ _ _ => (pe_cl C_law_add (hr.mono (by decide)) hgd (by rfl) (pa_cons (pe_ix (r := rIxT K) ix_tup (pe_ix (r := rIxT K) ix_tup (pe_ix (r := rIxT K) ix_tup (pe_ix (r := rIxL K) ix_list (pv 12) pe_int (fun _ _ => rfl)) (pv 11) (fun _ _ => rfl)) (pv 16) (fun _ _ => rfl)) (pv 15) (fun _ _ => rfl)) (pa_cons (pe_ix (r := rIxT K) ix_tup (pe_ix (r := rIxT K) ix_tup (pe_ix (r := rIxT K) ix_tup (pe_ix (r := rIxL K) ix_list (pv 12) pe_int (fun _ _ => rfl)) (pv 11) (fun _ _ => rfl)) (pv 16) (fun _ _ => rfl)) (pv 15) (fun _ _ => rfl)) pa_nil))))) pa_nil)))) pa_nil)) pa_nil))))) (pss_cons (ps_if (pt_cmpR op_notN (pe_cl C_accept_hedges (hr.mono (by decide)) hgd (by rfl) (pa_cons (pv 2) (pa_cons (pe_cl C_law_together (hr.mono (by decide)) hgd (by rfl) (pa_cons (pv 4) (pa_cons (pv 5) (pa_cons pe_int pa_nil)))) (pa_cons pe_str (pa_cons (pe_callTy (r := rTupOf K) call_tupleF (by rfl) B.tuple_ PyProof.Rows.boot_tuple (pa_cons (pv 14) pa_nil)) pa_nil))))) pe_non (nomark _)) pss_never pss_nil) (pss_one (ps_ret (pe_cl C_law_any_holds (hr.mono (by decide)) hgd (by rfl) (pa_cons (pv 1) (pa_cons (pv 2) (pa_cons (pv 4) (pa_cons (pv 5) pa_nil))))))))))))))))))))), fun vs Q => fn_pure (N := N_law) (fun ds d h => ?_) (fun B S ds d h D hR hN => ?_) vs H Q E0⟩)
  · obtain ⟨script, rfl, h0, rfl⟩ := h; rfl
  · obtain ⟨script, rfl, h0, rfl⟩ := h; simp
  · obtain ⟨script, rfl, h0, rfl⟩ := h
    show Ss _ _ [.da ((eL PyData.int) script), .no, .no, .no, .no, .no, .no, .no, .no, .no, .no, .no, .no, .no, .no, .no, .no] _ _
    refine s_seq (s_state (i := 1) (l := script) (s := seedOf script) (el_callL (ds := [((eL PyData.int) script)]) (ea_cons (ed_var rfl) ea_nil) ⟨_, rfl, by exact h0, rfl⟩) (fun p_state => s_le (ρ1 := [.da ((eL PyData.int) script), .mu true p_state (.any StOk), .no, .no, .no, .no, .no, .no, .no, .no, .no, .no, .no, .no, .no, .no, .no]) (le_rfl rfl) ?_))
    refine s_seq (s_asgGW (ws := [2, 3]) (ρ2 := fun q2 => [.da ((eL PyData.int) script), .mu true p_state (.any StOk), .da ((eP4 eQ eQ eQ eQ) (q2).1), .da (PyData.int (q2).2), .no, .no, .no, .no, .no, .no, .no, .no, .no, .no, .no, .no, .no]) (ew_as (g := (eP (eP4 eQ eQ eQ eQ) PyData.int)) (R := (fun q1 => (fun z => MkOk z) q1.1 ∧ (fun x => x ∈ [(1 : Int), (4 : Int), (8 : Int), (12 : Int)]) q1.2)) (ew_tup (ds := fun p : (Rat × Rat × Rat × Rat) × Int × Unit => [((eP4 eQ eQ eQ eQ) p.1), (PyData.int p.2.1)]) (n := 2) (ewa_cons (ew_callWD (i := 1) (e := (eP4 eQ eQ eQ eQ)) (P3 := (fun z => MkOk z)) (ds := []) (ea_raw rfl ea_nil) rfl ⟨rfl, fun z hz => ⟨z, hz, rfl⟩⟩) (ewa_cons (ew_pickLD (i := 1) (ed_L (el_lst (ds := [(1 : Int), (4 : Int), (8 : Int), (12 : Int)].map PyData.int) (ea_cons ed_int (ea_cons ed_int (ea_cons ed_int (ea_cons ed_int ea_nil)))))) rfl rfl (by simp)) ewa_nil)) (fun _ => rfl)) (fun p hp => ⟨(p.1, p.2.1), ⟨hp.1, hp.2.1⟩, rfl⟩)) (fun q2 hq3 => (eg_tup (egs_cons (eg_name (by simp)) (egs_cons (eg_name (by simp)) egs_nil)))) (fun q2 hq3 => ?_))
    obtain ⟨market_v, steps_v⟩ := q2
    obtain ⟨h_market_v, h_steps_v⟩ := hq3
    refine s_le (ρ1 := [.da ((eL PyData.int) script), .mu true p_state (.any StOk), .da ((eP4 eQ eQ eQ eQ) market_v), .da (PyData.int steps_v), .no, .no, .no, .no, .no, .no, .no, .no, .no, .no, .no, .no, .no]) (le_rfl rfl) ?_
    try dsimp only at h_market_v
    have hmk : MkOk market_v := h_market_v
    try dsimp only at h_steps_v
    have hst : steps_v = 1 ∨ steps_v = 4 ∨ steps_v = 8 ∨ steps_v = 12 := by simpa using h_steps_v
    refine s_seq (s_par3W (ew_callW (i := 1) (e := (fun l : List (List Int) => PyData.tuple (l.map (eT PyData.int)))) (P3 := fun (x4 : Int × Int × Unit) z => ClB (x4.1) (x4.2.1) z) (ds := fun (x4 : Int × Int × Unit) => [(PyData.int x4.1), (PyData.int x4.2.1)]) (ewa_raw rfl (ewa_cons (ew_det (f := PyData.int) (x := steps_v) (ed_var rfl)) (ewa_cons (ew_pickLD (i := 1) (ed_L (el_lst (ds := [(1 : Int), (9 : Int), (1000 : Int)].map PyData.int) (ea_cons ed_int (ea_cons ed_int (ea_cons ed_int ea_nil))))) rfl rfl (by simp)) ewa_nil))) rfl (fun x4 hx5 => ⟨x4.1, x4.2.1, rfl, by have := hx5.1; omega, by have hz := hx5.2.1; simp at hz; omega, fun z hz => ⟨z, hz, rfl⟩⟩)) (ew_callWD (i := 1) (e := (fun l : List (List Int) => PyData.tuple (l.map (eT PyData.int)))) (P3 := (fun z => ClB (steps_v) ((50 : Int)) z)) (ds := [(PyData.int steps_v), (PyData.int (50 : Int))]) (ea_raw rfl (ea_cons (ed_var rfl) (ea_cons ed_int ea_nil))) rfl ⟨steps_v, (50 : Int), rfl, by omega, by decide, fun z hz => ⟨z, hz, rfl⟩⟩) (ew_op (e := PyData.int) (F := (fun _ y7 => ((1 : Int) + y7))) (ew_det (f := PyData.int) (x := (1 : Int)) ed_int) (ew_drawD (i := 1) ed_int rfl rfl (by omega)) (fun x6 y7 hx8 hy9 _ _ _ ha10 hb11 => by subst hx8; exact (ed_I0 ha10 hb11))) (fun one_v other_v factor_v h_one_v h_other_v h_factor_v => s_le (ρ1 := [.da ((eL PyData.int) script), .mu true p_state (.any StOk), .da ((eP4 eQ eQ eQ eQ) market_v), .da (PyData.int steps_v), .da ((eT (eT PyData.int)) one_v), .da ((eT (eT PyData.int)) other_v), .da (PyData.int factor_v), .no, .no, .no, .no, .no, .no, .no, .no, .no, .no]) (le_rfl rfl) ?_))
    try dsimp only at h_one_v
    obtain ⟨xx, ⟨hx1, hx2, _⟩, hcb⟩ := h_one_v
    try dsimp only at hx1 hx2
    have hx3 : xx.2.1 = 1 ∨ xx.2.1 = 9 ∨ xx.2.1 = 1000 := by simpa using hx2
    rw [hx1] at hcb
    have h1 := hcb.ok (by omega) (by omega)
    have hl1 := hcb.1
    try dsimp only at h_other_v
    have hcb2 : ClB steps_v 50 other_v := h_other_v
    have h2 := hcb2.ok (by omega) (by omega)
    have hl2 := hcb2.1
    have hl : one_v.length = other_v.length := by omega
    try dsimp only at h_factor_v
    have hfa : 0 ≤ factor_v ∧ factor_v ≤ 10 := by omega
    have htf := tog_ok (by omega) hcb (by omega) hcb2 hfa
    have ht1 := tog_ok (f := 1) (by omega) hcb (by omega) hcb2 (by decide)
    have hfl := flat_ok (n := steps_v) (by omega)
    refine s_seq (s_if (b := (!decide ((((Str.ofString "fair", share (market_v)))).1 = (Str.ofString "fair")))) (et_test (ed_neS (ed_ixT (ed_call (ds := [((eP4 eQ eQ eQ eQ) market_v)]) (ea_cons (ed_var rfl) ea_nil) ⟨market_v, rfl, by assumption, rfl⟩) ed_int rfl) ed_str)) (fun hc0 => ?_) (fun hc0 => ?_))
    · exact absurd hc0 (by simp)
    · refine s_next ?_
      refine s_seq (s_par (ea_cons (ed_call (ds := [((eP4 eQ eQ eQ eQ) market_v), ((eT (eT PyData.int)) one_v)]) (ea_cons (ed_var rfl) (ea_cons (ed_var rfl) ea_nil)) ⟨market_v, one_v, rfl, by assumption, by assumption, rfl⟩) (ea_cons (ed_call (ds := [((eP4 eQ eQ eQ eQ) market_v), ((eT (eT PyData.int)) other_v)]) (ea_cons (ed_var rfl) (ea_cons (ed_var rfl) ea_nil)) ⟨market_v, other_v, rfl, by assumption, by assumption, rfl⟩) ea_nil)) (s_le (ρ1 := [.da ((eL PyData.int) script), .mu true p_state (.any StOk), .da ((eP4 eQ eQ eQ eQ) market_v), .da (PyData.int steps_v), .da ((eT (eT PyData.int)) one_v), .da ((eT (eT PyData.int)) other_v), .da (PyData.int factor_v), .da (eQ (uadV (market_v) (one_v))), .da (eQ (uadV (market_v) (other_v))), .no, .no, .no, .no, .no, .no, .no, .no]) (le_rfl rfl) ?_))
      refine s_seq (s_if (b := ((!(true)) || (!(true)))) (et_or (et_not (et_truB (ed_call (ds := [((eL eQ) [(uadV (market_v) (one_v)), (uadV (market_v) (other_v))]), ((eL eQ) [(uadV (market_v) (one_v)), (uadV (market_v) (other_v))])]) (ea_cons (ed_L (el_lst (ds := [(uadV (market_v) (one_v)), (uadV (market_v) (other_v))].map eQ) (ea_cons (ed_var rfl) (ea_cons (ed_var rfl) ea_nil)))) (ea_cons (ed_L (el_lst (ds := [(uadV (market_v) (one_v)), (uadV (market_v) (other_v))].map eQ) (ea_cons (ed_call (ds := [((eP4 eQ eQ eQ eQ) market_v), ((eT (eT PyData.int)) one_v)]) (ea_cons (ed_var rfl) (ea_cons (ed_var rfl) ea_nil)) ⟨market_v, one_v, rfl, by assumption, by assumption, rfl⟩) (ea_cons (ed_call (ds := [((eP4 eQ eQ eQ eQ) market_v), ((eT (eT PyData.int)) other_v)]) (ea_cons (ed_var rfl) (ea_cons (ed_var rfl) ea_nil)) ⟨market_v, other_v, rfl, by assumption, by assumption, rfl⟩) ea_nil)))) ea_nil)) ⟨((eL eQ) [(uadV (market_v) (one_v)), (uadV (market_v) (other_v))]), ((eL eQ) [(uadV (market_v) (one_v)), (uadV (market_v) (other_v))]), rfl, by rfl, by exact gd_two (uadV_qk hmk h1) (uadV_qk hmk h2) (by decide), rfl⟩))) (fun hb13 => (et_not (et_truB (ed_call (ds := [(eQ (ixG (ixG (wOf (market_v) ((Str.ofString "end")) (one_v)) (0 : Int)) (0 : Int))), (eQ (uadV (market_v) (one_v)))]) (ea_cons (ed_ixTX (f := eQ) (l := (ixG (wOf (market_v) ((Str.ofString "end")) (one_v)) (0 : Int))) (ed_ixTX (f := (fun l : List Rat => PyData.tuple (l.map eQ))) (l := (wOf (market_v) ((Str.ofString "end")) (one_v))) (ed_call (ds := [((eP4 eQ eQ eQ eQ) market_v), ((eT (eT PyData.int)) one_v), (PyData.str (Str.ofString "end"))]) (ea_cons (ed_var rfl) (ea_cons (ed_var rfl) (ea_cons ed_str ea_nil))) ⟨market_v, one_v, (Str.ofString "end"), rfl, by assumption, by assumption, by exact Or.inr rfl, rfl⟩) ed_int (by exact inb (by rw [w_len h1]; omega))) ed_int (by exact inb (by rw [show (ixG (wOf market_v endL one_v) (0 : Int)).length = 1 from w_row h1 (s := 0) (by omega)]; omega))) (ea_cons (ed_var rfl) ea_nil)) ⟨(eQ (ixG (ixG (wOf (market_v) ((Str.ofString "end")) (one_v)) (0 : Int)) (0 : Int))), (eQ (uadV (market_v) (one_v))), rfl, by exact congrArg eQ (worth_end hmk h1), by rw [worth_end hmk h1]; exact ((uadV_qk hmk h1).gd (by decide)).mono (by decide) (by decide), rfl⟩))))) (fun hc1 => ?_) (fun hc1 => ?_))
      · exact absurd hc1 (by simp)
      · refine s_next ?_
        refine s_seq (s_asg (ed_is (ed_call (ds := [((eP PyData.int PyData.int) (qp (uadV (market_v) (one_v)))), ((eP PyData.int PyData.int) (qp ((uadV (market_v) (other_v)) * qv ((factor_v, (1 : Int))))))]) (ea_cons (ed_is (ed_var rfl) (rfl : _ = ((eP PyData.int PyData.int) (qp (uadV (market_v) (one_v)))))) (ea_cons (ed_is (ed_is (ed_call (ds := [((eP PyData.int PyData.int) (qp (uadV (market_v) (other_v)))), ((eP PyData.int PyData.int) (factor_v, (1 : Int)))]) (ea_cons (ed_is (ed_var rfl) (rfl : _ = ((eP PyData.int PyData.int) (qp (uadV (market_v) (other_v)))))) (ea_cons (ed_tup (ds := [(PyData.int factor_v), (PyData.int (1 : Int))]) (ea_cons (ed_var rfl) (ea_cons ed_int ea_nil))) ea_nil)) ⟨(qp (uadV (market_v) (other_v))), (factor_v, (1 : Int)), rfl, by exact ((uadV_qk hmk h2).qb (by decide)).pb, by exact pb_small (by omega) (by decide) (by decide), rfl⟩) (by simp only [qv_qp] : _ = (eQ ((uadV (market_v) (other_v)) * qv ((factor_v, (1 : Int))))))) (rfl : _ = ((eP PyData.int PyData.int) (qp ((uadV (market_v) (other_v)) * qv ((factor_v, (1 : Int)))))))) ea_nil)) ⟨(qp (uadV (market_v) (one_v))), (qp ((uadV (market_v) (other_v)) * qv ((factor_v, (1 : Int))))), rfl, by exact ((uadV_qk hmk h1).qb (by decide)).pb, by rw [qv_1]; exact ((Qk_mul (uadV_qk hmk h2) (int_qk (k := 64) (by omega))).qb (by decide)).pb, rfl⟩) (by simp only [qv_qp] : _ = (eQ ((uadV (market_v) (one_v)) + ((uadV (market_v) (other_v)) * qv ((factor_v, (1 : Int)))))))) (s_le (ρ1 := [.da ((eL PyData.int) script), .mu true p_state (.any StOk), .da ((eP4 eQ eQ eQ eQ) market_v), .da (PyData.int steps_v), .da ((eT (eT PyData.int)) one_v), .da ((eT (eT PyData.int)) other_v), .da (PyData.int factor_v), .da (eQ (uadV (market_v) (one_v))), .da (eQ (uadV (market_v) (other_v))), .da (eQ ((uadV (market_v) (one_v)) + ((uadV (market_v) (other_v)) * qv ((factor_v, (1 : Int)))))), .no, .no, .no, .no, .no, .no, .no]) (le_rfl rfl) ?_))
        refine s_seq (s_if (b := (!(true))) (et_not (et_truB (ed_call (ds := [(eQ (uadV (market_v) ((tog (one_v) (other_v) (factor_v))))), (eQ ((uadV (market_v) (one_v)) + ((uadV (market_v) (other_v)) * qv ((factor_v, (1 : Int))))))]) (ea_cons (ed_call (ds := [((eP4 eQ eQ eQ eQ) market_v), ((eT (eT PyData.int)) (tog (one_v) (other_v) (factor_v)))]) (ea_cons (ed_var rfl) (ea_cons (ed_call (ds := [((eT (eT PyData.int)) one_v), ((eT (eT PyData.int)) other_v), (PyData.int factor_v)]) (ea_cons (ed_var rfl) (ea_cons (ed_var rfl) (ea_cons (ed_var rfl) ea_nil))) ⟨one_v, other_v, factor_v, rfl, by assumption, by assumption, by exact hl, by exact hfa, rfl⟩) ea_nil)) ⟨market_v, (tog (one_v) (other_v) (factor_v)), rfl, by assumption, by exact htf, rfl⟩) (ea_cons (ed_var rfl) ea_nil)) ⟨(eQ (uadV (market_v) ((tog (one_v) (other_v) (factor_v))))), (eQ ((uadV (market_v) (one_v)) + ((uadV (market_v) (other_v)) * qv ((factor_v, (1 : Int)))))), rfl, by exact congrArg eQ (uadV_due hmk h1 h2 hl htf), by exact ((uadV_qk hmk htf).gd (by decide)).mono (by decide) (by decide), rfl⟩))) (fun hc2 => ?_) (fun hc2 => ?_))
        · exact absurd hc2 (by simp)
        · refine s_next ?_
          refine s_seq (s_asg (ed_is (ed_tupleL (ed_L (el_lcAX (xs := (List.range ((steps_v + (1 : Int))).toNat)) (ea := fun (i : Nat) => Itm.hard (PyData.int (i : Int))) (enc := (fun l : List Int => PyData.tuple (l.map PyData.int))) (fb := fun (x14 : Nat) => (List.replicate (((x14 : Int) + (1 : Int))).toNat [(7 : Int)]).flatten) (ei_rng (ed_I0 (ed_var rfl) ed_int) (by omega)) (by first | (simp; done) | (simp; omega)) (by simp) (fun _ _ x14 hx14 => ⟨_, rfl, (eg_name (by simp)), (ed_repT (ed_tup (ds := [(PyData.int (7 : Int))]) (ea_cons ed_int ea_nil)) (ed_I0 (ed_var rfl) ed_int) (by exact ⟨by simp, by simp⟩) (by have := List.mem_range.mp (by assumption); omega))⟩)))) (by rfl : _ = ((eT (eT PyData.int)) (flatC steps_v)))) (s_le (ρ1 := [.da ((eL PyData.int) script), .mu true p_state (.any StOk), .da ((eP4 eQ eQ eQ eQ) market_v), .da (PyData.int steps_v), .da ((eT (eT PyData.int)) one_v), .da ((eT (eT PyData.int)) other_v), .da (PyData.int factor_v), .da (eQ (uadV (market_v) (one_v))), .da (eQ (uadV (market_v) (other_v))), .da (eQ ((uadV (market_v) (one_v)) + ((uadV (market_v) (other_v)) * qv ((factor_v, (1 : Int)))))), .da ((eT (eT PyData.int)) (flatC steps_v)), .no, .no, .no, .no, .no, .no]) (le_rfl rfl) ?_))
          refine s_seq (s_if (b := (!(true))) (et_not (et_truB (ed_call (ds := [(eQ (uadV (market_v) ((flatC steps_v)))), (eQ (qv (((7 : Int), (1 : Int))) * (((market_v.2.2.2)⁻¹) ^ ((steps_v)).toNat)))]) (ea_cons (ed_call (ds := [((eP4 eQ eQ eQ eQ) market_v), ((eT (eT PyData.int)) (flatC steps_v))]) (ea_cons (ed_var rfl) (ea_cons (ed_var rfl) ea_nil)) ⟨market_v, (flatC steps_v), rfl, by assumption, by exact hfl.1, rfl⟩) (ea_cons (ed_is (ed_call (ds := [((eP PyData.int PyData.int) ((7 : Int), (1 : Int))), ((eP PyData.int PyData.int) (qp (((market_v.2.2.2)⁻¹) ^ ((steps_v)).toNat)))]) (ea_cons (ed_tup (ds := [(PyData.int (7 : Int)), (PyData.int (1 : Int))]) (ea_cons ed_int (ea_cons ed_int ea_nil))) (ea_cons (ed_is (ed_call (ds := [(eQ (market_v.2.2.2)⁻¹), (PyData.int steps_v)]) (ea_cons (ed_is (ed_tup (ds := [(PyData.int (((market_v).2.2.2).den : Int)), (PyData.int ((market_v).2.2.2).num)]) (ea_cons (ed_ixT (ed_ixT (ed_var rfl) ed_int rfl) ed_int rfl) (ea_cons (ed_ixT (ed_ixT (ed_var rfl) ed_int rfl) ed_int rfl) ea_nil))) (by exact congrArg PyData.tuple (inv_pair (mk_pos hmk).2.2) : _ = (eQ (market_v.2.2.2)⁻¹))) (ea_cons (ed_var rfl) ea_nil)) ⟨(market_v.2.2.2)⁻¹, steps_v, rfl, by omega, by exact (inv_qk hmk).mono (by decide), rfl⟩) (rfl : _ = ((eP PyData.int PyData.int) (qp (((market_v.2.2.2)⁻¹) ^ ((steps_v)).toNat))))) ea_nil)) ⟨((7 : Int), (1 : Int)), (qp (((market_v.2.2.2)⁻¹) ^ ((steps_v)).toNat)), rfl, by exact pb_small (by decide) (by decide) (by decide), by exact flat_pb hmk (by omega), rfl⟩) (by simp only [qv_qp] : _ = (eQ (qv (((7 : Int), (1 : Int))) * (((market_v.2.2.2)⁻¹) ^ ((steps_v)).toNat))))) ea_nil)) ⟨(eQ (uadV (market_v) ((flatC steps_v)))), (eQ (qv (((7 : Int), (1 : Int))) * (((market_v.2.2.2)⁻¹) ^ ((steps_v)).toNat))), rfl, by exact congrArg eQ (flat_val hmk (by omega)), by exact ((uadV_qk hmk hfl.1).gd (by decide)).mono (by decide) (by decide), rfl⟩))) (fun hc3 => ?_) (fun hc3 => ?_))
          · exact absurd hc3 (by simp)
          · refine s_next ?_
            refine s_seq (s_asg (ed_L (el_lcAX (xs := [one_v, other_v]) (ea := fun x => Itm.hard ((eT (eT PyData.int)) x)) (enc := (fun l : List (List (Rat × Rat × Rat)) => PyData.tuple (l.map (eT (eP3 eQ eQ eQ))))) (fb := fun (x15 : (List (List Int))) => (nodesOf (market_v) ((Str.ofString "any")) (x15))) (ei_listX (ed_L (el_lst (ds := [one_v, other_v].map (eT (eT PyData.int))) (ea_cons (ed_var rfl) (ea_cons (ed_var rfl) ea_nil))))) (by first | (simp; done) | (simp; omega)) (by simp) (fun _ _ x15 hx15 => ⟨_, rfl, (eg_name (by simp)), (ed_call (ds := [((eP4 eQ eQ eQ eQ) market_v), ((eT (eT PyData.int)) x15), (PyData.str (Str.ofString "any"))]) (ea_cons (ed_var rfl) (ea_cons (ed_var rfl) (ea_cons ed_str ea_nil))) ⟨market_v, x15, (Str.ofString "any"), rfl, by assumption, by rcases mem2 (by assumption) with e | e <;> rw [e] <;> assumption, by exact Or.inl rfl, rfl⟩)⟩))) (s_le (ρ1 := [.da ((eL PyData.int) script), .mu true p_state (.any StOk), .da ((eP4 eQ eQ eQ eQ) market_v), .da (PyData.int steps_v), .da ((eT (eT PyData.int)) one_v), .da ((eT (eT PyData.int)) other_v), .da (PyData.int factor_v), .da (eQ (uadV (market_v) (one_v))), .da (eQ (uadV (market_v) (other_v))), .da (eQ ((uadV (market_v) (one_v)) + ((uadV (market_v) (other_v)) * qv ((factor_v, (1 : Int)))))), .da ((eT (eT PyData.int)) (flatC steps_v)), .no, .da ((eL (eT (eT (eP3 eQ eQ eQ)))) (([one_v, other_v]).map fun (x15 : (List (List Int))) => (nodesOf (market_v) ((Str.ofString "any")) (x15)))), .no, .no, .no, .no]) (le_rfl rfl) ?_))
            refine s_seq (s_asgM (ds := ([]).map (eT (eP3 eQ eQ eQ))) (el_lst (ds := [].map (eT (eP3 eQ eQ eQ))) ea_nil) (fun p_rows16 => s_le (ρ1 := [.da ((eL PyData.int) script), .mu true p_state (.any StOk), .da ((eP4 eQ eQ eQ eQ) market_v), .da (PyData.int steps_v), .da ((eT (eT PyData.int)) one_v), .da ((eT (eT PyData.int)) other_v), .da (PyData.int factor_v), .da (eQ (uadV (market_v) (one_v))), .da (eQ (uadV (market_v) (other_v))), .da (eQ ((uadV (market_v) (one_v)) + ((uadV (market_v) (other_v)) * qv ((factor_v, (1 : Int)))))), .da ((eT (eT PyData.int)) (flatC steps_v)), .no, .da ((eL (eT (eT (eP3 eQ eQ eQ)))) (([one_v, other_v]).map fun (x15 : (List (List Int))) => (nodesOf (market_v) ((Str.ofString "any")) (x15)))), .no, .mu true p_rows16 (.lst ([].map (eT (eP3 eQ eQ eQ)))), .no, .no]) (le_rfl rfl) ?_))
            refine s_seq (s_forX ((List.range ((steps_v + (1 : Int))).toNat)) (fun (i : Nat) => Itm.hard (PyData.int (i : Int))) (ei_rng (ed_I0 (ed_var rfl) ed_int) (by omega)) (fun i0 => [.da ((eL PyData.int) script), .mu true p_state (.any StOk), .da ((eP4 eQ eQ eQ eQ) market_v), .da (PyData.int steps_v), .da ((eT (eT PyData.int)) one_v), .da ((eT (eT PyData.int)) other_v), .da (PyData.int factor_v), .da (eQ (uadV (market_v) (one_v))), .da (eQ (uadV (market_v) (other_v))), .da (eQ ((uadV (market_v) (one_v)) + ((uadV (market_v) (other_v)) * qv ((factor_v, (1 : Int)))))), .da ((eT (eT PyData.int)) (flatC steps_v)), .no, .da ((eL (eT (eT (eP3 eQ eQ eQ)))) (([one_v, other_v]).map fun (x15 : (List (List Int))) => (nodesOf (market_v) ((Str.ofString "any")) (x15)))), .no, .mu true p_rows16 (.lst (((List.range (i0)).map (togR market_v one_v other_v)).map (eT (eP3 eQ eQ eQ)))), .no, .no]) (le_same (le_same (le_same (le_same (le_same (le_same (le_same (le_same (le_same (le_same (le_same (le_no (le_same (le_no (le_mu (congrArg MO.lst (by rfl)) (le_no (le_no le_nil))))))))))))))))) (fun T0 hT0 i0 x0 hx0 => ⟨_, [11], (eg_name (by simp)), ?_⟩) ?_)
            · show Ss _ _ [.da ((eL PyData.int) script), .mu true p_state (.any StOk), .da ((eP4 eQ eQ eQ eQ) market_v), .da (PyData.int steps_v), .da ((eT (eT PyData.int)) one_v), .da ((eT (eT PyData.int)) other_v), .da (PyData.int factor_v), .da (eQ (uadV (market_v) (one_v))), .da (eQ (uadV (market_v) (other_v))), .da (eQ ((uadV (market_v) (one_v)) + ((uadV (market_v) (other_v)) * qv ((factor_v, (1 : Int)))))), .da ((eT (eT PyData.int)) (flatC steps_v)), .da (PyData.int (x0 : Int)), .da ((eL (eT (eT (eP3 eQ eQ eQ)))) (([one_v, other_v]).map fun (x15 : (List (List Int))) => (nodesOf (market_v) ((Str.ofString "any")) (x15)))), .no, .mu true p_rows16 (.lst (((List.range (i0)).map (togR market_v one_v other_v)).map (eT (eP3 eQ eQ eQ)))), .no, .no] _ _
              have hlt0 := (rng_get hx0).2
              refine s_le (ρ1 := [.da ((eL PyData.int) script), .mu true p_state (.any StOk), .da ((eP4 eQ eQ eQ eQ) market_v), .da (PyData.int steps_v), .da ((eT (eT PyData.int)) one_v), .da ((eT (eT PyData.int)) other_v), .da (PyData.int factor_v), .da (eQ (uadV (market_v) (one_v))), .da (eQ (uadV (market_v) (other_v))), .da (eQ ((uadV (market_v) (one_v)) + ((uadV (market_v) (other_v)) * qv ((factor_v, (1 : Int)))))), .da ((eT (eT PyData.int)) (flatC steps_v)), .da (PyData.int (i0 : Int)), .da ((eL (eT (eT (eP3 eQ eQ eQ)))) (([one_v, other_v]).map fun (x15 : (List (List Int))) => (nodesOf (market_v) ((Str.ofString "any")) (x15)))), .no, .mu true p_rows16 (.lst (((List.range (i0)).map (togR market_v one_v other_v)).map (eT (eP3 eQ eQ eQ)))), .no, .no]) (le_rfl (by rw [(rng_get hx0).1])) ?_
              have hi0 : i0 < one_v.length := by omega
              have ra := node_row (m := market_v) (kind := anyL) h1 hi0
              have rb := node_row (m := market_v) (kind := anyL) h2 (hl ▸ hi0)
              refine (s_append (ed_tupleL (ed_L (el_lcAX (xs := (List.range (((i0 : Int) + (1 : Int))).toNat)) (ea := fun (i : Nat) => Itm.hard (PyData.int (i : Int))) (enc := (eP3 eQ eQ eQ)) (fb := fun (x17 : Nat) => (addN (ixG (ixG (nodesOf market_v anyL one_v) (i0 : Int)) (x17 : Int)) (ixG (ixG (nodesOf market_v anyL other_v) (i0 : Int)) (x17 : Int)))) (ei_rng (ed_I0 (ed_var rfl) ed_int) (by omega)) (by first | (simp; done) | (simp; omega)) (by simp) (fun _ _ x17 hx17 => ⟨_, rfl, (eg_name (by simp)), (ed_is (ed_tupleL (ed_L (el_lcAX (xs := (List.range ((3 : Int)).toNat)) (ea := fun (i : Nat) => Itm.hard (PyData.int (i : Int))) (enc := eQ) (fb := fun (x18 : Nat) => ((ixG [((ixG (ixG (nodesOf market_v anyL one_v) (i0 : Int)) (x17 : Int))).1, ((ixG (ixG (nodesOf market_v anyL one_v) (i0 : Int)) (x17 : Int))).2.1, ((ixG (ixG (nodesOf market_v anyL one_v) (i0 : Int)) (x17 : Int))).2.2] (x18 : Int)) + (ixG [((ixG (ixG (nodesOf market_v anyL other_v) (i0 : Int)) (x17 : Int))).1, ((ixG (ixG (nodesOf market_v anyL other_v) (i0 : Int)) (x17 : Int))).2.1, ((ixG (ixG (nodesOf market_v anyL other_v) (i0 : Int)) (x17 : Int))).2.2] (x18 : Int)))) (ei_rng ed_int (by omega)) (by first | (simp; done) | (simp; omega)) (by simp) (fun _ _ x18 hx18 => ⟨_, rfl, (eg_name (by simp)), (ed_is (ed_call (ds := [((eP PyData.int PyData.int) (qp (ixG [((ixG (ixG (nodesOf market_v anyL one_v) (i0 : Int)) (x17 : Int))).1, ((ixG (ixG (nodesOf market_v anyL one_v) (i0 : Int)) (x17 : Int))).2.1, ((ixG (ixG (nodesOf market_v anyL one_v) (i0 : Int)) (x17 : Int))).2.2] (x18 : Int)))), ((eP PyData.int PyData.int) (qp (ixG [((ixG (ixG (nodesOf market_v anyL other_v) (i0 : Int)) (x17 : Int))).1, ((ixG (ixG (nodesOf market_v anyL other_v) (i0 : Int)) (x17 : Int))).2.1, ((ixG (ixG (nodesOf market_v anyL other_v) (i0 : Int)) (x17 : Int))).2.2] (x18 : Int))))]) (ea_cons (ed_is (ed_ixTX (f := eQ) (l := [((ixG (ixG (nodesOf market_v anyL one_v) (i0 : Int)) (x17 : Int))).1, ((ixG (ixG (nodesOf market_v anyL one_v) (i0 : Int)) (x17 : Int))).2.1, ((ixG (ixG (nodesOf market_v anyL one_v) (i0 : Int)) (x17 : Int))).2.2]) (ed_is (ed_ixTX (f := (eP3 eQ eQ eQ)) (l := (ixG (nodesOf market_v anyL one_v) (i0 : Int))) (ed_ixTX (f := (fun l : List (Rat × Rat × Rat) => PyData.tuple (l.map (eP3 eQ eQ eQ)))) (l := (nodesOf market_v anyL one_v)) (ed_is (ed_ixLX (f := (fun l : List (List (Rat × Rat × Rat)) => PyData.tuple (l.map (eT (eP3 eQ eQ eQ))))) (l := (([one_v, other_v]).map fun (x15 : (List (List Int))) => (nodesOf (market_v) ((Str.ofString "any")) (x15)))) (ed_var rfl) ed_int (by exact inb (by simp))) (by rfl : _ = ((eT (eT (eP3 eQ eQ eQ))) (nodesOf market_v anyL one_v)))) (ed_var rfl) (by exact inb (by rw [nodes_len hmk h1]; omega))) (ed_var rfl) (by exact inb (by have := in_rows (n := i0) (by assumption); rw [ra]; omega))) (rfl : _ = ((eT eQ) [((ixG (ixG (nodesOf market_v anyL one_v) (i0 : Int)) (x17 : Int))).1, ((ixG (ixG (nodesOf market_v anyL one_v) (i0 : Int)) (x17 : Int))).2.1, ((ixG (ixG (nodesOf market_v anyL one_v) (i0 : Int)) (x17 : Int))).2.2]))) (ed_var rfl) (by exact inb (by have := List.mem_range.mp (by assumption : _ ∈ List.range ((3 : Int)).toNat); show (0 : Int) ≤ _ ∧ _ < ((3 : Nat) : Int); have : ((3 : Int)).toNat = 3 := rfl; omega))) (rfl : _ = ((eP PyData.int PyData.int) (qp (ixG [((ixG (ixG (nodesOf market_v anyL one_v) (i0 : Int)) (x17 : Int))).1, ((ixG (ixG (nodesOf market_v anyL one_v) (i0 : Int)) (x17 : Int))).2.1, ((ixG (ixG (nodesOf market_v anyL one_v) (i0 : Int)) (x17 : Int))).2.2] (x18 : Int)))))) (ea_cons (ed_is (ed_ixTX (f := eQ) (l := [((ixG (ixG (nodesOf market_v anyL other_v) (i0 : Int)) (x17 : Int))).1, ((ixG (ixG (nodesOf market_v anyL other_v) (i0 : Int)) (x17 : Int))).2.1, ((ixG (ixG (nodesOf market_v anyL other_v) (i0 : Int)) (x17 : Int))).2.2]) (ed_is (ed_ixTX (f := (eP3 eQ eQ eQ)) (l := (ixG (nodesOf market_v anyL other_v) (i0 : Int))) (ed_ixTX (f := (fun l : List (Rat × Rat × Rat) => PyData.tuple (l.map (eP3 eQ eQ eQ)))) (l := (nodesOf market_v anyL other_v)) (ed_is (ed_ixLX (f := (fun l : List (List (Rat × Rat × Rat)) => PyData.tuple (l.map (eT (eP3 eQ eQ eQ))))) (l := (([one_v, other_v]).map fun (x15 : (List (List Int))) => (nodesOf (market_v) ((Str.ofString "any")) (x15)))) (ed_var rfl) ed_int (by exact inb (by simp))) (by rfl : _ = ((eT (eT (eP3 eQ eQ eQ))) (nodesOf market_v anyL other_v)))) (ed_var rfl) (by exact inb (by rw [nodes_len hmk h2]; omega))) (ed_var rfl) (by exact inb (by have := in_rows (n := i0) (by assumption); rw [rb]; omega))) (rfl : _ = ((eT eQ) [((ixG (ixG (nodesOf market_v anyL other_v) (i0 : Int)) (x17 : Int))).1, ((ixG (ixG (nodesOf market_v anyL other_v) (i0 : Int)) (x17 : Int))).2.1, ((ixG (ixG (nodesOf market_v anyL other_v) (i0 : Int)) (x17 : Int))).2.2]))) (ed_var rfl) (by exact inb (by have := List.mem_range.mp (by assumption : _ ∈ List.range ((3 : Int)).toNat); show (0 : Int) ≤ _ ∧ _ < ((3 : Nat) : Int); have : ((3 : Int)).toNat = 3 := rfl; omega))) (rfl : _ = ((eP PyData.int PyData.int) (qp (ixG [((ixG (ixG (nodesOf market_v anyL other_v) (i0 : Int)) (x17 : Int))).1, ((ixG (ixG (nodesOf market_v anyL other_v) (i0 : Int)) (x17 : Int))).2.1, ((ixG (ixG (nodesOf market_v anyL other_v) (i0 : Int)) (x17 : Int))).2.2] (x18 : Int)))))) ea_nil)) ⟨(qp (ixG [((ixG (ixG (nodesOf market_v anyL one_v) (i0 : Int)) (x17 : Int))).1, ((ixG (ixG (nodesOf market_v anyL one_v) (i0 : Int)) (x17 : Int))).2.1, ((ixG (ixG (nodesOf market_v anyL one_v) (i0 : Int)) (x17 : Int))).2.2] (x18 : Int))), (qp (ixG [((ixG (ixG (nodesOf market_v anyL other_v) (i0 : Int)) (x17 : Int))).1, ((ixG (ixG (nodesOf market_v anyL other_v) (i0 : Int)) (x17 : Int))).2.1, ((ixG (ixG (nodesOf market_v anyL other_v) (i0 : Int)) (x17 : Int))).2.2] (x18 : Int))), rfl, by exact nd_pb hmk h1 hi0 (by assumption) (by assumption), by exact nd_pb hmk h2 (hl ▸ hi0) (by assumption) (by assumption), rfl⟩) (by simp only [qv_qp] : _ = (eQ ((ixG [((ixG (ixG (nodesOf market_v anyL one_v) (i0 : Int)) (x17 : Int))).1, ((ixG (ixG (nodesOf market_v anyL one_v) (i0 : Int)) (x17 : Int))).2.1, ((ixG (ixG (nodesOf market_v anyL one_v) (i0 : Int)) (x17 : Int))).2.2] (x18 : Int)) + (ixG [((ixG (ixG (nodesOf market_v anyL other_v) (i0 : Int)) (x17 : Int))).1, ((ixG (ixG (nodesOf market_v anyL other_v) (i0 : Int)) (x17 : Int))).2.1, ((ixG (ixG (nodesOf market_v anyL other_v) (i0 : Int)) (x17 : Int))).2.2] (x18 : Int))))))⟩)))) (by rfl : _ = ((eP3 eQ eQ eQ) (addN (ixG (ixG (nodesOf market_v anyL one_v) (i0 : Int)) (x17 : Int)) (ixG (ixG (nodesOf market_v anyL other_v) (i0 : Int)) (x17 : Int))))))⟩)))) ⟨_, _, rfl⟩ rfl (by simp; omega) (s_le (ρ1 := [.da ((eL PyData.int) script), .mu true p_state (.any StOk), .da ((eP4 eQ eQ eQ eQ) market_v), .da (PyData.int steps_v), .da ((eT (eT PyData.int)) one_v), .da ((eT (eT PyData.int)) other_v), .da (PyData.int factor_v), .da (eQ (uadV (market_v) (one_v))), .da (eQ (uadV (market_v) (other_v))), .da (eQ ((uadV (market_v) (one_v)) + ((uadV (market_v) (other_v)) * qv ((factor_v, (1 : Int)))))), .da ((eT (eT PyData.int)) (flatC steps_v)), .da (PyData.int (i0 : Int)), .da ((eL (eT (eT (eP3 eQ eQ eQ)))) (([one_v, other_v]).map fun (x15 : (List (List Int))) => (nodesOf (market_v) ((Str.ofString "any")) (x15)))), .no, .mu true p_rows16 (.lst ((((List.range (i0)).map (togR market_v one_v other_v)) ++ [(((List.range (((i0 : Int) + (1 : Int))).toNat)).map fun (x17 : Nat) => (addN (ixG (ixG (nodesOf market_v anyL one_v) (i0 : Int)) (x17 : Int)) (ixG (ixG (nodesOf market_v anyL other_v) (i0 : Int)) (x17 : Int))))]).map (eT (eP3 eQ eQ eQ)))), .no, .no]) (le_same (le_same (le_same (le_same (le_same (le_same (le_same (le_same (le_same (le_same (le_same (le_same (le_same (le_same (le_mu (congrArg MO.lst (by simp)) (le_same (le_same le_nil))))))))))))))))) ?_))
              exact s_end (le_same (le_same (le_same (le_same (le_same (le_same (le_same (le_same (le_same (le_same (le_same (le_no (le_same (le_no (le_mu (congrArg MO.lst (by exact congrArg (List.map (eT (eP3 eQ eQ eQ))) (togR_step _ _ _ _))) (le_no (le_no le_nil)))))))))))))))))
            refine s_le (ρ1 := [.da ((eL PyData.int) script), .mu true p_state (.any StOk), .da ((eP4 eQ eQ eQ eQ) market_v), .da (PyData.int steps_v), .da ((eT (eT PyData.int)) one_v), .da ((eT (eT PyData.int)) other_v), .da (PyData.int factor_v), .da (eQ (uadV (market_v) (one_v))), .da (eQ (uadV (market_v) (other_v))), .da (eQ ((uadV (market_v) (one_v)) + ((uadV (market_v) (other_v)) * qv ((factor_v, (1 : Int)))))), .da ((eT (eT PyData.int)) (flatC steps_v)), .no, .da ((eL (eT (eT (eP3 eQ eQ eQ)))) (([one_v, other_v]).map fun (x15 : (List (List Int))) => (nodesOf (market_v) ((Str.ofString "any")) (x15)))), .no, .da ((eL (eT (eP3 eQ eQ eQ))) ((List.range (((List.range ((steps_v + (1 : Int))).toNat)).length)).map (togR market_v one_v other_v))), .no, .no]) (le_same (le_same (le_same (le_same (le_same (le_same (le_same (le_same (le_same (le_same (le_same (le_no (le_same (le_no (le_frz (le_no (le_no le_nil))))))))))))))))) ?_
            refine s_seq (s_if (b := (!isNone PyData.none)) (et_test (ed_notN (ed_call (ds := [((eP4 eQ eQ eQ eQ) market_v), ((eT (eT PyData.int)) (tog (one_v) (other_v) ((1 : Int)))), (PyData.str (Str.ofString "any")), ((eT (eT (eP3 eQ eQ eQ))) ((List.range (((List.range ((steps_v + (1 : Int))).toNat)).length)).map (togR market_v one_v other_v)))]) (ea_cons (ed_var rfl) (ea_cons (ed_call (ds := [((eT (eT PyData.int)) one_v), ((eT (eT PyData.int)) other_v), (PyData.int (1 : Int))]) (ea_cons (ed_var rfl) (ea_cons (ed_var rfl) (ea_cons ed_int ea_nil))) ⟨one_v, other_v, (1 : Int), rfl, by assumption, by assumption, by exact hl, by decide, rfl⟩) (ea_cons ed_str (ea_cons (ed_tupleL (ed_var rfl)) ea_nil)))) ⟨market_v, (tog (one_v) (other_v) ((1 : Int))), (Str.ofString "any"), ((List.range (((List.range ((steps_v + (1 : Int))).toNat)).length)).map (togR market_v one_v other_v)), rfl, by assumption, by exact ht1, by rfl, by rw [List.length_range, togT_is (by omega), tog_len]; exact togT_ok hmk h1 h2 hl, by rw [List.length_range, togT_is (by omega)]; exact fun s j hs hj => togT_pay hmk h1 h2 hl hs hj, by rw [List.length_range, togT_is (by omega)]; exact fun s j hs hj => togT_node hmk h1 h2 hl hs hj, rfl⟩))) (fun hc4 => ?_) (fun hc4 => ?_))
            · exact absurd hc4 (by simp [isNone])
            · refine s_next ?_
              exact s_retP (ew_callWD (i := 1) (e := PyData.bool) (P3 := (fun z => z = true)) (ds := [((eP4 eQ eQ eQ eQ) market_v), ((eT (eT PyData.int)) one_v), ((eT (eT PyData.int)) other_v)]) (ea_raw rfl (ea_cons (ed_var rfl) (ea_cons (ed_var rfl) (ea_cons (ed_var rfl) ea_nil)))) rfl ⟨market_v, one_v, other_v, rfl, by assumption, by assumption, by assumption, by exact hl, by exact ht1, fun z hz => ⟨z, hz, rfl⟩⟩) (fun x hx => by (try dsimp only at hx); subst hx; exact hR)


/-! ### what the top has written; the law -/
theorem all_mk {l : PySem.W.OpenLaw} {w : World} {K : PySem.W.Frag} {h : Heap} {mg : Str → Option Value} {fa f0 f1 f2 f3 f4 f5 f6 f7 f8 f9 f10 f11 f12 f13 f14 f15 f16 f17 f18 f19 f20 f21 f22 f23 f24 f25 f26 f27 f28 f29 f30 f31 f32 f33 f34 f35 f36 f37 f38 f39 f40 f41 : Addr} {od0 an0 od1 an1 od2 an2 od3 an3 od4 an4 od5 an5 od6 an6 od7 an7 od8 an8 od9 an9 od10 an10 od11 an11 od12 an12 od13 an13 od14 an14 od15 an15 od16 an16 od17 an17 od18 an18 od19 an19 od20 an20 od21 an21 od22 an22 od23 an23 od24 an24 od25 an25 od26 an26 od27 an27 od28 an28 od29 an29 od30 an30 od31 an31 od32 an32 od33 an33 od34 an34 od35 an35 od36 an36 od37 an37 od38 an38 od39 an39 od40 an40 od41 an41 : Option Addr} {sl0 sl1 sl2 sl3 sl4 sl5 sl6 sl7 sl8 sl9 sl10 sl11 sl12 sl13 sl14 sl15 sl16 sl17 sl18 sl19 sl20 sl21 sl22 sl23 sl24 sl25 sl26 sl27 sl28 sl29 sl30 sl31 sl32 sl33 sl34 sl35 sl36 sl37 sl38 sl39 sl40 sl41 : Array (Option Value)} {oc0 kV0 dc0 pm0 cd0 ct0 oc1 kV1 dc1 pm1 cd1 ct1 oc2 kV2 dc2 pm2 cd2 ct2 oc3 kV3 dc3 pm3 cd3 ct3 oc4 kV4 dc4 pm4 cd4 ct4 oc5 kV5 dc5 pm5 cd5 ct5 oc6 kV6 dc6 pm6 cd6 ct6 oc7 kV7 dc7 pm7 cd7 ct7 oc8 kV8 dc8 pm8 cd8 ct8 oc9 kV9 dc9 pm9 cd9 ct9 oc10 kV10 dc10 pm10 cd10 ct10 oc11 kV11 dc11 pm11 cd11 ct11 oc12 kV12 dc12 pm12 cd12 ct12 oc13 kV13 dc13 pm13 cd13 ct13 oc14 kV14 dc14 pm14 cd14 ct14 oc15 kV15 dc15 pm15 cd15 ct15 oc16 kV16 dc16 pm16 cd16 ct16 oc17 kV17 dc17 pm17 cd17 ct17 oc18 kV18 dc18 pm18 cd18 ct18 oc19 kV19 dc19 pm19 cd19 ct19 oc20 kV20 dc20 pm20 cd20 ct20 oc21 kV21 dc21 pm21 cd21 ct21 oc22 kV22 dc22 pm22 cd22 ct22 oc23 kV23 dc23 pm23 cd23 ct23 oc24 kV24 dc24 pm24 cd24 ct24 oc25 kV25 dc25 pm25 cd25 ct25 oc26 kV26 dc26 pm26 cd26 ct26 oc27 kV27 dc27 pm27 cd27 ct27 oc28 kV28 dc28 pm28 cd28 ct28 oc29 kV29 dc29 pm29 cd29 ct29 oc30 kV30 dc30 pm30 cd30 ct30 oc31 kV31 dc31 pm31 cd31 ct31 oc32 kV32 dc32 pm32 cd32 ct32 oc33 kV33 dc33 pm33 cd33 ct33 oc34 kV34 dc34 pm34 cd34 ct34 oc35 kV35 dc35 pm35 cd35 ct35 oc36 kV36 dc36 pm36 cd36 ct36 oc37 kV37 dc37 pm37 cd37 ct37 oc38 kV38 dc38 pm38 cd38 ct38 oc39 kV39 dc39 pm39 cd39 ct39 oc40 kV40 dc40 pm40 cd40 ct40 oc41 kV41 dc41 pm41 cd41 ct41 : Value} (X : K.In h) (G : h.Ns mainGlobals mg) (hfa : mg "law" = some (.ref fa))
    (a0 : PySem.W.nsIn K mainGlobals "_law_start" = some (some (.ref f0))) (l0 : K.lookup f0 = some ⟨oc0, od0, .func (PySem.W.fnOf "_law_start" "_law_start" (defArgs s_law_start) (defBody s_law_start) (defScope s_law_start) .none kV0 dc0 pm0 an0 cd0 ct0), sl0⟩) (c0 : PySem.W.codeIn K cd0 "_law_start" = true) (k0 : PySem.W.keepIn K (.ref f0) = true)
    (a1 : PySem.W.nsIn K mainGlobals "_law_draw" = some (some (.ref f1))) (l1 : K.lookup f1 = some ⟨oc1, od1, .func (PySem.W.fnOf "_law_draw" "_law_draw" (defArgs s_law_draw) (defBody s_law_draw) (defScope s_law_draw) .none kV1 dc1 pm1 an1 cd1 ct1), sl1⟩) (c1 : PySem.W.codeIn K cd1 "_law_draw" = true) (k1 : PySem.W.keepIn K (.ref f1) = true)
    (a2 : PySem.W.nsIn K mainGlobals "_law_pick" = some (some (.ref f2))) (l2 : K.lookup f2 = some ⟨oc2, od2, .func (PySem.W.fnOf "_law_pick" "_law_pick" (defArgs s_law_pick) (defBody s_law_pick) (defScope s_law_pick) .none kV2 dc2 pm2 an2 cd2 ct2), sl2⟩) (c2 : PySem.W.codeIn K cd2 "_law_pick" = true) (k2 : PySem.W.keepIn K (.ref f2) = true)
    (a3 : PySem.W.nsIn K mainGlobals "is_integer" = some (some (.ref f3))) (l3 : K.lookup f3 = some ⟨oc3, od3, .func (PySem.W.fnOf "is_integer" "is_integer" (defArgs s_is_integer) (defBody s_is_integer) (defScope s_is_integer) .none kV3 dc3 pm3 an3 cd3 ct3), sl3⟩) (c3 : PySem.W.codeIn K cd3 "is_integer" = true) (k3 : PySem.W.keepIn K (.ref f3) = true)
    (a4 : PySem.W.nsIn K mainGlobals "greatest_divisor" = some (some (.ref f4))) (l4 : K.lookup f4 = some ⟨oc4, od4, .func (PySem.W.fnOf "greatest_divisor" "greatest_divisor" (defArgs s_greatest_divisor) (defBody s_greatest_divisor) (defScope s_greatest_divisor) .none kV4 dc4 pm4 an4 cd4 ct4), sl4⟩) (c4 : PySem.W.codeIn K cd4 "greatest_divisor" = true) (k4 : PySem.W.keepIn K (.ref f4) = true)
    (a5 : PySem.W.nsIn K mainGlobals "quotient" = some (some (.ref f5))) (l5 : K.lookup f5 = some ⟨oc5, od5, .func (PySem.W.fnOf "quotient" "quotient" (defArgs s_quotient) (defBody s_quotient) (defScope s_quotient) .none kV5 dc5 pm5 an5 cd5 ct5), sl5⟩) (c5 : PySem.W.codeIn K cd5 "quotient" = true) (k5 : PySem.W.keepIn K (.ref f5) = true)
    (a6 : PySem.W.nsIn K mainGlobals "plus" = some (some (.ref f6))) (l6 : K.lookup f6 = some ⟨oc6, od6, .func (PySem.W.fnOf "plus" "plus" (defArgs s_plus) (defBody s_plus) (defScope s_plus) .none kV6 dc6 pm6 an6 cd6 ct6), sl6⟩) (c6 : PySem.W.codeIn K cd6 "plus" = true) (k6 : PySem.W.keepIn K (.ref f6) = true)
    (a7 : PySem.W.nsIn K mainGlobals "minus" = some (some (.ref f7))) (l7 : K.lookup f7 = some ⟨oc7, od7, .func (PySem.W.fnOf "minus" "minus" (defArgs s_minus) (defBody s_minus) (defScope s_minus) .none kV7 dc7 pm7 an7 cd7 ct7), sl7⟩) (c7 : PySem.W.codeIn K cd7 "minus" = true) (k7 : PySem.W.keepIn K (.ref f7) = true)
    (a8 : PySem.W.nsIn K mainGlobals "times" = some (some (.ref f8))) (l8 : K.lookup f8 = some ⟨oc8, od8, .func (PySem.W.fnOf "times" "times" (defArgs s_times) (defBody s_times) (defScope s_times) .none kV8 dc8 pm8 an8 cd8 ct8), sl8⟩) (c8 : PySem.W.codeIn K cd8 "times" = true) (k8 : PySem.W.keepIn K (.ref f8) = true)
    (a9 : PySem.W.nsIn K mainGlobals "over" = some (some (.ref f9))) (l9 : K.lookup f9 = some ⟨oc9, od9, .func (PySem.W.fnOf "over" "over" (defArgs s_over) (defBody s_over) (defScope s_over) .none kV9 dc9 pm9 an9 cd9 ct9), sl9⟩) (c9 : PySem.W.codeIn K cd9 "over" = true) (k9 : PySem.W.keepIn K (.ref f9) = true)
    (a10 : PySem.W.nsIn K mainGlobals "is_less" = some (some (.ref f10))) (l10 : K.lookup f10 = some ⟨oc10, od10, .func (PySem.W.fnOf "is_less" "is_less" (defArgs s_is_less) (defBody s_is_less) (defScope s_is_less) .none kV10 dc10 pm10 an10 cd10 ct10), sl10⟩) (c10 : PySem.W.codeIn K cd10 "is_less" = true) (k10 : PySem.W.keepIn K (.ref f10) = true)
    (a11 : PySem.W.nsIn K mainGlobals "power" = some (some (.ref f11))) (l11 : K.lookup f11 = some ⟨oc11, od11, .func (PySem.W.fnOf "power" "power" (defArgs s_power) (defBody s_power) (defScope s_power) .none kV11 dc11 pm11 an11 cd11 ct11), sl11⟩) (c11 : PySem.W.codeIn K cd11 "power" = true) (k11 : PySem.W.keepIn K (.ref f11) = true)
    (a12 : PySem.W.nsIn K mainGlobals "is_quotient" = some (some (.ref f12))) (l12 : K.lookup f12 = some ⟨oc12, od12, .func (PySem.W.fnOf "is_quotient" "is_quotient" (defArgs s_is_quotient) (defBody s_is_quotient) (defScope s_is_quotient) .none kV12 dc12 pm12 an12 cd12 ct12), sl12⟩) (c12 : PySem.W.codeIn K cd12 "is_quotient" = true) (k12 : PySem.W.keepIn K (.ref f12) = true)
    (a13 : PySem.W.nsIn K mainGlobals "is_factor" = some (some (.ref f13))) (l13 : K.lookup f13 = some ⟨oc13, od13, .func (PySem.W.fnOf "is_factor" "is_factor" (defArgs s_is_factor) (defBody s_is_factor) (defScope s_is_factor) .none kV13 dc13 pm13 an13 cd13 ct13), sl13⟩) (c13 : PySem.W.codeIn K cd13 "is_factor" = true) (k13 : PySem.W.keepIn K (.ref f13) = true)
    (a14 : PySem.W.nsIn K mainGlobals "check_market" = some (some (.ref f14))) (l14 : K.lookup f14 = some ⟨oc14, od14, .func (PySem.W.fnOf "check_market" "check_market" (defArgs s_check_market) (defBody s_check_market) (defScope s_check_market) .none kV14 dc14 pm14 an14 cd14 ct14), sl14⟩) (c14 : PySem.W.codeIn K cd14 "check_market" = true) (k14 : PySem.W.keepIn K (.ref f14) = true)
    (a15 : PySem.W.nsIn K mainGlobals "judge_market" = some (some (.ref f15))) (l15 : K.lookup f15 = some ⟨oc15, od15, .func (PySem.W.fnOf "judge_market" "judge_market" (defArgs s_judge_market) (defBody s_judge_market) (defScope s_judge_market) .none kV15 dc15 pm15 an15 cd15 ct15), sl15⟩) (c15 : PySem.W.codeIn K cd15 "judge_market" = true) (k15 : PySem.W.keepIn K (.ref f15) = true)
    (a16 : PySem.W.nsIn K mainGlobals "node_price" = some (some (.ref f16))) (l16 : K.lookup f16 = some ⟨oc16, od16, .func (PySem.W.fnOf "node_price" "node_price" (defArgs s_node_price) (defBody s_node_price) (defScope s_node_price) .none kV16 dc16 pm16 an16 cd16 ct16), sl16⟩) (c16 : PySem.W.codeIn K cd16 "node_price" = true) (k16 : PySem.W.keepIn K (.ref f16) = true)
    (a17 : PySem.W.nsIn K mainGlobals "price_at" = some (some (.ref f17))) (l17 : K.lookup f17 = some ⟨oc17, od17, .func (PySem.W.fnOf "price_at" "price_at" (defArgs s_price_at) (defBody s_price_at) (defScope s_price_at) .none kV17 dc17 pm17 an17 cd17 ct17), sl17⟩) (c17 : PySem.W.codeIn K cd17 "price_at" = true) (k17 : PySem.W.keepIn K (.ref f17) = true)
    (a18 : PySem.W.nsIn K mainGlobals "check_claim" = some (some (.ref f18))) (l18 : K.lookup f18 = some ⟨oc18, od18, .func (PySem.W.fnOf "check_claim" "check_claim" (defArgs s_check_claim) (defBody s_check_claim) (defScope s_check_claim) .none kV18 dc18 pm18 an18 cd18 ct18), sl18⟩) (c18 : PySem.W.codeIn K cd18 "check_claim" = true) (k18 : PySem.W.keepIn K (.ref f18) = true)
    (a19 : PySem.W.nsIn K mainGlobals "check_fair" = some (some (.ref f19))) (l19 : K.lookup f19 = some ⟨oc19, od19, .func (PySem.W.fnOf "check_fair" "check_fair" (defArgs s_check_fair) (defBody s_check_fair) (defScope s_check_fair) .none kV19 dc19 pm19 an19 cd19 ct19), sl19⟩) (c19 : PySem.W.codeIn K cd19 "check_fair" = true) (k19 : PySem.W.keepIn K (.ref f19) = true)
    (a20 : PySem.W.nsIn K mainGlobals "held" = some (some (.ref f20))) (l20 : K.lookup f20 = some ⟨oc20, od20, .func (PySem.W.fnOf "held" "held" (defArgs s_held) (defBody s_held) (defScope s_held) .none kV20 dc20 pm20 an20 cd20 ct20), sl20⟩) (c20 : PySem.W.codeIn K cd20 "held" = true) (k20 : PySem.W.keepIn K (.ref f20) = true)
    (a21 : PySem.W.nsIn K mainGlobals "nodes_of" = some (some (.ref f21))) (l21 : K.lookup f21 = some ⟨oc21, od21, .func (PySem.W.fnOf "nodes_of" "nodes_of" (defArgs s_nodes_of) (defBody s_nodes_of) (defScope s_nodes_of) .none kV21 dc21 pm21 an21 cd21 ct21), sl21⟩) (c21 : PySem.W.codeIn K cd21 "nodes_of" = true) (k21 : PySem.W.keepIn K (.ref f21) = true)
    (a22 : PySem.W.nsIn K mainGlobals "worths" = some (some (.ref f22))) (l22 : K.lookup f22 = some ⟨oc22, od22, .func (PySem.W.fnOf "worths" "worths" (defArgs s_worths) (defBody s_worths) (defScope s_worths) .none kV22 dc22 pm22 an22 cd22 ct22), sl22⟩) (c22 : PySem.W.codeIn K cd22 "worths" = true) (k22 : PySem.W.keepIn K (.ref f22) = true)
    (a23 : PySem.W.nsIn K mainGlobals "hedges" = some (some (.ref f23))) (l23 : K.lookup f23 = some ⟨oc23, od23, .func (PySem.W.fnOf "hedges" "hedges" (defArgs s_hedges) (defBody s_hedges) (defScope s_hedges) .none kV23 dc23 pm23 an23 cd23 ct23), sl23⟩) (c23 : PySem.W.codeIn K cd23 "hedges" = true) (k23 : PySem.W.keepIn K (.ref f23) = true)
    (a24 : PySem.W.nsIn K mainGlobals "is_node" = some (some (.ref f24))) (l24 : K.lookup f24 = some ⟨oc24, od24, .func (PySem.W.fnOf "is_node" "is_node" (defArgs s_is_node) (defBody s_is_node) (defScope s_is_node) .none kV24 dc24 pm24 an24 cd24 ct24), sl24⟩) (c24 : PySem.W.codeIn K cd24 "is_node" = true) (k24 : PySem.W.keepIn K (.ref f24) = true)
    (a25 : PySem.W.nsIn K mainGlobals "check_node" = some (some (.ref f25))) (l25 : K.lookup f25 = some ⟨oc25, od25, .func (PySem.W.fnOf "check_node" "check_node" (defArgs s_check_node) (defBody s_check_node) (defScope s_check_node) .none kV25 dc25 pm25 an25 cd25 ct25), sl25⟩) (c25 : PySem.W.codeIn K cd25 "check_node" = true) (k25 : PySem.W.keepIn K (.ref f25) = true)
    (a26 : PySem.W.nsIn K mainGlobals "accept_hedges" = some (some (.ref f26))) (l26 : K.lookup f26 = some ⟨oc26, od26, .func (PySem.W.fnOf "accept_hedges" "accept_hedges" (defArgs s_accept_hedges) (defBody s_accept_hedges) (defScope s_accept_hedges) .none kV26 dc26 pm26 an26 cd26 ct26), sl26⟩) (c26 : PySem.W.codeIn K cd26 "accept_hedges" = true) (k26 : PySem.W.keepIn K (.ref f26) = true)
    (a27 : PySem.W.nsIn K mainGlobals "first_uses" = some (some (.ref f27))) (l27 : K.lookup f27 = some ⟨oc27, od27, .func (PySem.W.fnOf "first_uses" "first_uses" (defArgs s_first_uses) (defBody s_first_uses) (defScope s_first_uses) .none kV27 dc27 pm27 an27 cd27 ct27), sl27⟩) (c27 : PySem.W.codeIn K cd27 "first_uses" = true) (k27 : PySem.W.keepIn K (.ref f27) = true)
    (a28 : PySem.W.nsIn K mainGlobals "ups_and_downs" = some (some (.ref f28))) (l28 : K.lookup f28 = some ⟨oc28, od28, .func (PySem.W.fnOf "ups_and_downs" "ups_and_downs" (defArgs s_ups_and_downs) (defBody s_ups_and_downs) (defScope s_ups_and_downs) .none kV28 dc28 pm28 an28 cd28 ct28), sl28⟩) (c28 : PySem.W.codeIn K cd28 "ups_and_downs" = true) (k28 : PySem.W.keepIn K (.ref f28) = true)
    (a29 : PySem.W.nsIn K mainGlobals "_law_q" = some (some (.ref f29))) (l29 : K.lookup f29 = some ⟨oc29, od29, .func (PySem.W.fnOf "_law_q" "_law_q" (defArgs s_law_q) (defBody s_law_q) (defScope s_law_q) .none kV29 dc29 pm29 an29 cd29 ct29), sl29⟩) (c29 : PySem.W.codeIn K cd29 "_law_q" = true) (k29 : PySem.W.keepIn K (.ref f29) = true)
    (a30 : PySem.W.nsIn K mainGlobals "_law_add" = some (some (.ref f30))) (l30 : K.lookup f30 = some ⟨oc30, od30, .func (PySem.W.fnOf "_law_add" "_law_add" (defArgs s_law_add) (defBody s_law_add) (defScope s_law_add) .none kV30 dc30 pm30 an30 cd30 ct30), sl30⟩) (c30 : PySem.W.codeIn K cd30 "_law_add" = true) (k30 : PySem.W.keepIn K (.ref f30) = true)
    (a31 : PySem.W.nsIn K mainGlobals "_law_mul" = some (some (.ref f31))) (l31 : K.lookup f31 = some ⟨oc31, od31, .func (PySem.W.fnOf "_law_mul" "_law_mul" (defArgs s_law_mul) (defBody s_law_mul) (defScope s_law_mul) .none kV31 dc31 pm31 an31 cd31 ct31), sl31⟩) (c31 : PySem.W.codeIn K cd31 "_law_mul" = true) (k31 : PySem.W.keepIn K (.ref f31) = true)
    (a32 : PySem.W.nsIn K mainGlobals "_law_less" = some (some (.ref f32))) (l32 : K.lookup f32 = some ⟨oc32, od32, .func (PySem.W.fnOf "_law_less" "_law_less" (defArgs s_law_less) (defBody s_law_less) (defScope s_law_less) .none kV32 dc32 pm32 an32 cd32 ct32), sl32⟩) (c32 : PySem.W.codeIn K cd32 "_law_less" = true) (k32 : PySem.W.keepIn K (.ref f32) = true)
    (a33 : PySem.W.nsIn K mainGlobals "_law_power" = some (some (.ref f33))) (l33 : K.lookup f33 = some ⟨oc33, od33, .func (PySem.W.fnOf "_law_power" "_law_power" (defArgs s_law_power) (defBody s_law_power) (defScope s_law_power) .none kV33 dc33 pm33 an33 cd33 ct33), sl33⟩) (c33 : PySem.W.codeIn K cd33 "_law_power" = true) (k33 : PySem.W.keepIn K (.ref f33) = true)
    (a34 : PySem.W.nsIn K mainGlobals "_law_end" = some (some (.ref f34))) (l34 : K.lookup f34 = some ⟨oc34, od34, .func (PySem.W.fnOf "_law_end" "_law_end" (defArgs s_law_end) (defBody s_law_end) (defScope s_law_end) .none kV34 dc34 pm34 an34 cd34 ct34), sl34⟩) (c34 : PySem.W.codeIn K cd34 "_law_end" = true) (k34 : PySem.W.keepIn K (.ref f34) = true)
    (a35 : PySem.W.nsIn K mainGlobals "_law_together" = some (some (.ref f35))) (l35 : K.lookup f35 = some ⟨oc35, od35, .func (PySem.W.fnOf "_law_together" "_law_together" (defArgs s_law_together) (defBody s_law_together) (defScope s_law_together) .none kV35 dc35 pm35 an35 cd35 ct35), sl35⟩) (c35 : PySem.W.codeIn K cd35 "_law_together" = true) (k35 : PySem.W.keepIn K (.ref f35) = true)
    (a36 : PySem.W.nsIn K mainGlobals "_law_sub" = some (some (.ref f36))) (l36 : K.lookup f36 = some ⟨oc36, od36, .func (PySem.W.fnOf "_law_sub" "_law_sub" (defArgs s_law_sub) (defBody s_law_sub) (defScope s_law_sub) .none kV36 dc36 pm36 an36 cd36 ct36), sl36⟩) (c36 : PySem.W.codeIn K cd36 "_law_sub" = true) (k36 : PySem.W.keepIn K (.ref f36) = true)
    (a37 : PySem.W.nsIn K mainGlobals "_law_same" = some (some (.ref f37))) (l37 : K.lookup f37 = some ⟨oc37, od37, .func (PySem.W.fnOf "_law_same" "_law_same" (defArgs s_law_same) (defBody s_law_same) (defScope s_law_same) .none kV37 dc37 pm37 an37 cd37 ct37), sl37⟩) (c37 : PySem.W.codeIn K cd37 "_law_same" = true) (k37 : PySem.W.keepIn K (.ref f37) = true)
    (a38 : PySem.W.nsIn K mainGlobals "_law_market" = some (some (.ref f38))) (l38 : K.lookup f38 = some ⟨oc38, od38, .func (PySem.W.fnOf "_law_market" "_law_market" (defArgs s_law_market) (defBody s_law_market) (defScope s_law_market) .none kV38 dc38 pm38 an38 cd38 ct38), sl38⟩) (c38 : PySem.W.codeIn K cd38 "_law_market" = true) (k38 : PySem.W.keepIn K (.ref f38) = true)
    (a39 : PySem.W.nsIn K mainGlobals "_law_claim" = some (some (.ref f39))) (l39 : K.lookup f39 = some ⟨oc39, od39, .func (PySem.W.fnOf "_law_claim" "_law_claim" (defArgs s_law_claim) (defBody s_law_claim) (defScope s_law_claim) .none kV39 dc39 pm39 an39 cd39 ct39), sl39⟩) (c39 : PySem.W.codeIn K cd39 "_law_claim" = true) (k39 : PySem.W.keepIn K (.ref f39) = true)
    (a40 : PySem.W.nsIn K mainGlobals "_law_any_holds" = some (some (.ref f40))) (l40 : K.lookup f40 = some ⟨oc40, od40, .func (PySem.W.fnOf "_law_any_holds" "_law_any_holds" (defArgs s_law_any_holds) (defBody s_law_any_holds) (defScope s_law_any_holds) .none kV40 dc40 pm40 an40 cd40 ct40), sl40⟩) (c40 : PySem.W.codeIn K cd40 "_law_any_holds" = true) (k40 : PySem.W.keepIn K (.ref f40) = true)
    (a41 : PySem.W.nsIn K mainGlobals "law" = some (some (.ref f41))) (l41 : K.lookup f41 = some ⟨oc41, od41, .func (PySem.W.fnOf "law" "law" (defArgs s_law) (defBody s_law) (defScope s_law) .none kV41 dc41 pm41 an41 cd41 ct41), sl41⟩) (c41 : PySem.W.codeIn K cd41 "law" = true) (k41 : PySem.W.keepIn K (.ref f41) = true)
    (z_abs : PySem.W.nsIn K mainGlobals "abs" = some none)
    (z_all : PySem.W.nsIn K mainGlobals "all" = some none)
    (z_bool : PySem.W.nsIn K mainGlobals "bool" = some none)
    (z_enumerate : PySem.W.nsIn K mainGlobals "enumerate" = some none)
    (z_int : PySem.W.nsIn K mainGlobals "int" = some none)
    (z_isinstance : PySem.W.nsIn K mainGlobals "isinstance" = some none)
    (z_len : PySem.W.nsIn K mainGlobals "len" = some none)
    (z_list : PySem.W.nsIn K mainGlobals "list" = some none)
    (z_range : PySem.W.nsIn K mainGlobals "range" = some none)
    (z_repr : PySem.W.nsIn K mainGlobals "repr" = some none)
    (z_set : PySem.W.nsIn K mainGlobals "set" = some none)
    (z_sorted : PySem.W.nsIn K mainGlobals "sorted" = some none)
    (z_str : PySem.W.nsIn K mainGlobals "str" = some none)
    (z_tuple : PySem.W.nsIn K mainGlobals "tuple" = some none)
    {t_MAX_AMOUNT : Tok} (q_MAX_AMOUNT : PySem.W.nsIn K mainGlobals "MAX_AMOUNT" = some (some (.int 1000000 t_MAX_AMOUNT)))
    {t_MAX_PART : Tok} (q_MAX_PART : PySem.W.nsIn K mainGlobals "MAX_PART" = some (some (.int 1000 t_MAX_PART)))
    {t_MAX_STEPS : Tok} (q_MAX_STEPS : PySem.W.nsIn K mainGlobals "MAX_STEPS" = some (some (.int 12 t_MAX_STEPS)))
    : ∃ fd : FuncData, (∀ (s : Shared) (v : Value), BindsTo s fd ⟨[v], []⟩ [("script", v)]) ∧ ∀ base : Heap, K.In base → base.Ns mainGlobals mg → FnG l.prog w K mg base 9 fa fd ["script"] (SpP K R_top) := by
  have e := hfa.symm.trans (PySem.W.mg_of X G a41)
  cases e
  have B : Gb mg := ⟨PySem.W.mg_none_of X G z_abs, PySem.W.mg_none_of X G z_all, PySem.W.mg_none_of X G z_bool, PySem.W.mg_none_of X G z_enumerate, PySem.W.mg_none_of X G z_int, PySem.W.mg_none_of X G z_isinstance, PySem.W.mg_none_of X G z_len, PySem.W.mg_none_of X G z_list, PySem.W.mg_none_of X G z_range, PySem.W.mg_none_of X G z_repr, PySem.W.mg_none_of X G z_set, PySem.W.mg_none_of X G z_sorted, PySem.W.mg_none_of X G z_str, PySem.W.mg_none_of X G z_tuple, ⟨t_MAX_AMOUNT, PySem.W.mg_of X G q_MAX_AMOUNT⟩, ⟨t_MAX_PART, PySem.W.mg_of X G q_MAX_PART⟩, ⟨t_MAX_STEPS, PySem.W.mg_of X G q_MAX_STEPS⟩⟩
  refine ⟨PySem.W.fnOf "law" "law" (defArgs s_law) (defBody s_law) (defScope s_law) .none kV41 dc41 pm41 an41 cd41 ct41, fun s v => .of_eq rfl, fun base _ _ => ?_⟩
  have D0 : Fd K mg "_law_start" s_law_start := ⟨⟨_, _, fun_mk (st := s_law_start) l0 c0 k0, PySem.W.mg_of X G a0⟩⟩
  have C0 := ok_law_start (P := l.prog) (w := w) (base := base) B D0 
  have D1 : Fd K mg "_law_draw" s_law_draw := ⟨⟨_, _, fun_mk (st := s_law_draw) l1 c1 k1, PySem.W.mg_of X G a1⟩⟩
  have C1 := ok_law_draw (P := l.prog) (w := w) (base := base) B D1 
  have D2 : Fd K mg "_law_pick" s_law_pick := ⟨⟨_, _, fun_mk (st := s_law_pick) l2 c2 k2, PySem.W.mg_of X G a2⟩⟩
  have C2 := ok_law_pick (P := l.prog) (w := w) (base := base) B D2 C1
  have D3 : Fd K mg "is_integer" s_is_integer := ⟨⟨_, _, fun_mk (st := s_is_integer) l3 c3 k3, PySem.W.mg_of X G a3⟩⟩
  have C3 := ok_is_integer (P := l.prog) (w := w) (base := base) B D3 
  have D4 : Fd K mg "greatest_divisor" s_greatest_divisor := ⟨⟨_, _, fun_mk (st := s_greatest_divisor) l4 c4 k4, PySem.W.mg_of X G a4⟩⟩
  have C4 := ok_greatest_divisor (P := l.prog) (w := w) (base := base) B D4 
  have D5 : Fd K mg "quotient" s_quotient := ⟨⟨_, _, fun_mk (st := s_quotient) l5 c5 k5, PySem.W.mg_of X G a5⟩⟩
  have C5 := ok_quotient (P := l.prog) (w := w) (base := base) B D5 C4
  have D6 : Fd K mg "plus" s_plus := ⟨⟨_, _, fun_mk (st := s_plus) l6 c6 k6, PySem.W.mg_of X G a6⟩⟩
  have C6 := ok_plus (P := l.prog) (w := w) (base := base) B D6 C5
  have D7 : Fd K mg "minus" s_minus := ⟨⟨_, _, fun_mk (st := s_minus) l7 c7 k7, PySem.W.mg_of X G a7⟩⟩
  have C7 := ok_minus (P := l.prog) (w := w) (base := base) B D7 C5
  have D8 : Fd K mg "times" s_times := ⟨⟨_, _, fun_mk (st := s_times) l8 c8 k8, PySem.W.mg_of X G a8⟩⟩
  have C8 := ok_times (P := l.prog) (w := w) (base := base) B D8 C5
  have D9 : Fd K mg "over" s_over := ⟨⟨_, _, fun_mk (st := s_over) l9 c9 k9, PySem.W.mg_of X G a9⟩⟩
  have C9 := ok_over (P := l.prog) (w := w) (base := base) B D9 C5
  have D10 : Fd K mg "is_less" s_is_less := ⟨⟨_, _, fun_mk (st := s_is_less) l10 c10 k10, PySem.W.mg_of X G a10⟩⟩
  have C10 := ok_is_less (P := l.prog) (w := w) (base := base) B D10 
  have D11 : Fd K mg "power" s_power := ⟨⟨_, _, fun_mk (st := s_power) l11 c11 k11, PySem.W.mg_of X G a11⟩⟩
  have C11 := ok_power (P := l.prog) (w := w) (base := base) B D11 C8
  have D12 : Fd K mg "is_quotient" s_is_quotient := ⟨⟨_, _, fun_mk (st := s_is_quotient) l12 c12 k12, PySem.W.mg_of X G a12⟩⟩
  have C12 := ok_is_quotient (P := l.prog) (w := w) (base := base) B D12 C4 C3
  have D13 : Fd K mg "is_factor" s_is_factor := ⟨⟨_, _, fun_mk (st := s_is_factor) l13 c13 k13, PySem.W.mg_of X G a13⟩⟩
  have C13 := ok_is_factor (P := l.prog) (w := w) (base := base) B D13 C12
  have D14 : Fd K mg "check_market" s_check_market := ⟨⟨_, _, fun_mk (st := s_check_market) l14 c14 k14, PySem.W.mg_of X G a14⟩⟩
  have C14 := ok_check_market (P := l.prog) (w := w) (base := base) B D14 C13 C10
  have D15 : Fd K mg "judge_market" s_judge_market := ⟨⟨_, _, fun_mk (st := s_judge_market) l15 c15 k15, PySem.W.mg_of X G a15⟩⟩
  have C15 := ok_judge_market (P := l.prog) (w := w) (base := base) B D15 C14 C10 C7 C9
  have D16 : Fd K mg "node_price" s_node_price := ⟨⟨_, _, fun_mk (st := s_node_price) l16 c16 k16, PySem.W.mg_of X G a16⟩⟩
  have C16 := ok_node_price (P := l.prog) (w := w) (base := base) B D16 C11 C8
  have D17 : Fd K mg "price_at" s_price_at := ⟨⟨_, _, fun_mk (st := s_price_at) l17 c17 k17, PySem.W.mg_of X G a17⟩⟩
  have C17 := ok_price_at (P := l.prog) (w := w) (base := base) B D17 C14 C3 C16
  have D18 : Fd K mg "check_claim" s_check_claim := ⟨⟨_, _, fun_mk (st := s_check_claim) l18 c18 k18, PySem.W.mg_of X G a18⟩⟩
  have C18 := ok_check_claim (P := l.prog) (w := w) (base := base) B D18 C3
  have D19 : Fd K mg "check_fair" s_check_fair := ⟨⟨_, _, fun_mk (st := s_check_fair) l19 c19 k19, PySem.W.mg_of X G a19⟩⟩
  have C19 := ok_check_fair (P := l.prog) (w := w) (base := base) B D19 C18 C14 C15
  have D20 : Fd K mg "held" s_held := ⟨⟨_, _, fun_mk (st := s_held) l20 c20 k20, PySem.W.mg_of X G a20⟩⟩
  have C20 := ok_held (P := l.prog) (w := w) (base := base) B D20 C7 C9 C6 C8
  have D21 : Fd K mg "nodes_of" s_nodes_of := ⟨⟨_, _, fun_mk (st := s_nodes_of) l21 c21 k21, PySem.W.mg_of X G a21⟩⟩
  have C21 := ok_nodes_of (P := l.prog) (w := w) (base := base) B D21 C20 C10 C15 C16
  have D22 : Fd K mg "worths" s_worths := ⟨⟨_, _, fun_mk (st := s_worths) l22 c22 k22, PySem.W.mg_of X G a22⟩⟩
  have C22 := ok_worths (P := l.prog) (w := w) (base := base) B D22 C19 C21
  have D23 : Fd K mg "hedges" s_hedges := ⟨⟨_, _, fun_mk (st := s_hedges) l23 c23 k23, PySem.W.mg_of X G a23⟩⟩
  have C23 := ok_hedges (P := l.prog) (w := w) (base := base) B D23 C19 C21
  have D24 : Fd K mg "is_node" s_is_node := ⟨⟨_, _, fun_mk (st := s_is_node) l24 c24 k24, PySem.W.mg_of X G a24⟩⟩
  have C24 := ok_is_node (P := l.prog) (w := w) (base := base) B D24 C12
  have D25 : Fd K mg "check_node" s_check_node := ⟨⟨_, _, fun_mk (st := s_check_node) l25 c25 k25, PySem.W.mg_of X G a25⟩⟩
  have C25 := ok_check_node (P := l.prog) (w := w) (base := base) B D25 C10 C16 C6 C8
  have D26 : Fd K mg "accept_hedges" s_accept_hedges := ⟨⟨_, _, fun_mk (st := s_accept_hedges) l26 c26 k26, PySem.W.mg_of X G a26⟩⟩
  have C26 := ok_accept_hedges (P := l.prog) (w := w) (base := base) B D26 C18 C14 C25 C10 C24
  have D27 : Fd K mg "first_uses" s_first_uses := ⟨⟨_, _, fun_mk (st := s_first_uses) l27 c27 k27, PySem.W.mg_of X G a27⟩⟩
  have C27 := ok_first_uses (P := l.prog) (w := w) (base := base) B D27 C19 C21
  have D28 : Fd K mg "ups_and_downs" s_ups_and_downs := ⟨⟨_, _, fun_mk (st := s_ups_and_downs) l28 c28 k28, PySem.W.mg_of X G a28⟩⟩
  have C28 := ok_ups_and_downs (P := l.prog) (w := w) (base := base) B D28 C19 C15 C7 C9 C6 C11 C8
  have D29 : Fd K mg "_law_q" s_law_q := ⟨⟨_, _, fun_mk (st := s_law_q) l29 c29 k29, PySem.W.mg_of X G a29⟩⟩
  have C29 := ok_law_q (P := l.prog) (w := w) (base := base) B D29 
  have D30 : Fd K mg "_law_add" s_law_add := ⟨⟨_, _, fun_mk (st := s_law_add) l30 c30 k30, PySem.W.mg_of X G a30⟩⟩
  have C30 := ok_law_add (P := l.prog) (w := w) (base := base) B D30 C29
  have D31 : Fd K mg "_law_mul" s_law_mul := ⟨⟨_, _, fun_mk (st := s_law_mul) l31 c31 k31, PySem.W.mg_of X G a31⟩⟩
  have C31 := ok_law_mul (P := l.prog) (w := w) (base := base) B D31 C29
  have D32 : Fd K mg "_law_less" s_law_less := ⟨⟨_, _, fun_mk (st := s_law_less) l32 c32 k32, PySem.W.mg_of X G a32⟩⟩
  have C32 := ok_law_less (P := l.prog) (w := w) (base := base) B D32 
  have D33 : Fd K mg "_law_power" s_law_power := ⟨⟨_, _, fun_mk (st := s_law_power) l33 c33 k33, PySem.W.mg_of X G a33⟩⟩
  have C33 := ok_law_power (P := l.prog) (w := w) (base := base) B D33 C31
  have D34 : Fd K mg "_law_end" s_law_end := ⟨⟨_, _, fun_mk (st := s_law_end) l34 c34 k34, PySem.W.mg_of X G a34⟩⟩
  have C34 := ok_law_end (P := l.prog) (w := w) (base := base) B D34 C30 C31 C33 C15
  have D35 : Fd K mg "_law_together" s_law_together := ⟨⟨_, _, fun_mk (st := s_law_together) l35 c35 k35, PySem.W.mg_of X G a35⟩⟩
  have C35 := ok_law_together (P := l.prog) (w := w) (base := base) B D35 
  have D36 : Fd K mg "_law_sub" s_law_sub := ⟨⟨_, _, fun_mk (st := s_law_sub) l36 c36 k36, PySem.W.mg_of X G a36⟩⟩
  have C36 := ok_law_sub (P := l.prog) (w := w) (base := base) B D36 
  have D37 : Fd K mg "_law_same" s_law_same := ⟨⟨_, _, fun_mk (st := s_law_same) l37 c37 k37, PySem.W.mg_of X G a37⟩⟩
  have C37 := ok_law_same (P := l.prog) (w := w) (base := base) B D37 
  have D38 : Fd K mg "_law_market" s_law_market := ⟨⟨_, _, fun_mk (st := s_law_market) l38 c38 k38, PySem.W.mg_of X G a38⟩⟩
  have C38 := ok_law_market (P := l.prog) (w := w) (base := base) B D38 C1 C2 C29
  have D39 : Fd K mg "_law_claim" s_law_claim := ⟨⟨_, _, fun_mk (st := s_law_claim) l39 c39 k39, PySem.W.mg_of X G a39⟩⟩
  have C39 := ok_law_claim (P := l.prog) (w := w) (base := base) B D39 C1
  have D40 : Fd K mg "_law_any_holds" s_law_any_holds := ⟨⟨_, _, fun_mk (st := s_law_any_holds) l40 c40 k40, PySem.W.mg_of X G a40⟩⟩
  have C40 := ok_law_any_holds (P := l.prog) (w := w) (base := base) B D40 C30 C1 C32 C31 C33 C37 C36 C35 C27 C17 C22
  exact ok_law (P := l.prog) (w := w) (base := base) B (fun_mk (st := s_law) l41 c41 k41) C30 C40 C39 C1 C34 C38 C31 C2 C33 C37 C0 C35 C26 C23 C15 C28 C22
end Nz
open PySem PySem.W PyProof.Rows
set_option maxHeartbeats 0 in
theorem PySem.Challenge.cw_nosurewin_k67_claims_added_and_scaled_on_holds : PySem.Challenge.rw_nosurewin_k67_claims_added_and_scaled_on.Holds := by
  w_on; o_law; k_head; (case hw => w_witness2)
  k_fill
  refine Nz.walk_ofG (l := PySem.Challenge.rw_nosurewin_k67_claims_added_and_scaled_on) (n := 63) (k := 9) (x := "script") rfl (by decide) rfl ⟨rfl, by decide, by decide⟩ (fun w h Y => PySem.W.kIn_of Y) ?F
  case F =>
    intro w mg fa h KX G hmg
    refine' Nz.all_mk KX G hmg ?a0 ?l0 ?c0 ?k0 ?a1 ?l1 ?c1 ?k1 ?a2 ?l2 ?c2 ?k2 ?a3 ?l3 ?c3 ?k3 ?a4 ?l4 ?c4 ?k4 ?a5 ?l5 ?c5 ?k5 ?a6 ?l6 ?c6 ?k6 ?a7 ?l7 ?c7 ?k7 ?a8 ?l8 ?c8 ?k8 ?a9 ?l9 ?c9 ?k9 ?a10 ?l10 ?c10 ?k10 ?a11 ?l11 ?c11 ?k11 ?a12 ?l12 ?c12 ?k12 ?a13 ?l13 ?c13 ?k13 ?a14 ?l14 ?c14 ?k14 ?a15 ?l15 ?c15 ?k15 ?a16 ?l16 ?c16 ?k16 ?a17 ?l17 ?c17 ?k17 ?a18 ?l18 ?c18 ?k18 ?a19 ?l19 ?c19 ?k19 ?a20 ?l20 ?c20 ?k20 ?a21 ?l21 ?c21 ?k21 ?a22 ?l22 ?c22 ?k22 ?a23 ?l23 ?c23 ?k23 ?a24 ?l24 ?c24 ?k24 ?a25 ?l25 ?c25 ?k25 ?a26 ?l26 ?c26 ?k26 ?a27 ?l27 ?c27 ?k27 ?a28 ?l28 ?c28 ?k28 ?a29 ?l29 ?c29 ?k29 ?a30 ?l30 ?c30 ?k30 ?a31 ?l31 ?c31 ?k31 ?a32 ?l32 ?c32 ?k32 ?a33 ?l33 ?c33 ?k33 ?a34 ?l34 ?c34 ?k34 ?a35 ?l35 ?c35 ?k35 ?a36 ?l36 ?c36 ?k36 ?a37 ?l37 ?c37 ?k37 ?a38 ?l38 ?c38 ?k38 ?a39 ?l39 ?c39 ?k39 ?a40 ?l40 ?c40 ?k40 ?a41 ?l41 ?c41 ?k41 ?z_abs ?z_all ?z_bool ?z_enumerate ?z_int ?z_isinstance ?z_len ?z_list ?z_range ?z_repr ?z_set ?z_sorted ?z_str ?z_tuple ?q_MAX_AMOUNT ?q_MAX_PART ?q_MAX_STEPS
    (case a0 => k_is)
    (case l0 => k_is)
    (case c0 => k_is)
    (case k0 => k_is)
    (case a1 => k_is)
    (case l1 => k_is)
    (case c1 => k_is)
    (case k1 => k_is)
    (case a2 => k_is)
    (case l2 => k_is)
    (case c2 => k_is)
    (case k2 => k_is)
    (case a3 => k_is)
    (case l3 => k_is)
    (case c3 => k_is)
    (case k3 => k_is)
    (case a4 => k_is)
    (case l4 => k_is)
    (case c4 => k_is)
    (case k4 => k_is)
    (case a5 => k_is)
    (case l5 => k_is)
    (case c5 => k_is)
    (case k5 => k_is)
    (case a6 => k_is)
    (case l6 => k_is)
    (case c6 => k_is)
    (case k6 => k_is)
    (case a7 => k_is)
    (case l7 => k_is)
    (case c7 => k_is)
    (case k7 => k_is)
    (case a8 => k_is)
    (case l8 => k_is)
    (case c8 => k_is)
    (case k8 => k_is)
    (case a9 => k_is)
    (case l9 => k_is)
    (case c9 => k_is)
    (case k9 => k_is)
    (case a10 => k_is)
    (case l10 => k_is)
    (case c10 => k_is)
    (case k10 => k_is)
    (case a11 => k_is)
    (case l11 => k_is)
    (case c11 => k_is)
    (case k11 => k_is)
    (case a12 => k_is)
    (case l12 => k_is)
    (case c12 => k_is)
    (case k12 => k_is)
    (case a13 => k_is)
    (case l13 => k_is)
    (case c13 => k_is)
    (case k13 => k_is)
    (case a14 => k_is)
    (case l14 => k_is)
    (case c14 => k_is)
    (case k14 => k_is)
    (case a15 => k_is)
    (case l15 => k_is)
    (case c15 => k_is)
    (case k15 => k_is)
    (case a16 => k_is)
    (case l16 => k_is)
    (case c16 => k_is)
    (case k16 => k_is)
    (case a17 => k_is)
    (case l17 => k_is)
    (case c17 => k_is)
    (case k17 => k_is)
    (case a18 => k_is)
    (case l18 => k_is)
    (case c18 => k_is)
    (case k18 => k_is)
    (case a19 => k_is)
    (case l19 => k_is)
    (case c19 => k_is)
    (case k19 => k_is)
    (case a20 => k_is)
    (case l20 => k_is)
    (case c20 => k_is)
    (case k20 => k_is)
    (case a21 => k_is)
    (case l21 => k_is)
    (case c21 => k_is)
    (case k21 => k_is)
    (case a22 => k_is)
    (case l22 => k_is)
    (case c22 => k_is)
    (case k22 => k_is)
    (case a23 => k_is)
    (case l23 => k_is)
    (case c23 => k_is)
    (case k23 => k_is)
    (case a24 => k_is)
    (case l24 => k_is)
    (case c24 => k_is)
    (case k24 => k_is)
    (case a25 => k_is)
    (case l25 => k_is)
    (case c25 => k_is)
    (case k25 => k_is)
    (case a26 => k_is)
    (case l26 => k_is)
    (case c26 => k_is)
    (case k26 => k_is)
    (case a27 => k_is)
    (case l27 => k_is)
    (case c27 => k_is)
    (case k27 => k_is)
    (case a28 => k_is)
    (case l28 => k_is)
    (case c28 => k_is)
    (case k28 => k_is)
    (case a29 => k_is)
    (case l29 => k_is)
    (case c29 => k_is)
    (case k29 => k_is)
    (case a30 => k_is)
    (case l30 => k_is)
    (case c30 => k_is)
    (case k30 => k_is)
    (case a31 => k_is)
    (case l31 => k_is)
    (case c31 => k_is)
    (case k31 => k_is)
    (case a32 => k_is)
    (case l32 => k_is)
    (case c32 => k_is)
    (case k32 => k_is)
    (case a33 => k_is)
    (case l33 => k_is)
    (case c33 => k_is)
    (case k33 => k_is)
    (case a34 => k_is)
    (case l34 => k_is)
    (case c34 => k_is)
    (case k34 => k_is)
    (case a35 => k_is)
    (case l35 => k_is)
    (case c35 => k_is)
    (case k35 => k_is)
    (case a36 => k_is)
    (case l36 => k_is)
    (case c36 => k_is)
    (case k36 => k_is)
    (case a37 => k_is)
    (case l37 => k_is)
    (case c37 => k_is)
    (case k37 => k_is)
    (case a38 => k_is)
    (case l38 => k_is)
    (case c38 => k_is)
    (case k38 => k_is)
    (case a39 => k_is)
    (case l39 => k_is)
    (case c39 => k_is)
    (case k39 => k_is)
    (case a40 => k_is)
    (case l40 => k_is)
    (case c40 => k_is)
    (case k40 => k_is)
    (case a41 => k_is)
    (case l41 => k_is)
    (case c41 => k_is)
    (case k41 => k_is)
    (case z_abs => k_is)
    (case z_all => k_is)
    (case z_bool => k_is)
    (case z_enumerate => k_is)
    (case z_int => k_is)
    (case z_isinstance => k_is)
    (case z_len => k_is)
    (case z_list => k_is)
    (case z_range => k_is)
    (case z_repr => k_is)
    (case z_set => k_is)
    (case z_sorted => k_is)
    (case z_str => k_is)
    (case z_tuple => k_is)
    (case q_MAX_AMOUNT => k_is)
    (case q_MAX_PART => k_is)
    (case q_MAX_STEPS => k_is)

